import PyProof.Rows.All
import HandS.ForMost
import HandS.Zip
import HandS.Wide
import HandS.EndBits
import HandS.IsInst
import HandS.EndTab
import HandS.TryMany
import HandS.ExcIs
import HandS.ExcOwn
import HandS.Exc
import HandS.TupAny
import HandS.TupLe
import HandS.TupMul
import HandS.Style
import HandS.FStr
import HandS.Text
import HandS.NoneIn
import HandS.SortKw
import HandS.WordsExc
import HandS.CallSlots
import HandS.ExcCtx
import HandS.HotCalls
import HandS.HeadWalk
import KE.RegKIsAll
import PySem.Challenge.RW_fewmirrors_k33_classes_alike
set_option Elab.async false
set_option linter.all false
set_option maxRecDepth 100000
set_option maxHeartbeats 0
namespace DD
open PySem PySem.Spec L2
open PyProof.Rows hiding St

inductive D where
  | non
  | bl (b : Bool)
  | int (i : Int)
  | str (x : Str)
  | tup (l : List D)
  | lst (l : List D)
  | fz (l : List D)
  | ins (c : Str) (ks : List Str) (l : List D)

/-- v: frozen data; m: a list of one's own; mi: an instance of one's own -/
inductive A where
  | v (d : D)
  | m (l : List A)
  | mi (c : Str) (ks : List Str) (l : List A)

mutual
def A.frz : A → D
  | .v d => d
  | .m l => .lst (frzs l)
  | .mi c ks l => .ins c ks (frzs l)
def frzs : List A → List D
  | [] => []
  | a :: l => a.frz :: frzs l
end
theorem frzs_eq : ∀ l : List A, frzs l = l.map A.frz
  | [] => rfl
  | a :: l => by rw [frzs, frzs_eq l]; rfl
theorem frzs_v : ∀ l : List D, frzs (l.map A.v) = l
  | [] => rfl
  | a :: l => by rw [List.map_cons, frzs, frzs_v l]; rfl

section
variable (K : PySem.W.Frag) (mg : Str → Option Value)
mutual
inductive RepD (Z : Hp) : V → D → Prop
  | non : RepD Z .non .non
  | bl (b : Bool) : RepD Z (.bl b) (.bl b)
  | int (i : Int) : RepD Z (.int i) (.int i)
  | str (x : Str) : RepD Z (.str x) (.str x)
  | tup {a : Addr} {vs : List V} {ds : List D} : SqT K Z a vs → RepDs Z vs ds → RepD Z (.ref a) (.tup ds)
  | lst {a : Addr} {vs : List V} {ds : List D} : Z a = some (.lst vs) → RepDs Z vs ds → RepD Z (.ref a) (.lst ds)
  | fz {a : Addr} {vs : List V} {ds : List D} : SqL K Z a vs → RepDs Z vs ds → RepD Z (.ref a) (.fz ds)
  | ins {a C dx : Addr} {c : Str} {ws : List (Str × V)} {ds : List D} : mg c = some (.ref C) → Z a = some (.ins C dx ws) → RepDs Z (ws.map (·.2)) ds → RepD Z (.ref a) (.ins c (ws.map (·.1)) ds)
inductive RepDs (Z : Hp) : List V → List D → Prop
  | nil : RepDs Z [] []
  | cons {x : V} {xs : List V} {d : D} {ds : List D} : RepD Z x d → RepDs Z xs ds → RepDs Z (x :: xs) (d :: ds)
end
mutual
inductive RepA (Z H : Hp) : V → A → List Addr → Prop
  | v {x : V} {d : D} : RepD K mg Z x d → RepA Z H x (.v d) []
  | m {a : Addr} {vs : List V} {l : List A} {fp : List Addr} : H a = some (.lst vs) → RepAs Z H vs l fp → RepA Z H (.ref a) (.m l) (a :: fp)
  | mi {a C dx : Addr} {c : Str} {ws : List (Str × V)} {l : List A} {fp : List Addr} : mg c = some (.ref C) → H a = some (.ins C dx ws) → RepAs Z H (ws.map (·.2)) l fp →
      RepA Z H (.ref a) (.mi c (ws.map (·.1)) l) (a :: fp)
inductive RepAs (Z H : Hp) : List V → List A → List Addr → Prop
  | nil : RepAs Z H [] [] []
  | cons {x : V} {xs : List V} {a : A} {as : List A} {f g : List Addr} : RepA Z H x a f → RepAs Z H xs as g → RepAs Z H (x :: xs) (a :: as) (f ++ g)
end
end

section
variable {K : PySem.W.Frag} {mg : Str → Option Value} {Z Z' H H' : Hp}

theorem sameT {a : Addr} {xs : List V} (e : Same Z Z') (h : SqT K Z a xs) : SqT K Z' a xs := by
  rcases h with (h | ⟨o, h⟩) | h
  · exact .inl (.inl (e _ _ h))
  · exact .inl (.inr ⟨o, e _ _ h⟩)
  · exact .inr h

mutual
theorem RepD.mono (e : Same Z Z') : ∀ (d : D) (x : V), RepD K mg Z x d → RepD K mg Z' x d
  | .non, _, h => by cases h; exact .non
  | .bl _, _, h => by cases h; exact .bl _
  | .int _, _, h => by cases h; exact .int _
  | .str _, _, h => by cases h; exact .str _
  | .tup l, _, h => by
    cases h with
    | tup h1 h2 => exact .tup (sameT e h1) (RepDs.mono e l _ h2)
  | .lst l, _, h => by
    cases h with
    | lst h1 h2 => exact .lst (e _ _ h1) (RepDs.mono e l _ h2)
  | .fz l, _, h => by
    cases h with
    | fz h1 h2 => exact .fz (e.seq h1) (RepDs.mono e l _ h2)
  | .ins c ks l, _, h => by
    cases h with
    | ins h1 h2 h3 => exact .ins h1 (e _ _ h2) (RepDs.mono e l _ h3)
theorem RepDs.mono (e : Same Z Z') : ∀ (ds : List D) (xs : List V), RepDs K mg Z xs ds → RepDs K mg Z' xs ds
  | [], _, h => by cases h; exact .nil
  | d :: ds, _, h => by
    cases h with
    | cons h1 h2 => exact .cons (RepD.mono e d _ h1) (RepDs.mono e ds _ h2)
end

mutual
theorem RepA.mono (e : Same Z Z') : ∀ (a : A) (x : V) (fp : List Addr), (∀ b ∈ fp, H' b = H b) → RepA K mg Z H x a fp → RepA K mg Z' H' x a fp
  | .v d, _, _, _, h => by
    cases h with
    | v h => exact .v (RepD.mono e d _ h)
  | .m l, _, _, k, h => by
    cases h with
    | m h1 h2 => exact .m ((k _ List.mem_cons_self).trans h1) (RepAs.mono e l _ _ (fun b hb => k b (List.mem_cons_of_mem _ hb)) h2)
  | .mi c ks l, _, _, k, h => by
    cases h with
    | mi h1 h2 h3 => exact .mi h1 ((k _ List.mem_cons_self).trans h2) (RepAs.mono e l _ _ (fun b hb => k b (List.mem_cons_of_mem _ hb)) h3)
theorem RepAs.mono (e : Same Z Z') : ∀ (l : List A) (xs : List V) (fp : List Addr), (∀ b ∈ fp, H' b = H b) → RepAs K mg Z H xs l fp → RepAs K mg Z' H' xs l fp
  | [], _, _, _, h => by cases h; exact .nil
  | a :: l, _, _, k, h => by
    cases h with
    | cons h1 h2 => exact .cons (RepA.mono e a _ _ (fun b hb => k b (List.mem_append_left _ hb)) h1) (RepAs.mono e l _ _ (fun b hb => k b (List.mem_append_right _ hb)) h2)
end

mutual
theorem RepA.freeze (e : Same Z Z') : ∀ (a : A) (x : V) (fp : List Addr), (∀ b ∈ fp, Z' b = H b) → RepA K mg Z H x a fp → RepD K mg Z' x a.frz
  | .v d, _, _, _, h => by
    cases h with
    | v h => exact RepD.mono e d _ h
  | .m l, _, _, k, h => by
    cases h with
    | m h1 h2 => exact .lst ((k _ List.mem_cons_self).trans h1) (RepAs.freeze e l _ _ (fun b hb => k b (List.mem_cons_of_mem _ hb)) h2)
  | .mi c ks l, _, _, k, h => by
    cases h with
    | mi h1 h2 h3 => exact .ins h1 ((k _ List.mem_cons_self).trans h2) (RepAs.freeze e l _ _ (fun b hb => k b (List.mem_cons_of_mem _ hb)) h3)
theorem RepAs.freeze (e : Same Z Z') : ∀ (l : List A) (xs : List V) (fp : List Addr), (∀ b ∈ fp, Z' b = H b) → RepAs K mg Z H xs l fp → RepDs K mg Z' xs (frzs l)
  | [], _, _, _, h => by cases h; exact .nil
  | a :: l, _, _, k, h => by
    cases h with
    | cons h1 h2 => exact .cons (RepA.freeze e a _ _ (fun b hb => k b (List.mem_append_left _ hb)) h1) (RepAs.freeze e l _ _ (fun b hb => k b (List.mem_append_right _ hb)) h2)
end

mutual
theorem RepA.there : ∀ (a : A) (x : V) (fp : List Addr), RepA K mg Z H x a fp → ∀ b ∈ fp, ∃ o, H b = some o
  | .v d, _, _, h, b, hb => by
    cases h with
    | v h => cases hb
  | .m l, _, _, h, b, hb => by
    cases h with
    | m h1 h2 =>
      rcases List.mem_cons.mp hb with e | hb
      · exact e ▸ ⟨_, h1⟩
      · exact RepAs.there l _ _ h2 b hb
  | .mi c ks l, _, _, h, b, hb => by
    cases h with
    | mi h1 h2 h3 =>
      rcases List.mem_cons.mp hb with e | hb
      · exact e ▸ ⟨_, h2⟩
      · exact RepAs.there l _ _ h3 b hb
theorem RepAs.there : ∀ (l : List A) (xs : List V) (fp : List Addr), RepAs K mg Z H xs l fp → ∀ b ∈ fp, ∃ o, H b = some o
  | [], _, _, h, b, hb => by cases h; cases hb
  | a :: l, _, _, h, b, hb => by
    cases h with
    | cons h1 h2 =>
      rcases List.mem_append.mp hb with hb | hb
      · exact RepA.there a _ _ h1 b hb
      · exact RepAs.there l _ _ h2 b hb
end

/-- all but the tables -/
def noT (H : Hp) : Hp := fun a => match H a with
  | some (.tbl _) => none
  | o => o
theorem noT_same {H : Hp} : Same (noT H) H := fun a o e => by
  unfold noT at e
  split at e
  · cases e
  · exact e
theorem noT_nt {H : Hp} (a : Addr) (ps : Array Value) : noT H a ≠ some (.tbl ps) := fun e => by
  unfold noT at e
  split at e
  · cases e
  · rename_i h; exact h _ e
theorem noT_of {H : Hp} {a : Addr} {o : HO} (e : H a = some o) (n : ∀ ps, o ≠ .tbl ps) : noT H a = some o := by
  unfold noT
  rw [e]
  split
  · rename_i h; cases h; exact (n _ rfl).elim
  · rfl
theorem noT_seq {H : Hp} {a : Addr} {xs : List V} (h : SqL K H a xs) : SqL K (noT H) a xs := by
  rcases h with (h | ⟨o, h⟩) | h
  · exact .inl (.inl (noT_of h fun _ z => by cases z))
  · exact .inl (.inr ⟨o, noT_of h fun _ z => by cases z⟩)
  · exact .inr h
/-- what may be written -/
def Mut (o : HO) : Prop := (∃ xs, o = .lst xs) ∨ ∃ C dx ws, o = .ins C dx ws
mutual
theorem RepA.thereM : ∀ (a : A) (x : V) (fp : List Addr), RepA K mg Z H x a fp → ∀ b ∈ fp, ∃ o, H b = some o ∧ Mut o
  | .v d, _, _, h, b, hb => by
    cases h with
    | v h => cases hb
  | .m l, _, _, h, b, hb => by
    cases h with
    | m h1 h2 =>
      rcases List.mem_cons.mp hb with e | hb
      · exact e ▸ ⟨_, h1, .inl ⟨_, rfl⟩⟩
      · exact RepAs.thereM l _ _ h2 b hb
  | .mi c ks l, _, _, h, b, hb => by
    cases h with
    | mi h1 h2 h3 =>
      rcases List.mem_cons.mp hb with e | hb
      · exact e ▸ ⟨_, h2, .inr ⟨_, _, _, rfl⟩⟩
      · exact RepAs.thereM l _ _ h3 b hb
theorem RepAs.thereM : ∀ (l : List A) (xs : List V) (fp : List Addr), RepAs K mg Z H xs l fp → ∀ b ∈ fp, ∃ o, H b = some o ∧ Mut o
  | [], _, _, h, b, hb => by cases h; cases hb
  | a :: l, _, _, h, b, hb => by
    cases h with
    | cons h1 h2 =>
      rcases List.mem_append.mp hb with hb | hb
      · exact RepA.thereM a _ _ h1 b hb
      · exact RepAs.thereM l _ _ h2 b hb
end

theorem RepDs.length : ∀ {xs : List V} {ds : List D}, RepDs K mg Z xs ds → xs.length = ds.length
  | [], _, h => by cases h; rfl
  | _ :: xs, _, h => by
    cases h with
    | cons _ h => simp [RepDs.length h]
theorem RepAs.length : ∀ {xs : List V} {l : List A} {fp : List Addr}, RepAs K mg Z H xs l fp → xs.length = l.length
  | [], _, _, h => by cases h; rfl
  | _ :: xs, _, _, h => by
    cases h with
    | cons _ h => simp [RepAs.length h]
theorem RepDs.get : ∀ {xs : List V} {ds : List D} {i : Nat} {d : D}, RepDs K mg Z xs ds → ds[i]? = some d → ∃ x, xs[i]? = some x ∧ RepD K mg Z x d
  | [], _, _, _, h, e => by cases h; simp at e
  | x :: xs, _, 0, _, h, e => by
    cases h with
    | cons h1 h2 => simp at e; subst e; exact ⟨_, rfl, h1⟩
  | x :: xs, _, i + 1, _, h, e => by
    cases h with
    | cons h1 h2 =>
      obtain ⟨y, h3, h4⟩ := RepDs.get (i := i) h2 (by simpa using e)
      exact ⟨y, by simpa using h3, h4⟩
theorem RepDs.get' : ∀ {xs : List V} {ds : List D} {i : Nat} {x : V}, RepDs K mg Z xs ds → xs[i]? = some x → ∃ d, ds[i]? = some d ∧ RepD K mg Z x d
  | [], _, _, _, h, e => by simp at e
  | x :: xs, _, 0, _, h, e => by
    cases h with
    | cons h1 h2 => simp at e; subst e; exact ⟨_, rfl, h1⟩
  | x :: xs, _, i + 1, _, h, e => by
    cases h with
    | cons h1 h2 =>
      obtain ⟨y, h3, h4⟩ := RepDs.get' (i := i) h2 (by simpa using e)
      exact ⟨y, by simpa using h3, h4⟩
theorem RepDs.append : ∀ {xs ys : List V} {ds es : List D}, RepDs K mg Z xs ds → RepDs K mg Z ys es → RepDs K mg Z (xs ++ ys) (ds ++ es)
  | [], _, _, _, h, g => by cases h; exact g
  | x :: xs, _, _, _, h, g => by
    cases h with
    | cons h1 h2 => exact .cons h1 (RepDs.append h2 g)
theorem RepDs.take : ∀ {xs : List V} {ds : List D} (n : Nat), RepDs K mg Z xs ds → RepDs K mg Z (xs.take n) (ds.take n)
  | _, _, 0, _ => .nil
  | [], _, _ + 1, h => by cases h; exact .nil
  | x :: xs, _, n + 1, h => by
    cases h with
    | cons h1 h2 => exact .cons h1 (RepDs.take n h2)
theorem RepDs.drop : ∀ {xs : List V} {ds : List D} (n : Nat), RepDs K mg Z xs ds → RepDs K mg Z (xs.drop n) (ds.drop n)
  | _, _, 0, h => h
  | [], _, _ + 1, h => by cases h; exact .nil
  | x :: xs, _, n + 1, h => by
    cases h with
    | cons h1 h2 => exact RepDs.drop n h2
theorem RepDs.reverse : ∀ {xs : List V} {ds : List D}, RepDs K mg Z xs ds → RepDs K mg Z xs.reverse ds.reverse
  | [], _, h => by cases h; exact .nil
  | x :: xs, _, h => by
    cases h with
    | cons h1 h2 =>
      rw [List.reverse_cons, List.reverse_cons]
      exact RepDs.append (RepDs.reverse h2) (.cons h1 .nil)
/-- frozen data as a list of A -/
theorem RepDs.toA : ∀ {xs : List V} {ds : List D}, RepDs K mg Z xs ds → RepAs K mg Z H xs (ds.map A.v) []
  | [], _, h => by cases h; exact .nil
  | x :: xs, _, h => by
    cases h with
    | cons h1 h2 =>
      have q := RepAs.cons (H := H) (.v h1) (RepDs.toA h2)
      exact q
theorem RepAs.append : ∀ {xs ys : List V} {l k : List A} {f g : List Addr}, RepAs K mg Z H xs l f → RepAs K mg Z H ys k g → RepAs K mg Z H (xs ++ ys) (l ++ k) (f ++ g)
  | [], _, _, _, _, _, h, g => by cases h; exact g
  | x :: xs, _, _, _, _, _, h, g => by
    cases h with
    | cons h1 h2 =>
      rw [List.append_assoc]
      exact .cons h1 (RepAs.append h2 g)
/-- an element and what is left of the list when it is put otherwise, taken out -/
theorem RepAs.at : ∀ {xs : List V} {l : List A} {f : List Addr} {i : Nat} {a : A}, RepAs K mg Z H xs l f → l[i]? = some a →
    ∃ x fa, xs[i]? = some x ∧ RepA K mg Z H x a fa ∧ (∃ g, RepAs K mg Z H (xs.eraseIdx i) (l.eraseIdx i) g ∧ ∀ y, g.count y + fa.count y = f.count y) ∧
      ∀ {y : V} {c : A} {fc : List Addr}, RepA K mg Z H y c fc → ∃ g, RepAs K mg Z H (xs.set i y) (l.set i c) g ∧ ∀ z, g.count z + fa.count z = f.count z + fc.count z
  | [], _, _, _, _, h, e => by cases h; simp at e
  | x :: xs, _, _, 0, _, h, e => by
    cases h with
    | @cons _ _ a as fa g h1 h2 =>
      simp at e; subst e
      refine ⟨x, fa, rfl, h1, ⟨g, h2, fun y => by rw [List.count_append]; omega⟩, fun {y c fc} hc => ⟨fc ++ g, .cons hc h2, fun z => by rw [List.count_append, List.count_append]; omega⟩⟩
  | x :: xs, _, _, i + 1, _, h, e => by
    cases h with
    | @cons _ _ a0 as f0 g0 h1 h2 =>
      obtain ⟨y, fa, e1, r, ⟨g, r2, e2⟩, r3⟩ := RepAs.at (i := i) h2 (by simpa using e)
      refine ⟨y, fa, by simpa using e1, r, ⟨f0 ++ g, ?_, fun z => ?_⟩, fun {y c fc} hc => ?_⟩
      · exact .cons h1 r2
      · have := e2 z; rw [List.count_append, List.count_append]; omega
      · obtain ⟨g', r4, e4⟩ := r3 hc
        refine ⟨f0 ++ g', .cons h1 r4, fun z => ?_⟩
        have := e4 z
        rw [List.count_append, List.count_append]; omega
end

abbrev DEnv := List (Option A)
section
variable (K : PySem.W.Frag) (mg : Str → Option Value)
inductive SRep (P : Nat → Addr → Prop) (Z H : Hp) : Nat → St → DEnv → List Addr → Prop
  | nil {n : Nat} : SRep P Z H n [] [] []
  | no {n : Nat} {s : Option V} {σ : St} {ρ : DEnv} {f : List Addr} : SRep P Z H (n + 1) σ ρ f → SRep P Z H n (s :: σ) (none :: ρ) f
  | so {n : Nat} {x : V} {a : A} {σ : St} {ρ : DEnv} {f g : List Addr} : RepA K mg Z H x a f → (∀ b ∈ f, P n b) → SRep P Z H (n + 1) σ ρ g → SRep P Z H n (some x :: σ) (some a :: ρ) (f ++ g)
end
section
variable {K : PySem.W.Frag} {mg : Str → Option Value} {P P' : Nat → Addr → Prop} {Z Z' H H' : Hp}
theorem SRep.length : ∀ {σ : St} {n : Nat} {ρ : DEnv} {f : List Addr}, SRep K mg P Z H n σ ρ f → σ.length = ρ.length
  | [], _, _, _, h => by cases h; rfl
  | _ :: σ, _, _, _, h => by
    cases h with
    | no h => simp [SRep.length h]
    | so _ _ h => simp [SRep.length h]
theorem SRep.mono (e : Same Z Z') : ∀ {σ : St} {n : Nat} {ρ : DEnv} {f : List Addr}, (∀ b ∈ f, H' b = H b) → (∀ n, ∀ b ∈ f, P n b → P' n b) → SRep K mg P Z H n σ ρ f → SRep K mg P' Z' H' n σ ρ f
  | [], _, _, _, _, _, h => by cases h; exact .nil
  | _ :: σ, _, _, _, k, p, h => by
    cases h with
    | no h => exact .no (SRep.mono e k p h)
    | so h1 h2 h3 =>
      exact .so (RepA.mono e _ _ _ (fun b hb => k b (List.mem_append_left _ hb)) h1) (fun b hb => p _ b (List.mem_append_left _ hb) (h2 b hb))
        (SRep.mono e (fun b hb => k b (List.mem_append_right _ hb)) (fun n b hb => p n b (List.mem_append_right _ hb)) h3)
theorem SRep.there : ∀ {σ : St} {n : Nat} {ρ : DEnv} {f : List Addr}, SRep K mg P Z H n σ ρ f → ∀ b ∈ f, ∃ o, H b = some o
  | [], _, _, _, h, b, hb => by cases h; cases hb
  | _ :: σ, _, _, _, h, b, hb => by
    cases h with
    | no h => exact SRep.there h b hb
    | so h1 h2 h3 =>
      rcases List.mem_append.mp hb with hb | hb
      · exact RepA.there _ _ _ h1 b hb
      · exact SRep.there h3 b hb
theorem SRep.thereM : ∀ {σ : St} {n : Nat} {ρ : DEnv} {f : List Addr}, SRep K mg P Z H n σ ρ f → ∀ b ∈ f, ∃ o, H b = some o ∧ Mut o
  | [], _, _, _, h, b, hb => by cases h; cases hb
  | _ :: σ, _, _, _, h, b, hb => by
    cases h with
    | no h => exact SRep.thereM h b hb
    | so h1 h2 h3 =>
      rcases List.mem_append.mp hb with hb | hb
      · exact RepA.thereM _ _ _ h1 b hb
      · exact SRep.thereM h3 b hb
theorem SRep.p : ∀ {σ : St} {n : Nat} {ρ : DEnv} {f : List Addr}, SRep K mg P Z H n σ ρ f → ∀ b ∈ f, ∃ n, P n b
  | [], _, _, _, h, b, hb => by cases h; cases hb
  | _ :: σ, _, _, _, h, b, hb => by
    cases h with
    | no h => exact SRep.p h b hb
    | so h1 h2 h3 =>
      rcases List.mem_append.mp hb with hb | hb
      · exact ⟨_, h2 b hb⟩
      · exact SRep.p h3 b hb
/-- a slot is taken out -/
theorem SRep.out : ∀ {σ : St} {n : Nat} {ρ : DEnv} {f : List Addr} {i : Nat} {a : A}, SRep K mg P Z H n σ ρ f → ρ[i]? = some (some a) →
    ∃ x fa g, σ[i]? = some (some x) ∧ RepA K mg Z H x a fa ∧ (∀ b ∈ fa, P (n + i) b) ∧ SRep K mg P Z H n σ (ρ.set i none) g ∧ ∀ y, g.count y + fa.count y = f.count y
  | [], _, _, _, _, _, h, e => by cases h; simp at e
  | s :: σ, n, _, _, 0, _, h, e => by
    cases h with
    | no h => simp at e
    | @so _ x a0 _ _ f g h1 h2 h3 =>
      simp at e; subst e
      exact ⟨x, f, g, rfl, h1, h2, .no h3, fun y => by rw [List.count_append]; omega⟩
  | s :: σ, n, _, _, i + 1, _, h, e => by
    cases h with
    | no h =>
      obtain ⟨x, fa, g, e1, r, p, r2, e2⟩ := SRep.out (i := i) h (by simpa using e)
      exact ⟨x, fa, g, by simpa using e1, r, (by rw [← Nat.add_assoc, Nat.add_right_comm]; exact p), .no r2, e2⟩
    | @so _ x0 a0 _ _ f0 g0 h1 h2 h3 =>
      obtain ⟨x, fa, g, e1, r, p, r2, e2⟩ := SRep.out (i := i) h3 (by simpa using e)
      refine ⟨x, fa, f0 ++ g, by simpa using e1, r, (by rw [← Nat.add_assoc, Nat.add_right_comm]; exact p), .so h1 h2 r2, fun y => ?_⟩
      have := e2 y
      rw [List.count_append, List.count_append]; omega
/-- a slot is stored -/
theorem SRep.into : ∀ {σ : St} {n : Nat} {ρ : DEnv} {f : List Addr} {i : Nat} {a : A} {x : V} {fa : List Addr}, SRep K mg P Z H n σ ρ f → i < σ.length → RepA K mg Z H x a fa → (∀ b ∈ fa, P (n + i) b) →
    ∃ g, SRep K mg P Z H n (σ.set i (some x)) (ρ.set i (some a)) g ∧ ∀ y, g.count y ≤ f.count y + fa.count y
  | [], _, _, _, _, _, _, _, h, e, _, _ => by simp at e
  | s :: σ, n, _, _, 0, a, x, fa, h, e, r, p => by
    cases h with
    | @no _ _ _ _ f h => exact ⟨_, .so r p h, fun y => by rw [List.count_append]; omega⟩
    | @so _ x0 a0 _ _ f g h1 h2 h3 => exact ⟨fa ++ g, .so r p h3, fun y => by rw [List.count_append, List.count_append]; omega⟩
  | s :: σ, n, _, _, i + 1, a, x, fa, h, e, r, p => by
    have p' : ∀ b ∈ fa, P (n + 1 + i) b := by rw [Nat.add_right_comm, Nat.add_assoc]; exact p
    cases h with
    | no h =>
      obtain ⟨g, r2, e2⟩ := SRep.into (i := i) h (by simpa using e) r p'
      exact ⟨g, .no r2, e2⟩
    | @so _ x0 a0 _ _ f0 g0 h1 h2 h3 =>
      obtain ⟨g, r2, e2⟩ := SRep.into (i := i) h3 (by simpa using e) r p'
      refine ⟨f0 ++ g, .so h1 h2 r2, fun y => ?_⟩
      have := e2 y
      rw [List.count_append, List.count_append]; omega
theorem set_same {α : Type} : ∀ {l : List α} {i : Nat} {x : α}, l[i]? = some x → l.set i x = l
  | [], _, _, e => by simp at e
  | a :: l, 0, x, e => by simp at e; subst e; rfl
  | a :: l, i + 1, x, e => by rw [List.set_cons_succ, set_same (by simpa using e)]
/-- a slot is forgotten -/
theorem SRep.drop1 : ∀ {σ : St} {n : Nat} {ρ : DEnv} {f : List Addr} (i : Nat), SRep K mg P Z H n σ ρ f → ∃ g, SRep K mg P Z H n σ (ρ.set i none) g ∧ ∀ y, g.count y ≤ f.count y
  | [], _, _, _, _, h => by cases h; exact ⟨[], by simpa using .nil, fun _ => Nat.le_refl _⟩
  | s :: σ, n, _, _, 0, h => by
    cases h with
    | @no _ _ _ _ f h => exact ⟨_, .no h, fun _ => Nat.le_refl _⟩
    | @so _ x0 a0 _ _ f g h1 h2 h3 => exact ⟨g, .no h3, fun y => by rw [List.count_append]; omega⟩
  | s :: σ, n, _, _, i + 1, h => by
    cases h with
    | no h =>
      obtain ⟨g, r2, e2⟩ := SRep.drop1 i h
      exact ⟨g, .no r2, e2⟩
    | @so _ x0 a0 _ _ f0 g0 h1 h2 h3 =>
      obtain ⟨g, r2, e2⟩ := SRep.drop1 i h3
      refine ⟨f0 ++ g, .so h1 h2 r2, fun y => ?_⟩
      have := e2 y
      rw [List.count_append, List.count_append]; omega
/-- the slots' values forgotten by place: σ too -/
theorem SRep.wipe1 : ∀ {σ : St} {n : Nat} {ρ : DEnv} {f : List Addr} (i : Nat) (s : Option V), SRep K mg P Z H n σ ρ f → ∃ g, SRep K mg P Z H n (σ.set i s) (ρ.set i none) g ∧ ∀ y, g.count y ≤ f.count y
  | [], _, _, _, _, _, h => by cases h; exact ⟨[], by simpa using .nil, fun _ => Nat.le_refl _⟩
  | s :: σ, n, _, _, 0, _, h => by
    cases h with
    | @no _ _ _ _ f h => exact ⟨_, .no h, fun _ => Nat.le_refl _⟩
    | @so _ x0 a0 _ _ f g h1 h2 h3 => exact ⟨g, .no h3, fun y => by rw [List.count_append]; omega⟩
  | s :: σ, n, _, _, i + 1, s', h => by
    cases h with
    | no h =>
      obtain ⟨g, r2, e2⟩ := SRep.wipe1 i s' h
      exact ⟨g, .no r2, e2⟩
    | @so _ x0 a0 _ _ f0 g0 h1 h2 h3 =>
      obtain ⟨g, r2, e2⟩ := SRep.wipe1 i s' h3
      refine ⟨f0 ++ g, .so h1 h2 r2, fun y => ?_⟩
      have := e2 y
      rw [List.count_append, List.count_append]; omega
end

/-- what stood at the entry: the frozen part, the heap, the addresses lent by the caller, how many parameters -/
structure Base where
  Z : Hp
  H : Hp
  fp : Nat → Addr → Prop
  pn : List Nat
  σ0 : St
  kn : List (Nat × V) := []
/-- the defs that make lambdas -/
class LamN where
  names : List Str
/-- their tables of code objects, each with the name that its code objects bear -/
def tabT [LamN] (K : PySem.W.Frag) : List (Addr × Str) := LamN.names.filterMap fun x => (PySem.W.tabIn K x).map fun q => (q.2, x ++ ".<locals>." ++ "<lambda>")
/-- nothing stands there, but perhaps a table -/
def Fre (H : Hp) (a : Addr) : Prop := ∀ o, H a = some o → ∃ ps, o = .tbl ps
theorem Fre.of {H : Hp} {a : Addr} (h : H a = none) : Fre H a := fun o e => by rw [h] at e; cases e
theorem Fre.no {H : Hp} {a : Addr} {o : HO} (e : H a = some o) (n : ∀ ps, o ≠ .tbl ps) : ¬ Fre H a := fun f => by
  obtain ⟨ps, q⟩ := f o e
  exact n ps q
theorem Fre.ext {H H' : Hp} {a : Addr} (x : LamX.ExtN H H') (f : Fre H' a) : Fre H a := fun o e => by
  refine Classical.byContradiction fun n => ?_
  obtain ⟨ps, q⟩ := f o (x a o e fun ps z => n ⟨ps, z⟩)
  exact n ⟨ps, q⟩
theorem Mut.nt {o : HO} (m : Mut o) : ∀ ps, o ≠ .tbl ps := fun ps z => by
  rcases m with ⟨_, e⟩ | ⟨_, _, _, e⟩ <;> rw [e] at z <;> cases z
theorem tabs_upd {T : List (Addr × Str)} {H : Hp} {p : Addr} {o o' : HO} (t : LamX.Tabs T H) (e : H p = some o) (m : Mut o) : LamX.Tabs T (upd H p o') := fun q hq => by
  obtain ⟨ps, h1, h2, h3⟩ := t q hq
  refine ⟨ps, ?_, h2, fun pos cv hc => ?_⟩
  · rw [upd_ne (fun z => by rw [z, e] at h1; exact m.nt ps (Option.some.inj h1))]; exact h1
  · obtain ⟨c, e1, e2⟩ := h3 pos cv hc
    refine ⟨c, e1, ?_⟩
    rw [upd_ne (fun z => by
      rw [z, e] at e2
      have q := Option.some.inj e2
      unfold LamX.CodeO at q
      rcases m with ⟨_, e'⟩ | ⟨_, _, _, e'⟩ <;> rw [e'] at q <;> cases q)]
    exact e2
theorem tabs_new {T : List (Addr × Str)} {H : Hp} {p : Addr} {o : HO} (t : LamX.Tabs T H) (e : H p = none) : LamX.Tabs T (upd H p o) :=
  t.ext fun b o' h => by rw [upd_ne (ne_of_none h e)]; exact h
/-- an address of the i-th slot: lent, or made since the entry -/
def Base.Own (b : Base) (i : Nat) (a : Addr) : Prop := b.fp i a ∨ Fre b.H a
/-- the tables, the known slots -/
structure Sid [LamN] (K : PySem.W.Frag) (b : Base) (Z H : Hp) : Prop where
  tabs : LamX.Tabs (tabT K) H
  nt : ∀ a ps, Z a ≠ some (.tbl ps)
  kn : ∀ p ∈ b.kn, p.1 ∈ b.pn ∧ b.σ0[p.1]? = some (some p.2)
variable [LamN]
structure Sta (K : PySem.W.Frag) (mg : Str → Option Value) (b : Base) (Z H : Hp) (σ : St) (ρ : DEnv) (vs : List V) (as : List A) : Prop where
  zz : Same b.Z Z
  zh : Same Z H
  kz : ∀ a, ¬ Fre b.H a → Z a = b.Z a
  kh : ∀ a o, b.H a = some o → (∀ i, ¬ b.fp i a) → (∀ ps, o ≠ .tbl ps) → H a = some o
  kd : ∀ a, Fre H a → Fre b.H a
  sd : Sid K b Z H
  pin : ∀ i ∈ b.pn, σ[i]? = b.σ0[i]?
  lw : ∀ i a, b.fp i a → i ∈ b.pn
  rep : ∃ f g, SRep K mg b.Own Z H 0 σ ρ f ∧ RepAs K mg Z H vs as g ∧ (∀ y, f.count y + g.count y ≤ 1) ∧ (∀ a, a ∈ f ∨ a ∈ g → Z a = none) ∧ ∀ a ∈ g, Fre b.H a
section
variable {K : PySem.W.Frag} {mg : Str → Option Value} {b : Base} {Z Z' H H' : Hp} {σ : St} {ρ : DEnv} {vs : List V} {as : List A} {x y : V} {a c : A} {d : D} {i : Nat}
theorem same_ne {H H' : Hp} (h : Same H H') {a : Addr} (n : H a ≠ none) : H' a ≠ none := by
  cases e : H a with
  | none => exact absurd e n
  | some o => rw [h a o e]; simp
theorem mem_count {f : List Addr} {y : Addr} (h : y ∈ f) : 0 < f.count y := List.count_pos_iff.mpr h
theorem count_mem {f : List Addr} {y : Addr} (h : 0 < f.count y) : y ∈ f := List.count_pos_iff.mp h
theorem Sta.len (S : Sta K mg b Z H σ ρ vs as) : σ.length = ρ.length := let ⟨_, _, h, _⟩ := S.rep; h.length
theorem Sta.push (S : Sta K mg b Z H σ ρ vs as) (r : RepD K mg Z x d) : Sta K mg b Z H σ ρ (x :: vs) (.v d :: as) := by
  obtain ⟨f, g, h1, h2, h3⟩ := S.rep
  exact ⟨S.zz, S.zh, S.kz, S.kh, S.kd, S.sd, S.pin, S.lw, f, [] ++ g, h1, .cons (.v r) h2, h3⟩
theorem Sta.pop (S : Sta K mg b Z H σ ρ (x :: vs) (a :: as)) : Sta K mg b Z H σ ρ vs as := by
  obtain ⟨f, g, h1, h2, h3, h4, h5⟩ := S.rep
  cases h2 with
  | @cons _ _ _ _ f0 g0 r1 r2 =>
    refine ⟨S.zz, S.zh, S.kz, S.kh, S.kd, S.sd, S.pin, S.lw, f, g0, h1, r2, fun y => ?_, fun a ha => h4 a ?_, fun a ha => h5 a (List.mem_append_right _ ha)⟩
    · have := h3 y; rw [List.count_append] at this; omega
    · exact ha.imp id fun z => List.mem_append_right _ z
theorem Sta.top (S : Sta K mg b Z H σ ρ (x :: vs) (.v d :: as)) : RepD K mg Z x d := by
  obtain ⟨f, g, h1, h2, _⟩ := S.rep
  cases h2 with
  | cons r1 r2 => cases r1 with
    | v r => exact r
theorem Sta.top2 (S : Sta K mg b Z H σ ρ (y :: x :: vs) (a :: .v d :: as)) : RepD K mg Z x d := S.pop.top
/-- the frozen part grows by new addresses, the heap by the same or more -/
theorem Sta.grow (S : Sta K mg b Z H σ ρ vs as) (z : Same Z Z') (zh : Same Z' H') (hh : LamX.ExtN H H') (tb : LamX.Tabs (tabT K) H') (nt : ∀ a ps, Z' a ≠ some (.tbl ps)) (nz : ∀ a, ¬ Fre H a → Z' a = Z a) : Sta K mg b Z' H' σ ρ vs as := by
  obtain ⟨f, g, h1, h2, h3, h4, h5⟩ := S.rep
  have kf : ∀ y ∈ f, H' y = H y := fun y hy => by
    obtain ⟨o, e, m⟩ := h1.thereM y hy
    rw [e, hh _ _ e m.nt]
  have kg : ∀ y ∈ g, H' y = H y := fun y hy => by
    obtain ⟨o, e, m⟩ := RepAs.thereM _ _ _ h2 y hy
    rw [e, hh _ _ e m.nt]
  refine ⟨S.zz.trans z, zh, fun a ha => (nz a fun q => ha (S.kd a q)).trans (S.kz a ha), fun a o e ha n => hh _ _ (S.kh a o e ha n) n, fun a ha => S.kd a (ha.ext hh), ⟨tb, nt, S.sd.kn⟩, S.pin, S.lw, f, g, h1.mono z kf (fun _ _ _ p => p), RepAs.mono z _ _ _ kg h2, h3, fun a ha => ?_, h5⟩
  rw [nz a ?_]
  · exact h4 a ha
  · rcases ha with ha | ha
    · obtain ⟨o, e, m⟩ := h1.thereM a ha; exact Fre.no e m.nt
    · obtain ⟨o, e, m⟩ := RepAs.thereM _ _ _ h2 a ha; exact Fre.no e m.nt
theorem Sta.bnone (S : Sta K mg b Z H σ ρ vs as) {p : Addr} (hp : H p = none) : Fre b.H p := S.kd p (Fre.of hp)
end
end DD

namespace DD
open PySem PySem.Spec L2
open PyProof.Rows hiding St
variable [LamN]
section
variable {K : PySem.W.Frag} {mg : Str → Option Value} {b : Base} {Z Z' H H' : Hp} {σ : St} {ρ : DEnv} {vs ws : List V} {as l : List A} {x y : V} {a c : A} {d : D} {i : Nat} {p : Addr} {o : HO}
theorem same_upd (hp : H p = none) : Same H (upd H p o) := fun q u e => by rw [upd_ne (ne_of_none e hp)]; exact e
theorem Same.none_of (z : Same Z H) (hp : H p = none) : Z p = none := z.free hp
/-- a new frozen object -/
theorem Sta.newF (S : Sta K mg b Z H σ ρ vs as) (hp : H p = none) (r : RepD K mg (upd Z p o) (.ref p) d) (hn : ∀ ps, o ≠ .tbl ps := by intro _ z; cases z) : Sta K mg b (upd Z p o) (upd H p o) σ ρ (.ref p :: vs) (.v d :: as) := by
  have zp : Z p = none := S.zh.free hp
  refine Sta.push (S.grow (same_upd zp) ?_ (LamX.ExtN.of (same_upd hp)) (tabs_new S.sd.tabs hp) (fun q ps e => ?_) (fun q hq => upd_ne fun e => hq (e ▸ Fre.of hp))) r
  rotate_left
  · by_cases h : q = p
    · subst h; rw [upd_same] at e; exact hn ps (Option.some.inj e)
    · rw [upd_ne h] at e; exact S.sd.nt q ps e
  intro q u e
  by_cases h : q = p
  · subst h; rw [upd_same] at e ⊢; exact e
  · rw [upd_ne h] at e ⊢; exact S.zh _ _ e
/-- a new object that is not tracked by the state (garbage) -/
theorem Sta.newG (S : Sta K mg b Z H σ ρ vs as) (hp : H p = none) : Sta K mg b Z (upd H p o) σ ρ vs as :=
  S.grow (Same.refl Z) (S.zh.trans (same_upd hp)) (LamX.ExtN.of (same_upd hp)) (tabs_new S.sd.tabs hp) S.sd.nt (fun _ _ => rfl)
theorem RepAs.split : ∀ {ws vs : List V} {l as : List A} {g : List Addr}, ws.length = l.length → RepAs K mg Z H (ws ++ vs) (l ++ as) g → ∃ f1 f2, g = f1 ++ f2 ∧ RepAs K mg Z H ws l f1 ∧ RepAs K mg Z H vs as f2
  | [], _, [], _, g, _, h => ⟨[], g, rfl, .nil, h⟩
  | [], _, _ :: _, _, _, e, _ => by simp at e
  | _ :: _, _, [], _, _, e, _ => by simp at e
  | w :: ws, vs, a :: l, as, _, e, h => by
    cases h with
    | @cons _ _ _ _ f g h1 h2 =>
      obtain ⟨f1, f2, e1, r1, r2⟩ := RepAs.split (by simpa using e) h2
      exact ⟨f ++ f1, f2, by rw [e1, List.append_assoc], .cons h1 r1, r2⟩
/-- a new list of one's own, of pending values -/
theorem Sta.newM (S : Sta K mg b Z H σ ρ (ws ++ vs) (l ++ as)) (hl : ws.length = l.length) (hp : H p = none) : Sta K mg b Z (upd H p (.lst ws)) σ ρ (.ref p :: vs) (.m l :: as) := by
  obtain ⟨f, g, h1, h2, h3, h4, h5⟩ := S.rep
  obtain ⟨g1, g2, e, r1, r2⟩ := h2.split hl
  have nf : ∀ q ∈ f, q ≠ p := fun q hq e => by
    obtain ⟨o, z⟩ := h1.there q hq
    rw [e, hp] at z; cases z
  have ng : ∀ q ∈ g, q ≠ p := fun q hq e => by
    obtain ⟨o, z⟩ := RepAs.there _ _ _ h2 q hq
    rw [e, hp] at z; cases z
  have zp : Z p = none := S.zh.free hp
  subst e
  refine ⟨S.zz, S.zh.trans (same_upd hp), S.kz, fun q o e hq n => same_upd hp _ _ (S.kh q o e hq n), fun q hq => S.kd q (hq.ext (LamX.ExtN.of (same_upd hp))), ⟨tabs_new S.sd.tabs hp, S.sd.nt, S.sd.kn⟩, S.pin, S.lw, f, (p :: g1) ++ g2,
    h1.mono (Same.refl Z) (fun q hq => upd_ne (nf q hq)) (fun _ _ _ z => z), .cons (.m upd_same (RepAs.mono (Same.refl Z) _ _ _ (fun q hq => upd_ne (ng q (List.mem_append_left _ hq))) r1)) (RepAs.mono (Same.refl Z) _ _ _ (fun q hq => upd_ne (ng q (List.mem_append_right _ hq))) r2), fun y => ?_, fun q hq => ?_, fun q hq => ?_⟩
  · have := h3 y
    rw [List.count_append] at this ⊢
    by_cases e : y = p
    · have c1 : f.count y = 0 := List.count_eq_zero.mpr fun z => nf y z e
      have c2 : g1.count y = 0 := List.count_eq_zero.mpr fun z => ng y (List.mem_append_left _ z) e
      have c3 : g2.count y = 0 := List.count_eq_zero.mpr fun z => ng y (List.mem_append_right _ z) e
      have c4 := List.count_cons (a := y) (b := p) (l := g1)
      split at c4 <;> omega
    · rw [List.count_cons_of_ne (fun z => e z.symm)]
      omega
  · rcases hq with hq | hq
    · exact h4 q (.inl hq)
    · rcases List.mem_append.mp hq with hq | hq
      · rcases List.mem_cons.mp hq with e | hq
        · exact e ▸ zp
        · exact h4 q (.inr (List.mem_append_left _ hq))
      · exact h4 q (.inr (List.mem_append_right _ hq))
  · rcases List.mem_append.mp hq with hq | hq
    · rcases List.mem_cons.mp hq with e | hq
      · exact e ▸ S.bnone hp
      · exact h5 q (List.mem_append_left _ hq)
    · exact h5 q (List.mem_append_right _ hq)
/-- the top is frozen -/
theorem Sta.freeze (S : Sta K mg b Z H σ ρ (x :: vs) (a :: as)) : ∃ Z', Same Z Z' ∧ Sta K mg b Z' H σ ρ (x :: vs) (.v a.frz :: as) := by
  obtain ⟨f, g, h1, h2, h3, h4, h5⟩ := S.rep
  cases h2 with
  | @cons _ _ _ _ fa g0 r1 r2 =>
    have zs : Same Z (fun q => if q ∈ fa then H q else Z q) := fun q o e => by
      by_cases hq : q ∈ fa
      · rw [h4 q (.inr (List.mem_append_left _ hq))] at e; cases e
      · show (if q ∈ fa then H q else Z q) = some o
        rw [if_neg hq]; exact e
    refine ⟨fun q => if q ∈ fa then H q else Z q, zs, S.zz.trans zs, fun q o e => ?_, fun q hq => ?_, S.kh, S.kd, ⟨S.sd.tabs, fun q ps e => ?_, S.sd.kn⟩, S.pin, S.lw, f, [] ++ g0, h1.mono zs (fun _ _ => rfl) (fun _ _ _ z => z), .cons (.v (RepA.freeze zs _ _ _ (fun q hq => if_pos hq) r1)) (RepAs.mono zs _ _ _ (fun _ _ => rfl) r2), fun y => ?_, fun q hq => ?_, fun q hq => h5 q (List.mem_append_right _ hq)⟩
    · have e : (if q ∈ fa then H q else Z q) = some o := e
      split at e
      · exact e
      · exact S.zh _ _ e
    · show (if q ∈ fa then H q else Z q) = b.Z q
      rw [if_neg fun z => hq (h5 q (List.mem_append_left _ z))]
      exact S.kz q hq
    · have e : (if q ∈ fa then H q else Z q) = some (.tbl ps) := e
      split at e
      · rename_i hq
        obtain ⟨o, e', m⟩ := RepA.thereM _ _ _ r1 q hq
        rw [e'] at e
        exact m.nt ps (Option.some.inj e)
      · exact S.sd.nt q ps e
    · have := h3 y; rw [List.count_append] at this; rw [List.nil_append]; omega
    · show (if q ∈ fa then H q else Z q) = none
      have nq : q ∉ fa := fun z => by
        have c := h3 q
        rw [List.count_append] at c
        have c1 := mem_count z
        rcases hq with hq | hq
        · have := mem_count hq; omega
        · have := mem_count (f := g0) hq; omega
      rw [if_neg nq]
      exact h4 q (hq.imp id fun z => List.mem_append_right _ z)
/-- a slot that is frozen data is read -/
theorem SRep.get {P : Nat → Addr → Prop} : ∀ {σ : St} {n : Nat} {ρ : DEnv} {f : List Addr} {i : Nat} {d : D}, SRep K mg P Z H n σ ρ f → ρ[i]? = some (some (.v d)) → ∃ x, σ[i]? = some (some x) ∧ RepD K mg Z x d
  | [], _, _, _, _, _, h, e => by cases h; simp at e
  | s :: σ, n, _, _, 0, _, h, e => by
    cases h with
    | no h => simp at e
    | so h1 h2 h3 =>
      simp at e; subst e
      cases h1 with
      | v r => exact ⟨_, rfl, r⟩
  | s :: σ, n, _, _, i + 1, _, h, e => by
    cases h with
    | no h =>
      obtain ⟨x, e1, r⟩ := SRep.get (i := i) h (by simpa using e)
      exact ⟨x, by simpa using e1, r⟩
    | so h1 h2 h3 =>
      obtain ⟨x, e1, r⟩ := SRep.get (i := i) h3 (by simpa using e)
      exact ⟨x, by simpa using e1, r⟩
theorem Sta.slot (S : Sta K mg b Z H σ ρ vs as) (e : ρ[i]? = some (some (.v d))) : ∃ x, σ[i]? = some (some x) ∧ RepD K mg Z x d := by
  obtain ⟨f, g, h1, _⟩ := S.rep
  exact h1.get e
/-- the top goes to a slot -/
theorem Sta.store (S : Sta K mg b Z H σ ρ (x :: vs) (a :: as)) (hi : i < ρ.length) (hn : i ∉ b.pn) : Sta K mg b Z H (σ.set i (some x)) (ρ.set i (some a)) vs as := by
  obtain ⟨f, g, h1, h2, h3, h4, h5⟩ := S.rep
  cases h2 with
  | @cons _ _ _ _ fa g0 r1 r2 =>
    obtain ⟨f', h6, h7⟩ := h1.into (i := i) (by rw [S.len]; exact hi) r1 (fun q hq => .inr (h5 q (List.mem_append_left _ hq)))
    refine ⟨S.zz, S.zh, S.kz, S.kh, S.kd, S.sd, fun j hj => by rw [List.getElem?_set_ne (show i ≠ j from fun e => hn (by rw [e]; exact hj))]; exact S.pin j hj, S.lw, f', g0, h6, r2, fun y => ?_, fun q hq => ?_, fun q hq => h5 q (List.mem_append_right _ hq)⟩
    · have := h3 y; have := h7 y; rw [List.count_append] at *; omega
    · rcases hq with hq | hq
      · have c := mem_count hq
        have c2 := h7 q
        have : 0 < f.count q ∨ 0 < fa.count q := by omega
        rcases this with z | z
        · exact h4 q (.inl (count_mem z))
        · exact h4 q (.inr (List.mem_append_left _ (count_mem z)))
      · exact h4 q (.inr (List.mem_append_right _ hq))
/-- a slot is forgotten, whatever it holds then -/
theorem Sta.wipe1 (S : Sta K mg b Z H σ ρ vs as) (i : Nat) (s : Option V) (hn : i ∉ b.pn) : Sta K mg b Z H (σ.set i s) (ρ.set i none) vs as := by
  obtain ⟨f, g, h1, h2, h3, h4, h5⟩ := S.rep
  obtain ⟨f', h6, h7⟩ := h1.wipe1 i s
  refine ⟨S.zz, S.zh, S.kz, S.kh, S.kd, S.sd, fun j hj => by rw [List.getElem?_set_ne (show i ≠ j from fun e => hn (by rw [e]; exact hj))]; exact S.pin j hj, S.lw, f', g, h6, h2, fun y => ?_, fun q hq => ?_, h5⟩
  · have := h3 y; have := h7 y; omega
  · rcases hq with hq | hq
    · have c := mem_count hq
      have c2 := h7 q
      exact h4 q (.inl (count_mem (by omega)))
    · exact h4 q (.inr hq)
theorem Sta.drop1 (S : Sta K mg b Z H σ ρ vs as) (i : Nat) : Sta K mg b Z H σ (ρ.set i none) vs as := by
  obtain ⟨f, g, h1, h2, h3, h4, h5⟩ := S.rep
  obtain ⟨f', h6, h7⟩ := h1.drop1 i
  refine ⟨S.zz, S.zh, S.kz, S.kh, S.kd, S.sd, S.pin, S.lw, f', g, h6, h2, fun y => ?_, fun q hq => ?_, h5⟩
  · have := h3 y; have := h7 y; omega
  · rcases hq with hq | hq
    · have c := mem_count hq
      have c2 := h7 q
      exact h4 q (.inl (count_mem (by omega)))
    · exact h4 q (.inr hq)
/-- pending values dropped -/
theorem Sta.pops : ∀ {ws : List V} {l : List A}, Sta K mg b Z H σ ρ (ws ++ vs) (l ++ as) → ws.length = l.length → Sta K mg b Z H σ ρ vs as
  | [], [], S, _ => S
  | [], _ :: _, _, e => by simp at e
  | _ :: _, [], _, e => by simp at e
  | _ :: ws, _ :: l, S, e => Sta.pops (ws := ws) (l := l) S.pop (by simpa using e)
/-- the pending values put in another order: what stands below ws comes ahead -/
theorem Sta.rot (S : Sta K mg b Z H σ ρ (ws ++ x :: vs) (l ++ a :: as)) (hl : ws.length = l.length) : Sta K mg b Z H σ ρ (x :: (ws ++ vs)) (a :: (l ++ as)) := by
  obtain ⟨f, g, h1, h2, h3, h4, h5⟩ := S.rep
  obtain ⟨g1, g2, e, r1, r2⟩ := h2.split hl
  cases r2 with
  | @cons _ _ _ _ fa g0 r3 r4 =>
    subst e
    have m : ∀ q, q ∈ fa ++ (g1 ++ g0) → q ∈ g1 ++ (fa ++ g0) := fun q hq => by
      simp only [List.mem_append] at hq ⊢
      rcases hq with h | h | h
      · exact .inr (.inl h)
      · exact .inl h
      · exact .inr (.inr h)
    refine ⟨S.zz, S.zh, S.kz, S.kh, S.kd, S.sd, S.pin, S.lw, f, fa ++ (g1 ++ g0), h1, .cons r3 (r1.append r4), fun y => ?_, fun q hq => h4 q (hq.imp id (m q)), fun q hq => h5 q (m q hq)⟩
    have := h3 y
    simp only [List.count_append] at this ⊢
    omega
/-- .. and back -/
theorem Sta.unrot (S : Sta K mg b Z H σ ρ (x :: (ws ++ vs)) (a :: (l ++ as))) (hl : ws.length = l.length) : Sta K mg b Z H σ ρ (ws ++ x :: vs) (l ++ a :: as) := by
  obtain ⟨f, g, h1, h2, h3, h4, h5⟩ := S.rep
  cases h2 with
  | @cons _ _ _ _ fa g' r3 r4 =>
    obtain ⟨g1, g0, e, r1, r2⟩ := r4.split hl
    subst e
    have m : ∀ q, q ∈ g1 ++ (fa ++ g0) → q ∈ fa ++ (g1 ++ g0) := fun q hq => by
      simp only [List.mem_append] at hq ⊢
      rcases hq with h | h | h
      · exact .inr (.inl h)
      · exact .inl h
      · exact .inr (.inr h)
    refine ⟨S.zz, S.zh, S.kz, S.kh, S.kd, S.sd, S.pin, S.lw, f, g1 ++ (fa ++ g0), h1, r1.append (.cons r3 r2), fun y => ?_, fun q hq => h4 q (hq.imp id (m q)), fun q hq => h5 q (m q hq)⟩
    have := h3 y
    simp only [List.count_append] at this ⊢
    omega
/-- several pending values are frozen -/
theorem Sta.freezes : ∀ {ws : List V} {l : List A} {vs : List V} {as : List A} {Z : Hp}, Sta K mg b Z H σ ρ (ws ++ vs) (l ++ as) → ws.length = l.length →
    ∃ Z', Same Z Z' ∧ RepDs K mg Z' ws (frzs l) ∧ Sta K mg b Z' H σ ρ vs as
  | [], [], _, _, _, S, _ => ⟨_, Same.refl _, .nil, S⟩
  | [], _ :: _, _, _, _, _, e => by simp at e
  | _ :: _, [], _, _, _, _, e => by simp at e
  | w :: ws, a :: l, vs, as, Z, S, e => by
    obtain ⟨Z1, z1, S1⟩ := Sta.freeze (vs := ws ++ vs) (as := l ++ as) S
    obtain ⟨Z2, z2, r2, S2⟩ := Sta.freezes (ws := ws) (l := l) S1.pop (by simpa using e)
    exact ⟨Z2, z1.trans z2, .cons (RepD.mono z2 _ _ S1.top) r2, S2⟩
end
end DD

namespace DD
open PySem PySem.Spec L2
open PyProof.Rows hiding St
variable [LamN]

/-- an exception: its class by name, its own fields -/
structure Ex where
  c : Str
  ks : List Str := []
  ds : List D := []
inductive R (α : Type) where
  | ok (a : α) (ρ : DEnv)
  | exc (e : Ex) (ρ : DEnv)
  | bad
abbrev M (α : Type) := DEnv → R α
def R.bind {α β : Type} (r : R α) (g : α → DEnv → R β) : R β := match r with
  | .ok a ρ => g a ρ
  | .exc e ρ => .exc e ρ
  | .bad => .bad
def M.bind {α β : Type} (f : M α) (g : α → M β) : M β := fun ρ => (f ρ).bind g
def M.pure {α : Type} (a : α) : M α := fun ρ => .ok a ρ
def ofO {α : Type} (o : Option α) : M α := fun ρ => match o with
  | some a => .ok a ρ
  | none => .bad
theorem R.bind_ok {α β : Type} {a : α} {ρ : DEnv} {g : α → DEnv → R β} : (R.ok a ρ).bind g = g a ρ := rfl
theorem R.bind_exc {α β : Type} {e : Ex} {ρ : DEnv} {g : α → DEnv → R β} : (R.exc e ρ : R α).bind g = .exc e ρ := rfl
theorem R.bind_bad {α β : Type} {g : α → DEnv → R β} : (R.bad : R α).bind g = .bad := rfl
def R.sat {α : Type} (r : R α) (p : α → DEnv → Prop) (x : Ex → DEnv → Prop) : Prop := match r with
  | .ok a ρ => p a ρ
  | .exc e ρ => x e ρ
  | .bad => False
theorem R.sat_bind {α β : Type} {r : R α} {g : α → DEnv → R β} {p : β → DEnv → Prop} {x : Ex → DEnv → Prop} (h : (r.bind g).sat p x) : r.sat (fun a ρ => (g a ρ).sat p x) x := by
  cases r with
  | ok a ρ => exact h
  | exc e ρ => exact h
  | bad => exact h
theorem R.sat_mono {α : Type} {r : R α} {p q : α → DEnv → Prop} {x y : Ex → DEnv → Prop} (h : r.sat p x) (hp : ∀ a ρ, p a ρ → q a ρ) (hx : ∀ e ρ, x e ρ → y e ρ) : r.sat q y := by
  cases r with
  | ok a ρ => exact hp _ _ h
  | exc e ρ => exact hx _ _ h
  | bad => exact h

/-- what stays through a def's body: the written part, the module's names, the wish of exceptions, the lent parameters -/
structure SC where
  K : PySem.W.Frag
  mg : Str → Option Value
  W : WX
  pn : List Nat
  kn : List (Nat × V) := []
/-- the entry is of this kind -/
structure SC.Of (C : SC) (b : Base) : Prop where
  pn : b.pn = C.pn
  kn : b.kn = C.kn
def ClsIs (mg : Str → Option Value) (c : Str) (cls : Value) : Prop := mg c = some cls ∨ (mg c = none ∧ bootBuiltins c = some cls)
structure ExR (K : PySem.W.Frag) (mg : Str → Option Value) (Z : Hp) (cls : Value) (d : Option Addr) (e : Ex) : Prop where
  cls : ClsIs mg e.c cls
  own : (e.ks = [] ∧ e.ds = [] ∧ d = none) ∨ ∃ dx ws, ws ≠ [] ∧ d = some dx ∧ Z dx = some (.xd ws) ∧ e.ks = ws.map (·.1) ∧ RepDs K mg Z (ws.map (·.2)) e.ds
def XPost (C : SC) (b : Base) (vs : List V) (as : List A) (e : Ex) (ρ : DEnv) : Prop :=
  ∀ Z' H' σ' cls d, Sta C.K C.mg b Z' H' σ' ρ vs as → ExR C.K C.mg Z' cls d e → C.W cls d σ' H'
abbrev Fin (α : Type) := Base → List V → List A → α → DEnv → Prop
/-- from the state with the pending values ps on top of any others: g runs to what fin wants -/
def Go {α : Type} (C : SC) (fin : Fin α) (ps : List V) (pa : List A) (g : M α) (σ : St) (H : Hp) : Prop :=
  ∃ b Z ρ vs as, C.Of b ∧ ps.length = pa.length ∧ Sta C.K C.mg b Z H σ ρ (ps ++ vs) (pa ++ as) ∧ (g ρ).sat (fin b vs as) (XPost C b vs as)
def finE (C : SC) (σ : St) (Q : VK) : Fin A := fun b vs as a ρ => ∀ Z' H' v, Sta C.K C.mg b Z' H' σ ρ (v :: vs) (a :: as) → Q v H'
def finT (C : SC) (σ : St) (Q : Bool → Hp → Prop) : Fin Bool := fun b vs as c ρ => ∀ Z' H', Sta C.K C.mg b Z' H' σ ρ vs as → Q c H'
def finA (C : SC) (σ : St) (Q : List V → Hp → Prop) : Fin (List A) := fun b vs as l ρ => ∀ Z' H' ws, ws.length = l.length → Sta C.K C.mg b Z' H' σ ρ (ws ++ vs) (l ++ as) → Q ws H'
def tE (C : SC) (f : M A) : TE := fun σ H Q => Go C (finE C σ Q) [] [] f σ H
def tT (C : SC) (f : M Bool) : TT := fun σ H Q => Go C (finT C σ Q) [] [] f σ H
def tA (C : SC) (f : M (List A)) : TA := fun σ H Q => Go C (finA C σ Q) [] [] f σ H
inductive Flow where
  | nx
  | ret (a : A)
  | bk
  | ct
def finS (C : SC) (D : Ends) : Fin Flow := fun b vs as fl ρ => match fl with
  | .nx => ∀ Z' H' σ', Sta C.K C.mg b Z' H' σ' ρ vs as → D.nx σ' H'
  | .ret a => ∀ Z' H' σ' v, Sta C.K C.mg b Z' H' σ' ρ (v :: vs) (a :: as) → D.rt v H'
  | .bk => ∀ Z' H' σ', Sta C.K C.mg b Z' H' σ' ρ vs as → D.bk σ' H'
  | .ct => ∀ Z' H' σ', Sta C.K C.mg b Z' H' σ' ρ vs as → D.ct σ' H'
def tS (C : SC) (F : M Flow) : TS := fun D σ H => Go C (finS C D) [] [] F σ H

section
variable {α β : Type} {C : SC} {fin : Fin α} {ps : List V} {pa : List A} {σ : St} {H : Hp}
theorem XPost.pops {b : Base} {vs : List V} {as : List A} {e : Ex} {ρ : DEnv} (h : XPost C b vs as e ρ) (hl : ps.length = pa.length) : XPost C b (ps ++ vs) (pa ++ as) e ρ :=
  fun Z' H' σ' cls d S x => h Z' H' σ' cls d (S.pops hl) x
/-- an expression comes first -/
theorem Go.bindE {f : M A} {g : A → M α} (h : Go C fin ps pa (f.bind g) σ H) : tE C f σ H (fun x H1 => ∃ a, Go C fin (x :: ps) (a :: pa) (g a) σ H1) := by
  obtain ⟨b, Z, ρ, vs, as, hb, hl, S, h⟩ := h
  refine ⟨b, Z, ρ, ps ++ vs, pa ++ as, hb, rfl, S, R.sat_mono (R.sat_bind h) (fun a ρ' q Z' H' v S' => ?_) fun e ρ' q => q.pops hl⟩
  exact ⟨a, b, Z', ρ', vs, as, hb, by simp [hl], S', q⟩
theorem Go.bindT {f : M Bool} {g : Bool → M α} (h : Go C fin ps pa (f.bind g) σ H) : tT C f σ H (fun c H1 => Go C fin ps pa (g c) σ H1) := by
  obtain ⟨b, Z, ρ, vs, as, hb, hl, S, h⟩ := h
  refine ⟨b, Z, ρ, ps ++ vs, pa ++ as, hb, rfl, S, R.sat_mono (R.sat_bind h) (fun c ρ' q Z' H' S' => ?_) fun e ρ' q => q.pops hl⟩
  exact ⟨b, Z', ρ', vs, as, hb, hl, S', q⟩
theorem Go.bindA {f : M (List A)} {g : List A → M α} (h : Go C fin ps pa (f.bind g) σ H) : tA C f σ H (fun ws H1 => ∃ l, ws.length = l.length ∧ Go C fin (ws ++ ps) (l ++ pa) (g l) σ H1) := by
  obtain ⟨b, Z, ρ, vs, as, hb, hl, S, h⟩ := h
  refine ⟨b, Z, ρ, ps ++ vs, pa ++ as, hb, rfl, S, R.sat_mono (R.sat_bind h) (fun l ρ' q Z' H' ws e S' => ?_) fun e ρ' q => q.pops hl⟩
  exact ⟨l, e, b, Z', ρ', vs, as, hb, by simp [hl, e], by rw [List.append_assoc, List.append_assoc]; exact S', q⟩
theorem tE.mono {f : M A} {Q Q' : VK} (h : tE C f σ H Q) (k : ∀ v H', Q v H' → Q' v H') : tE C f σ H Q' := by
  obtain ⟨b, Z, ρ, vs, as, hb, hl, S, h⟩ := h
  exact ⟨b, Z, ρ, vs, as, hb, hl, S, R.sat_mono h (fun a ρ' q Z' H' v S' => k _ _ (q Z' H' v S')) fun _ _ q => q⟩
theorem tT.mono {f : M Bool} {Q Q' : Bool → Hp → Prop} (h : tT C f σ H Q) (k : ∀ v H', Q v H' → Q' v H') : tT C f σ H Q' := by
  obtain ⟨b, Z, ρ, vs, as, hb, hl, S, h⟩ := h
  exact ⟨b, Z, ρ, vs, as, hb, hl, S, R.sat_mono h (fun a ρ' q Z' H' S' => k _ _ (q Z' H' S')) fun _ _ q => q⟩
theorem tA.mono {f : M (List A)} {Q Q' : List V → Hp → Prop} (h : tA C f σ H Q) (k : ∀ v H', Q v H' → Q' v H') : tA C f σ H Q' := by
  obtain ⟨b, Z, ρ, vs, as, hb, hl, S, h⟩ := h
  exact ⟨b, Z, ρ, vs, as, hb, hl, S, R.sat_mono h (fun a ρ' q Z' H' ws e S' => k _ _ (q Z' H' ws e S')) fun _ _ q => q⟩
theorem PE.w {X : Cx} {e : Expr} {t t' : TE} (h : PE X e t) (k : ∀ σ H Q, t' σ H Q → t σ H Q) : PE X e t' := ⟨fun pins s σ H Q I hw => h.run pins s σ H Q I (k σ H Q hw)⟩
theorem PT.w {X : Cx} {e : Expr} {t t' : TT} (h : PT X e t) (k : ∀ σ H Q, t' σ H Q → t σ H Q) : PT X e t' := ⟨fun pins s σ H Q I hw => h.run pins s σ H Q I (k σ H Q hw)⟩
theorem PA.w {X : Cx} {e : List Expr} {t t' : TA} (h : PA X e t) (k : ∀ σ H Q, t' σ H Q → t σ H Q) : PA X e t' := ⟨fun pos pins s σ H Q I hw => h.run pos pins s σ H Q I (k σ H Q hw)⟩
theorem PS.w {X : Cx} {e : Stmt} {t t' : TS} (h : PS X e t) (k : ∀ D σ H, t' D σ H → t D σ H) : PS X e t' := ⟨fun pins s σ H D I hw => h.run pins s σ H D I (k D σ H hw)⟩
theorem PSs.w {X : Cx} {e : List Stmt} {t t' : TS} (h : PSs X e t) (k : ∀ D σ H, t' D σ H → t D σ H) : PSs X e t' := ⟨fun pins s σ H D I hw => h.run pins s σ H D I (k D σ H hw)⟩
end

def dVar (i : Nat) : M A := fun ρ => match ρ[i]? with
  | some (some (.v d)) => .ok (.v d) ρ
  | _ => .bad
def dC (d : D) : M A := fun ρ => .ok (.v d) ρ
def dOp2 (op : A → A → Option A) (f g : M A) : M A := f.bind fun a => g.bind fun c => ofO (op a c)
def dOp1 (op : A → Option A) (f : M A) : M A := f.bind fun a => ofO (op a)
def dTest (f : M A) : M Bool := f.bind fun a ρ => match a with
  | .v (.bl c) => .ok c ρ
  | _ => .bad
def dNil : M (List A) := fun ρ => .ok [] ρ
def dCons (f : M A) (g : M (List A)) : M (List A) := f.bind fun a => g.bind fun l ρ => .ok (a :: l) ρ
def dTup (f : M (List A)) : M A := f.bind fun l ρ => if l.length ≤ sizeLine then .ok (.v (.tup (frzs l))) ρ else .bad
def dLst (f : M (List A)) : M A := f.bind fun l ρ => if l.length ≤ sizeLine then .ok (.m l) ρ else .bad
def dIf (c : M Bool) (f g : M A) : M A := c.bind fun k => if k = true then f else g
def dAndT (f g : M Bool) : M Bool := f.bind fun k => if k = true then g else M.pure false
def dOrT (f g : M Bool) : M Bool := f.bind fun k => if k = true then M.pure true else g
def dNotT (f : M Bool) : M Bool := f.bind fun k => M.pure (!k)
def dAndV (f g : M A) : M A := (dTest f).bind fun k => if k = true then g else M.pure (.v (.bl false))
def dOrV (f g : M A) : M A := (dTest f).bind fun k => if k = true then M.pure (.v (.bl true)) else g
def dNotV (f : M A) : M A := (dTest f).bind fun k => M.pure (.v (.bl (!k)))

/-- a two-place operation on pending values, by what they stand for -/
def Op2 (C : SC) (r : R2) (op : A → A → Option A) : Prop :=
  ∀ (b : Base) (Z H : Hp) (σ : St) (ρ : DEnv) (vs : List V) (as : List A) (x y : V) (a c res : A) (Q : VK), Sta C.K C.mg b Z H σ ρ (y :: x :: vs) (c :: a :: as) → op a c = some res →
    (∀ Z' H' v, Sta C.K C.mg b Z' H' σ ρ (v :: vs) (res :: as) → Q v H') → r x y H Q
def Op1 (C : SC) (r : V → Hp → VK → Prop) (op : A → Option A) : Prop :=
  ∀ (b : Base) (Z H : Hp) (σ : St) (ρ : DEnv) (vs : List V) (as : List A) (x : V) (a res : A) (Q : VK), Sta C.K C.mg b Z H σ ρ (x :: vs) (a :: as) → op a = some res →
    (∀ Z' H' v, Sta C.K C.mg b Z' H' σ ρ (v :: vs) (res :: as) → Q v H') → r x H Q
def OpN (C : SC) (r : List V → Hp → VK → Prop) (op : List A → Option A) : Prop :=
  ∀ (b : Base) (Z H : Hp) (σ : St) (ρ : DEnv) (vs : List V) (as : List A) (ws : List V) (l : List A) (res : A) (Q : VK), ws.length = l.length → Sta C.K C.mg b Z H σ ρ (ws ++ vs) (l ++ as) → op l = some res →
    (∀ Z' H' v, Sta C.K C.mg b Z' H' σ ρ (v :: vs) (res :: as) → Q v H') → r ws H Q

section
variable {X : Cx} {C : SC} {a b c e : Expr} {es : List Expr} {f g h : M A} {fs : M (List A)} {p q r : M Bool} {pos : Pos} {i : Nat}
theorem de_var {x : Str} (hN : X.N[i]? = some x) (hv : Vis X.env.scope x) (hd : (x == ("__debug__" : Str)) = false := by decide) (hcd : (x == ("__classdict__" : Str)) = false := by decide) : PE X (.Name x pos) (tE C (dVar i)) := by
  refine PE.w (pe_var hN hv hd hcd) fun σ H Q ⟨bs, Z, ρ, vs, as, hb, hl, S, k⟩ => ?_
  unfold dVar at k
  split at k
  · rename_i d hd
    obtain ⟨x, e, r⟩ := S.slot hd
    exact ⟨x, e, k _ _ _ (S.push r)⟩
  · exact k.elim
theorem go_pure {σ : St} {H : Hp} {Q : VK} {d : D} {v : V} (k : Go C (finE C σ Q) [] [] (fun ρ => .ok (.v d) ρ) σ H) (r : ∀ Z, RepD C.K C.mg Z v d) : Q v H := by
  obtain ⟨bs, Z, ρ, vs, as, hb, hl, S, k⟩ := k
  exact k _ _ _ (S.push (r Z))
theorem de_int {n : Int} {j} : PE X (.Constant (.int n) j pos) (tE C (dC (.int n))) := PE.w pe_int fun _ _ _ k => go_pure k fun _ => .int n
theorem de_bl {n : Bool} {j} : PE X (.Constant (.bool n) j pos) (tE C (dC (.bl n))) := PE.w pe_bl fun _ _ _ k => go_pure k fun _ => .bl n
theorem de_non {j} : PE X (.Constant .none j pos) (tE C (dC .non)) := PE.w pe_non fun _ _ _ k => go_pure k fun _ => .non
theorem de_str {n : Str} {j} : PE X (.Constant (.str n) j pos) (tE C (dC (.str n))) := PE.w pe_str fun _ _ _ k => go_pure k fun _ => .str n
theorem go_ofO {α : Type} {fin : Fin α} {ps : List V} {pa : List A} {o : Option α} {σ : St} {H : Hp} (k : Go C fin ps pa (ofO o) σ H) : ∃ x, o = some x ∧ Go C fin ps pa (M.pure x) σ H := by
  obtain ⟨b, Z, ρ, vs, as, hb, hl, S, k⟩ := k
  unfold ofO at k
  cases o with
  | none => exact k.elim
  | some x => exact ⟨x, rfl, b, Z, ρ, vs, as, hb, hl, S, k⟩
theorem go_op2 {r : R2} {op : A → A → Option A} (ho : Op2 C r op) {x y : V} {u w : A} {σ : St} {H : Hp} {Q : VK} (k : Go C (finE C σ Q) [y, x] [w, u] (ofO (op u w)) σ H) : r x y H Q := by
  obtain ⟨res, e, bs, Z, ρ, vs, as, hb, hl, S, k⟩ := go_ofO k
  exact ho bs Z H σ ρ vs as x y u w res Q S e k
theorem de_op2 {op : Operator} {r : R2} {o : A → A → Option A} (hr : OpR X (binaryOp op) r) (ho : Op2 C r o) (ha : PE X a (tE C f)) (hb : PE X b (tE C g)) : PE X (.BinOp a op b pos) (tE C (dOp2 o f g)) := by
  refine PE.w (pe_op hr ha hb) fun σ H Q k => ?_
  refine (Go.bindE k).mono fun x H1 ⟨u, k1⟩ => (Go.bindE k1).mono fun y H2 ⟨w, k2⟩ => go_op2 ho k2
theorem de_cmp {op : CmpOp} {r : R2} {o : A → A → Option A} (hr : OpR X (compareOp op) r) (ho : Op2 C r o) (ha : PE X a (tE C f)) (hb : PE X b (tE C g)) (hm : behindInMarks op b = false) : PE X (.Compare a [op] [b] pos) (tE C (dOp2 o f g)) := by
  refine PE.w (pe_cmpR hr ha hb hm) fun σ H Q k => ?_
  refine (Go.bindE k).mono fun x H1 ⟨u, k1⟩ => (Go.bindE k1).mono fun y H2 ⟨w, k2⟩ => go_op2 ho k2
/-- a test's reading of a value -/
theorem go_test {σ : St} {H : Hp} {Q : Bool → Hp → Prop} (k : Go C (finT C σ Q) [] [] (dTest f) σ H) : tE C f σ H fun x H' => ∃ d, x = .bl d ∧ Q d H' := by
  refine (Go.bindE k).mono fun x H1 ⟨u, bs, Z, ρ, vs, as, hb, hl, S, k1⟩ => ?_
  split at k1
  · rename_i c
    have t := Sta.top (vs := vs) (as := as) S
    cases t
    exact ⟨c, rfl, k1 _ _ (Sta.pop (vs := vs) (as := as) S)⟩
  · exact k1.elim
theorem dt_cmp {op : CmpOp} {r : R2} {o : A → A → Option A} (hr : OpR X (compareOp op) r) (ho : Op2 C r o) (ha : PE X a (tE C f)) (hb : PE X b (tE C g)) (hm : behindInMarks op b = false) : PT X (.Compare a [op] [b] pos) (tT C (dTest (dOp2 o f g))) := by
  refine PT.w (pt_cmpR hr ha hb hm) fun σ H Q k => ?_
  have k' := go_test k
  refine (Go.bindE k').mono fun x H1 ⟨u, k1⟩ => (Go.bindE k1).mono fun y H2 ⟨w, k2⟩ => go_op2 ho k2
theorem de_un {op : UnaryOp} {r : V → Hp → VK → Prop} {o : A → Option A} (hr : UnR X (unaryOp op) r) (ho : Op1 C r o) (ha : PE X a (tE C f)) : PE X (.UnaryOp op a pos) (tE C (dOp1 o f)) := by
  refine PE.w (pe_un hr ha) fun σ H Q k => ?_
  refine (Go.bindE k).mono fun x H1 ⟨u, k1⟩ => ?_
  obtain ⟨res, e, bs, Z, ρ, vs, as, hb, hl, S, k2⟩ := go_ofO k1
  exact ho bs Z H1 σ ρ vs as x u res Q S e k2
/-- an expression whose value is a bool, as a test -/
theorem dt_val (ha : PE X a (tE C f)) (he : ∀ whole, isTrue a X.env whole = (do let v ← whole; standAt a.pos; holding [v] (truthy v)) := by intro _; rfl) : PT X a (tT C (dTest f)) :=
  PT.w (pt_val ha he) fun σ H Q k => go_test k

theorem da_nil : PA X [] (tA C dNil) := PA.w pa_nil fun σ H Q ⟨b, Z, ρ, vs, as, hb, hl, S, k⟩ => k _ _ [] rfl S
theorem da_cons (ha : PE X e (tE C f)) (hr : PA X es (tA C fs)) (hs : starEach (e :: es) X.env = (false, eval e X.env) :: starEach es X.env := by rfl) : PA X (e :: es) (tA C (dCons f fs)) := by
  refine PA.w (pa_cons ha hr hs) fun σ H Q k => ?_
  refine (Go.bindE k).mono fun x H1 ⟨u, k1⟩ => (Go.bindA k1).mono fun ws H2 ⟨l, hl, b, Z, ρ, vs, as, hb, _, S, k2⟩ => ?_
  exact k2 _ _ (x :: ws) (by simp [hl]) (by
    have S' : Sta C.K C.mg b Z H2 σ ρ (ws ++ x :: vs) (l ++ u :: as) := by simpa using S
    exact S'.rot hl)
theorem de_tup {k0} (h : PA X es (tA C fs)) : PE X (.Tuple es k0 pos) (tE C (dTup fs)) := by
  refine PE.w (pe_tup h) fun σ H Q k => ?_
  refine (Go.bindA k).mono fun ws H1 ⟨l, hl, b, Z, ρ, vs, as, hb, _, S, k1⟩ => ?_
  split at k1
  · rename_i hz
    refine ⟨by rw [hl]; exact hz, fun p hp => ?_⟩
    rw [List.append_nil, List.append_nil] at S
    obtain ⟨Z', _, r, S'⟩ := S.freezes hl
    have zp := S'.zh.free hp
    exact k1 _ _ _ (S'.newF (o := .tup ws) hp (.tup (SqT.of upd_same) (RepDs.mono (same_upd zp) _ _ r)))
  · exact k1.elim
theorem de_lst (h : PA X es (tA C fs)) : PE X (.List es pos) (tE C (dLst fs)) := by
  refine PE.w (pe_lst h) fun σ H Q k => ?_
  refine (Go.bindA k).mono fun ws H1 ⟨l, hl, b, Z, ρ, vs, as, hb, _, S, k1⟩ => ?_
  split at k1
  · rename_i hz
    refine ⟨by rw [hl]; exact hz, fun p hp => ?_⟩
    rw [List.append_nil, List.append_nil] at S
    exact k1 _ _ _ (S.newM hl hp)
  · exact k1.elim

theorem go_mpure {α : Type} {fin : Fin α} {x : α} {σ : St} {H : Hp} (k : Go C fin [] [] (M.pure x) σ H) : ∃ b Z ρ vs as, C.Of b ∧ Sta C.K C.mg b Z H σ ρ vs as ∧ fin b vs as x ρ :=
  let ⟨b, Z, ρ, vs, as, hb, _, S, k⟩ := k
  ⟨b, Z, ρ, vs, as, hb, S, k⟩
theorem go_tpure {σ : St} {H : Hp} {Q : Bool → Hp → Prop} {c : Bool} (k : Go C (finT C σ Q) [] [] (M.pure c) σ H) : Q c H := by
  obtain ⟨b, Z, ρ, vs, as, hb, S, k⟩ := go_mpure k
  exact k _ _ S
theorem go_vpure {σ : St} {H : Hp} {Q : VK} {c : Bool} (k : Go C (finE C σ Q) [] [] (M.pure (.v (.bl c))) σ H) : Q (.bl c) H := by
  obtain ⟨b, Z, ρ, vs, as, hb, S, k⟩ := go_mpure k
  exact k _ _ _ (S.push (.bl c))
variable {rest : List Expr}
theorem dw_and1 (ha : PT X a (tT C p)) : PW X (.BoolOp .And [a] pos) (tT C p) := pw_and1 ha
theorem dw_or1 (ha : PT X a (tT C p)) : PW X (.BoolOp .Or [a] pos) (tT C p) := pw_or1 ha
theorem PW.w {t t' : TT} (h : PW X e t) (k : ∀ σ H Q, t' σ H Q → t σ H Q) : PW X e t' := ⟨fun wh pins s σ H Q I hw => h.run wh pins s σ H Q I (k σ H Q hw)⟩
theorem dw_and (ha : PT X a (tT C p)) (hb : PW X (.BoolOp .And (b :: rest) pos) (tT C q)) : PW X (.BoolOp .And (a :: b :: rest) pos) (tT C (dAndT p q)) := by
  refine PW.w (pw_and ha hb) fun σ H Q k => (Go.bindT k).mono fun c H1 k1 => ?_
  cases c with
  | true => exact k1
  | false => exact go_tpure k1
theorem dw_or (ha : PT X a (tT C p)) (hb : PW X (.BoolOp .Or (b :: rest) pos) (tT C q)) : PW X (.BoolOp .Or (a :: b :: rest) pos) (tT C (dOrT p q)) := by
  refine PW.w (pw_or ha hb) fun σ H Q k => (Go.bindT k).mono fun c H1 k1 => ?_
  cases c with
  | true => exact go_tpure k1
  | false => exact k1
theorem dt_not (ha : PT X a (tT C p)) : PT X (.UnaryOp .Not a pos) (tT C (dNotT p)) := by
  refine PT.w (pt_not ha) fun σ H Q k => (Go.bindT k).mono fun c H1 k1 => go_tpure k1
theorem de_and (ha : PE X a (tE C f)) (hb : PE X (.BoolOp .And (b :: rest) pos) (tE C g)) : PE X (.BoolOp .And (a :: b :: rest) pos) (tE C (dAndV f g)) := by
  refine PE.w (pe_and ha hb) fun σ H Q k => (go_test (Go.bindT k)).mono fun x H1 ⟨c, e, k1⟩ => ⟨c, e, ?_⟩
  cases c with
  | true => exact k1
  | false => exact go_vpure k1
theorem de_or (ha : PE X a (tE C f)) (hb : PE X (.BoolOp .Or (b :: rest) pos) (tE C g)) : PE X (.BoolOp .Or (a :: b :: rest) pos) (tE C (dOrV f g)) := by
  refine PE.w (pe_or ha hb) fun σ H Q k => (go_test (Go.bindT k)).mono fun x H1 ⟨c, e, k1⟩ => ⟨c, e, ?_⟩
  cases c with
  | true => exact go_vpure k1
  | false => exact k1
theorem de_one {op} (ha : PE X a (tE C f)) : PE X (.BoolOp op [a] pos) (tE C f) := pe_one ha
theorem de_not (ha : PE X a (tE C f)) : PE X (.UnaryOp .Not a pos) (tE C (dNotV f)) := by
  refine PE.w (pe_not ha) fun σ H Q k => (go_test (Go.bindT k)).mono fun x H1 ⟨c, e, k1⟩ => ⟨c, e, go_vpure k1⟩
theorem de_if (hc : PT X c (tT C p)) (ha : PE X a (tE C f)) (hb : PE X b (tE C g)) : PE X (.IfExp c a b pos) (tE C (dIf p f g)) := by
  refine PE.w (pe_ifExp hc ha hb) fun σ H Q k => (Go.bindT k).mono fun d H1 k1 => ?_
  cases d with
  | true => exact k1
  | false => exact k1
end
end DD

namespace DD
open PySem PySem.Spec L2
open PyProof.Rows hiding St
variable [LamN]
section
variable {K : PySem.W.Frag} {mg : Str → Option Value} {b : Base} {Z Z' H H' : Hp} {σ : St} {ρ : DEnv} {vs ws : List V} {as l pa : List A} {x y : V} {a c : A} {d : D} {i k : Nat} {p : Addr} {o : HO}
theorem SRep.ownd {P : Nat → Addr → Prop} {f : List Addr} {n : Nat} (h : SRep K mg P Z H n σ ρ f) (e : ρ[i]? = some (some a)) : ∃ x fa g, σ[i]? = some (some x) ∧ RepA K mg Z H x a fa ∧ (∀ q ∈ fa, P (n + i) q) ∧ SRep K mg P Z H n σ (ρ.set i none) g ∧ ∀ y, g.count y + fa.count y = f.count y := h.out e
/-- the list of the i-th slot, and what may be done to it -/
theorem Sta.mutL (S : Sta K mg b Z H σ ρ (ws ++ vs) (pa ++ as)) (hl : ws.length = pa.length) (e : ρ[i]? = some (some (.m l))) :
    ∃ p xs fl g1, σ[i]? = some (some (.ref p)) ∧ H p = some (.lst xs) ∧ xs.length = l.length ∧ RepAs K mg Z H xs l fl ∧ RepAs K mg Z H ws pa g1 ∧ (∀ q ∈ g1, Fre b.H q) ∧ (i ∉ b.pn → ∀ q ∈ fl, Fre b.H q) ∧
      ∀ {xs' : List V} {l' : List A} {fl' : List Addr} {ws' : List V} {pa' : List A} {g1' : List Addr}, RepAs K mg Z H xs' l' fl' → RepAs K mg Z H ws' pa' g1' → (∀ y, fl'.count y + g1'.count y ≤ fl.count y + g1.count y) → (∀ q ∈ g1', Fre b.H q) →
        Sta K mg b Z (upd H p (.lst xs')) σ (ρ.set i (some (.m l'))) (ws' ++ vs) (pa' ++ as) := by
  obtain ⟨f, g, h1, h2, h3, h4, h5⟩ := S.rep
  obtain ⟨g1, g2, eg, r1, r2⟩ := h2.split hl
  obtain ⟨x, fa, f0, e1, r3, pw, r4, cn⟩ := h1.out e
  cases r3 with
  | @m p xs _ fl hp rl =>
    subst eg
    refine ⟨p, xs, fl, g1, e1, hp, rl.length, rl, r1, fun q hq => h5 q (List.mem_append_left _ hq), fun hn q hq => ?_, fun {xs' l' fl' ws' pa' g1'} k1 k2 k3 k4 => ?_⟩
    · rcases pw q (List.mem_cons_of_mem _ hq) with z | z
      · exact absurd (S.lw _ _ (by simpa using z)) hn
      · exact z
    have cp : ∀ y, f0.count y + (fl.count y + if p = y then 1 else 0) + (g1.count y + g2.count y) ≤ 1 := fun y => by
      have c1 := h3 y
      have c2 := cn y
      rw [List.count_append] at c1
      rw [List.count_cons] at c2
      simp only [beq_iff_eq] at c2
      omega
    have zp : Z p = none := h4 p (.inl (count_mem (by have := cn p; rw [List.count_cons_self] at this; omega)))
    have np : ∀ {q : Addr}, (0 < f0.count q ∨ 0 < fl.count q ∨ 0 < g1.count q ∨ 0 < g2.count q) → q ≠ p := fun {q} hq e' => by
      have := cp q
      rw [if_pos e'.symm] at this
      omega
    have nf0 : ∀ q ∈ f0, q ≠ p := fun q hq => np (.inl (mem_count hq))
    have ng2 : ∀ q ∈ g2, q ≠ p := fun q hq => np (.inr (.inr (.inr (mem_count hq))))
    have nfl' : ∀ q, (q ∈ fl' ∨ q ∈ g1') → q ≠ p := fun q hq => by
      have := k3 q
      have : 0 < fl'.count q ∨ 0 < g1'.count q := hq.imp mem_count mem_count
      exact np (by omega)
    have ow : ∀ q ∈ p :: fl', b.Own (0 + i) q := fun q hq => by
      rcases List.mem_cons.mp hq with e' | hq
      · exact e' ▸ pw p List.mem_cons_self
      · have := k3 q
        have := mem_count hq
        have : 0 < fl.count q ∨ 0 < g1.count q := by omega
        rcases this with z | z
        · exact pw q (List.mem_cons_of_mem _ (count_mem z))
        · exact .inr (h5 q (List.mem_append_left _ (count_mem z)))
    have hi : i < σ.length := (List.getElem?_eq_some_iff.mp e1).1
    have r5 : SRep K mg b.Own Z (upd H p (.lst xs')) 0 σ (ρ.set i none) f0 := r4.mono (Same.refl Z) (fun q hq => upd_ne (nf0 q hq)) fun _ _ _ z => z
    obtain ⟨f', r6, c6⟩ := r5.into (i := i) (x := .ref p) hi (RepA.m upd_same (RepAs.mono (Same.refl Z) _ _ _ (fun q hq => upd_ne (nfl' q (.inl hq))) k1)) ow
    rw [set_same e1, List.set_set] at r6
    refine ⟨S.zz, fun q u eq => ?_, S.kz, fun q u eq hq hn => ?_, fun q hq => ?_, ⟨tabs_upd S.sd.tabs hp (.inl ⟨_, rfl⟩), S.sd.nt, S.sd.kn⟩, S.pin, S.lw, f', g1' ++ g2, r6, (RepAs.mono (Same.refl Z) _ _ _ (fun q hq => upd_ne (nfl' q (.inr hq))) k2).append (RepAs.mono (Same.refl Z) _ _ _ (fun q hq => upd_ne (ng2 q hq)) r2), fun y => ?_, fun q hq => ?_, fun q hq => ?_⟩
    · have hne : q ≠ p := fun e' => by rw [e', zp] at eq; cases eq
      rw [upd_ne hne]; exact S.zh _ _ eq
    · have hne : q ≠ p := fun e' => by
        subst e'
        rcases pw q List.mem_cons_self with z | z
        · exact hq _ z
        · exact (Fre.no eq hn z).elim
      rw [upd_ne hne]; exact S.kh _ _ eq hq hn
    · by_cases e' : q = p
      · rw [e'] at hq; exact (Fre.no upd_same (fun ps z => by cases z) hq).elim
      · exact S.kd q fun o e => hq o (by rw [upd_ne e']; exact e)
    · have c1 := cp y
      have c2 := c6 y
      have c3 := k3 y
      rw [List.count_cons] at c2
      simp only [beq_iff_eq] at c2
      rw [List.count_append]
      omega
    · have src : 0 < f.count q ∨ 0 < g1.count q ∨ 0 < g2.count q := by
        have c2 := c6 q
        have c3 := k3 q
        have c4 := cn q
        rw [List.count_cons] at c2 c4
        rcases hq with hq | hq
        · have := mem_count hq; omega
        · have := mem_count hq; rw [List.count_append] at this; omega
      rcases src with z | z | z
      · exact h4 q (.inl (count_mem z))
      · exact h4 q (.inr (List.mem_append_left _ (count_mem z)))
      · exact h4 q (.inr (List.mem_append_right _ (count_mem z)))
    · rcases List.mem_append.mp hq with hq | hq
      · exact k4 q hq
      · exact h5 q (List.mem_append_right _ hq)
theorem Sta.append (S : Sta K mg b Z H σ ρ (x :: vs) (a :: as)) (e : ρ[i]? = some (some (.m l))) :
    ∃ p xs, σ[i]? = some (some (.ref p)) ∧ H p = some (.lst xs) ∧ xs.length = l.length ∧ Sta K mg b Z (upd H p (.lst (xs ++ [x]))) σ (ρ.set i (some (.m (l ++ [a])))) vs as := by
  obtain ⟨p, xs, fl, g1, e1, hp, hl, r1, r2, _, _, k⟩ := Sta.mutL (ws := [x]) (pa := [a]) S rfl e
  exact ⟨p, xs, e1, hp, hl, k (ws' := []) (pa' := []) (r1.append r2) .nil (fun y => by simp) (fun q hq => by cases hq)⟩
theorem Sta.setitem (S : Sta K mg b Z H σ ρ (x :: vs) (a :: as)) (e : ρ[i]? = some (some (.m l))) (hk : k < l.length) :
    ∃ p xs, σ[i]? = some (some (.ref p)) ∧ H p = some (.lst xs) ∧ xs.length = l.length ∧ Sta K mg b Z (upd H p (.lst (xs.set k x))) σ (ρ.set i (some (.m (l.set k a)))) vs as := by
  obtain ⟨p, xs, fl, g1, e1, hp, hl, r1, r2, _, _, q⟩ := Sta.mutL (ws := [x]) (pa := [a]) S rfl e
  cases r2 with
  | @cons _ _ _ _ fa g h1 h2 =>
    cases h2
    obtain ⟨y, fy, e2, r3, _, st⟩ := r1.at (i := k) (a := l[k]) (List.getElem?_eq_getElem hk)
    obtain ⟨g', r4, c4⟩ := st h1
    exact ⟨p, xs, e1, hp, hl, q (ws' := []) (pa' := []) r4 .nil (fun y => by have := c4 y; simp; omega) (fun q hq => by cases hq)⟩
/-- an item that is frozen data is taken out -/
theorem Sta.popat (S : Sta K mg b Z H σ ρ vs as) (e : ρ[i]? = some (some (.m l))) (hk : l[k]? = some (.v d)) :
    ∃ p xs x, σ[i]? = some (some (.ref p)) ∧ H p = some (.lst xs) ∧ xs.length = l.length ∧ xs[k]? = some x ∧ Sta K mg b Z (upd H p (.lst (xs.eraseIdx k))) σ (ρ.set i (some (.m (l.eraseIdx k)))) (x :: vs) (.v d :: as) := by
  obtain ⟨p, xs, fl, g1, e1, hp, hl, r1, r2, _, _, q⟩ := Sta.mutL (ws := []) (pa := []) S rfl e
  cases r2
  obtain ⟨y, fy, e2, r3, ⟨g', r4, c4⟩, _⟩ := r1.at (i := k) hk
  refine ⟨p, xs, y, e1, hp, hl, e2, q (ws' := [y]) (pa' := [.v d]) (g1' := fy ++ []) r4 (.cons r3 .nil) (fun y => by have := c4 y; simp; omega) fun q hq => ?_⟩
  cases r3 with
  | v _ => cases hq
theorem Sta.readL (S : Sta K mg b Z H σ ρ vs as) (e : ρ[i]? = some (some (.m l))) : ∃ p xs fl, σ[i]? = some (some (.ref p)) ∧ H p = some (.lst xs) ∧ xs.length = l.length ∧ RepAs K mg Z H xs l fl := by
  obtain ⟨p, xs, fl, g1, e1, hp, hl, r1, _⟩ := Sta.mutL (ws := []) (pa := []) S rfl e
  exact ⟨p, xs, fl, e1, hp, hl, r1⟩
/-- an own value leaves its slot -/
theorem Sta.move (S : Sta K mg b Z H σ ρ vs as) (e : ρ[i]? = some (some a)) (hn : i ∉ b.pn) : ∃ x, σ[i]? = some (some x) ∧ Sta K mg b Z H σ (ρ.set i none) (x :: vs) (a :: as) := by
  obtain ⟨f, g, h1, h2, h3, h4, h5⟩ := S.rep
  obtain ⟨x, fa, f0, e1, r3, pw, r4, cn⟩ := h1.out e
  refine ⟨x, e1, S.zz, S.zh, S.kz, S.kh, S.kd, S.sd, S.pin, S.lw, f0, fa ++ g, r4, .cons r3 h2, fun y => ?_, fun q hq => ?_, fun q hq => ?_⟩
  · have := cn y; have := h3 y; rw [List.count_append]; omega
  · have : 0 < f.count q ∨ 0 < g.count q := by
      have := cn q
      rcases hq with hq | hq
      · have := mem_count hq; omega
      · have := mem_count hq; rw [List.count_append] at this; omega
    exact h4 q (this.imp count_mem count_mem)
  · rcases List.mem_append.mp hq with hq | hq
    · rcases pw q hq with z | z
      · exact absurd (S.lw _ _ (by simpa using z)) hn
      · exact z
    · exact h5 q hq
end

def frzB (own : Bool) (a : A) : A := if own then a else .v a.frz
def dSet (own : Bool) (i : Nat) (f : M A) : M Flow := f.bind fun a ρ => if i < ρ.length then .ok .nx (ρ.set i (some (frzB own a))) else .bad
def dExpr (f : M A) : M Flow := f.bind fun _ => M.pure .nx
def dRet (f : M A) : M Flow := f.bind fun a => M.pure (.ret a)
def dRetN : M Flow := M.pure (.ret (.v .non))
def dSkip : M Flow := M.pure .nx
def dSeq (F G : M Flow) : M Flow := F.bind fun fl => match fl with
  | .nx => G
  | .ret a => M.pure (.ret a)
  | .bk => M.pure .bk
  | .ct => M.pure .ct
def dIfS (c : M Bool) (F G : M Flow) : M Flow := c.bind fun k => if k = true then F else G
def dBreak : M Flow := M.pure .bk
def dCont : M Flow := M.pure .ct
def dMove (i : Nat) : M A := fun ρ => match ρ[i]? with
  | some (some a) => .ok a (ρ.set i none)
  | _ => .bad
/-- a slot's list is read as frozen data from here on -/
def frzSlot (i : Nat) (ρ : DEnv) : DEnv := match ρ[i]? with
  | some (some a) => ρ.set i (some (.v a.frz))
  | _ => ρ
def dFrz {α : Type} (i : Nat) (F : M α) : M α := fun ρ => F (frzSlot i ρ)
def forL (g : D → M Unit) (F : M Flow) : List D → M Flow
  | [] => M.pure .nx
  | d :: ds => (g d).bind fun _ => F.bind fun fl => match fl with
    | .nx => forL g F ds
    | .ct => forL g F ds
    | .bk => M.pure .nx
    | .ret a => M.pure (.ret a)
def dFor (src : M (List D)) (g : D → M Unit) (F : M Flow) : M Flow := src.bind fun ds => forL g F ds
def whileN (c : M Bool) (F : M Flow) : Nat → M Flow
  | 0 => fun _ => .bad
  | n + 1 => c.bind fun k => if k = true then F.bind fun fl => match fl with
      | .nx => whileN c F n
      | .ct => whileN c F n
      | .bk => M.pure .nx
      | .ret a => M.pure (.ret a)
    else M.pure .nx
open Classical in
noncomputable def dWhile (c : M Bool) (F : M Flow) : M Flow := fun ρ => if h : ∃ n, whileN c F n ρ ≠ .bad then whileN c F (Classical.choose h) ρ else .bad
theorem whileN_mono {c : M Bool} {F : M Flow} : ∀ {n : Nat} {ρ : DEnv}, whileN c F n ρ ≠ .bad → whileN c F (n + 1) ρ = whileN c F n ρ
  | 0, ρ, h => absurd rfl h
  | n + 1, ρ, h => by
    unfold whileN at h
    unfold whileN
    simp only [M.bind] at h ⊢
    cases e : c ρ with
    | bad => rfl
    | exc x ρ' => rfl
    | ok k ρ' =>
      rw [e] at h
      simp only [R.bind_ok] at h ⊢
      cases k with
      | false => rfl
      | true =>
        simp only [if_true, M.bind] at h ⊢
        cases e2 : F ρ' with
        | bad => rfl
        | exc x ρ2 => rfl
        | ok fl ρ2 =>
          rw [e2] at h
          simp only [R.bind_ok] at h ⊢
          cases fl with
          | nx => exact whileN_mono h
          | ct => exact whileN_mono h
          | bk => rfl
          | ret a => rfl
theorem whileN_le {c : M Bool} {F : M Flow} {n : Nat} {ρ : DEnv} (h : whileN c F n ρ ≠ .bad) : ∀ k, whileN c F (n + k) ρ = whileN c F n ρ
  | 0 => rfl
  | k + 1 => by
    have ih := whileN_le h k
    rw [← Nat.add_assoc, whileN_mono (by rw [ih]; exact h), ih]
theorem dWhile_eq {c : M Bool} {F : M Flow} {n : Nat} {ρ : DEnv} (h : whileN c F n ρ ≠ .bad) : dWhile c F ρ = whileN c F n ρ := by
  have hx : ∃ n, whileN c F n ρ ≠ .bad := ⟨n, h⟩
  unfold dWhile
  rw [dif_pos hx]
  have h2 := Classical.choose_spec hx
  rcases Nat.le_total n (Classical.choose hx) with q | q
  · obtain ⟨k, e⟩ := Nat.le.dest q
    rw [← e, whileN_le h]
  · obtain ⟨k, e⟩ := Nat.le.dest q
    have := whileN_le h2 k
    rw [e] at this
    exact this.symm
theorem dWhile_some {c : M Bool} {F : M Flow} {ρ : DEnv} (h : dWhile c F ρ ≠ .bad) : ∃ n, dWhile c F ρ = whileN c F n ρ := by
  unfold dWhile at h ⊢
  split
  · exact ⟨_, rfl⟩
  · rename_i h'; rw [dif_neg h'] at h; exact absurd rfl h

section
variable {X : Cx} {C : SC} {a c e : Expr} {st : Stmt} {sts sts' rest : List Stmt} {f g : M A} {F G : M Flow} {p : M Bool} {pos pos' : Pos} {i : Nat} {x : Str}
theorem go_store {own : Bool} {D : Ends} {y : V} {u : A} {σ : St} {H : Hp} (hn : i ∉ C.pn) (k : Go C (finS C D) [y] [u] (fun ρ => if i < ρ.length then .ok .nx (ρ.set i (some (frzB own u))) else .bad) σ H) : D.nx (σ.set i (some y)) H := by
  obtain ⟨b, Z, ρ, vs, as, hb, hl, S, k⟩ := k
  dsimp only at k
  split at k
  · rename_i hi
    have hn' : i ∉ b.pn := by rw [hb.pn]; exact hn
    cases own with
    | true => exact k _ _ _ (Sta.store (vs := vs) (as := as) S hi hn')
    | false =>
      obtain ⟨Z', _, S'⟩ := Sta.freeze (vs := vs) (as := as) S
      exact k _ _ _ (S'.store hi hn')
  · exact k.elim
theorem ds_set (own : Bool) (hN : X.N.Nodup) (hi : X.N[i]? = some x) (hx : Loc X.env.scope x) (hn : i ∉ C.pn) (he : PE X e (tE C f)) (hs : swapsWith e (some (.Name x pos')) pos.line X.env = pure false := by rfl)
    (hf : X.fn x = true ∨ X.env.scope.names.lookup x = some .local := by first | exact .inl rfl | exact .inr rfl | assumption) : PS X (.Assign [.Name x pos'] e pos) (tS C (dSet own i f)) := by
  refine PS.w (ps_set hN hi hx he hs hf) fun D σ H k => ?_
  exact (Go.bindE k).mono fun y H1 ⟨u, k1⟩ => go_store hn k1
theorem ds_expr (he : PE X e (tE C f)) (hs : swapsWith e none pos.line X.env = pure false := by rfl) : PS X (.Expr e pos) (tS C (dExpr f)) := by
  refine PS.w (ps_expr he hs) fun D σ H k => ?_
  exact (Go.bindE k).mono fun y H1 ⟨u, b, Z, ρ, vs, as, hb, hl, S, k⟩ => k _ _ _ (Sta.pop (vs := vs) (as := as) S)
theorem ds_ret (he : PE X e (tE C f)) : PS X (.Return (some e) pos) (tS C (dRet f)) := by
  refine PS.w (ps_ret he) fun D σ H k => ?_
  exact (Go.bindE k).mono fun y H1 ⟨u, b, Z, ρ, vs, as, hb, hl, S, k⟩ => k _ _ _ _ S
theorem ds_retN : PS X (.Return none pos) (tS C dRetN) := by
  refine PS.w ps_retN fun D σ H ⟨b, Z, ρ, vs, as, hb, hl, S, k⟩ => ?_
  exact k _ _ _ _ (S.push .non)
theorem dss_nil : PSs X [] (tS C dSkip) := by
  refine PSs.w pss_nil fun D σ H ⟨b, Z, ρ, vs, as, hb, hl, S, k⟩ => ?_
  exact k _ _ _ S
theorem ds_pass : PS X (.Pass pos) (tS C dSkip) := by
  refine PS.w ps_pass fun D σ H ⟨b, Z, ρ, vs, as, hb, hl, S, k⟩ => ?_
  exact k _ _ _ S
theorem ds_break : PS X (.Break pos) (tS C dBreak) := by
  refine PS.w ps_break fun D σ H ⟨b, Z, ρ, vs, as, hb, hl, S, k⟩ => ?_
  exact k _ _ _ S
theorem ds_cont : PS X (.Continue pos) (tS C dCont) := by
  refine PS.w ps_continue fun D σ H ⟨b, Z, ρ, vs, as, hb, hl, S, k⟩ => ?_
  exact k _ _ _ S
theorem ds_doc {y : Str} {j} : PS X (.Expr (.Constant (.str y) j pos) pos') (tS C dSkip) := by
  refine PS.w ps_doc fun D σ H ⟨b, Z, ρ, vs, as, hb, hl, S, k⟩ => ?_
  exact k _ _ _ S
theorem go_seq {D : Ends} {σ : St} {H : Hp} (k : tS C (dSeq F G) D σ H) : tS C F { D with nx := tS C G D } σ H := by
  obtain ⟨b, Z, ρ, vs, as, hb, hl, S, k⟩ := k
  refine ⟨b, Z, ρ, vs, as, hb, rfl, S, R.sat_mono (R.sat_bind k) (fun fl ρ' q => ?_) fun _ _ q => q⟩
  cases fl with
  | nx => exact fun Z' H' σ' S' => ⟨b, Z', ρ', vs, as, hb, rfl, S', q⟩
  | ret a => exact q
  | bk => exact q
  | ct => exact q
theorem dss_cons (h1 : PS X st (tS C F)) (h2 : PSs X rest (tS C G)) : PSs X (st :: rest) (tS C (dSeq F G)) := PSs.w (pss_cons h1 h2) fun D σ H k => go_seq k
theorem dss_one (h1 : PS X st (tS C F)) : PSs X [st] (tS C F) := pss_one h1
theorem tS.imp {D D' : Ends} {σ : St} {H : Hp} (h : tS C F D σ H) (k : ∀ b vs as fl ρ', C.Of b → finS C D b vs as fl ρ' → finS C D' b vs as fl ρ') : tS C F D' σ H := by
  obtain ⟨b, Z, ρ, vs, as, hb, hl, S, h⟩ := h
  exact ⟨b, Z, ρ, vs, as, hb, rfl, S, R.sat_mono h (fun fl ρ' q => k b vs as fl ρ' hb q) fun _ _ q => q⟩
theorem ds_if (hc : PT X c (tT C p)) (ha : PSs X sts (tS C F)) (hb : PSs X sts' (tS C G)) : PS X (.If c sts sts' pos) (tS C (dIfS p F G)) := by
  refine PS.w (ps_if hc ha hb) fun D σ H k => (Go.bindT k).mono fun d H1 k1 => ?_
  cases d with
  | true => exact k1
  | false => exact k1
theorem de_move (hN : X.N[i]? = some x) (hv : Vis X.env.scope x) (hn : i ∉ C.pn) (hd : (x == ("__debug__" : Str)) = false := by decide) (hcd : (x == ("__classdict__" : Str)) = false := by decide) : PE X (.Name x pos) (tE C (dMove i)) := by
  refine PE.w (pe_var hN hv hd hcd) fun σ H Q ⟨b, Z, ρ, vs, as, hb, hl, S, k⟩ => ?_
  unfold dMove at k
  split at k
  · rename_i a ha
    obtain ⟨y, e, S'⟩ := Sta.move (vs := vs) (as := as) S ha (by rw [hb.pn]; exact hn)
    exact ⟨y, e, k _ _ _ S'⟩
  · exact k.elim
theorem go_frz {α : Type} {fin : Fin α} {F : M α} {σ : St} {H : Hp} (hn : i ∉ C.pn) (k : Go C fin [] [] (dFrz i F) σ H) : Go C fin [] [] F σ H := by
  obtain ⟨b, Z, ρ, vs, as, hb, hl, S, k⟩ := k
  unfold dFrz frzSlot at k
  split at k
  · rename_i a ha
    have hn' : i ∉ b.pn := by rw [hb.pn]; exact hn
    obtain ⟨y, e, S1⟩ := Sta.move (vs := vs) (as := as) S ha hn'
    obtain ⟨Z', _, S2⟩ := S1.freeze
    have hi : i < (ρ.set i none).length := by rw [List.length_set]; exact (List.getElem?_eq_some_iff.mp ha).1
    have S3 := S2.store hi hn'
    rw [set_same e, List.set_set] at S3
    exact ⟨b, Z', _, vs, as, hb, rfl, S3, k⟩
  · exact ⟨b, Z, ρ, vs, as, hb, rfl, S, k⟩
theorem ds_frz (i : Nat) (hn : i ∉ C.pn) (h : PS X st (tS C F)) : PS X st (tS C (dFrz i F)) := PS.w h fun D σ H k => go_frz hn k
theorem de_frz (i : Nat) (hn : i ∉ C.pn) (h : PE X e (tE C f)) : PE X e (tE C (dFrz i f)) := PE.w h fun σ H Q k => go_frz hn k

/-- what is walked, by its items -/
def IsIt (C : SC) (J : It) (ws : List V) (pa : List A) (ds : List D) : Prop :=
  ∀ (b : Base) (Z H : Hp) (σ : St) (ρ : DEnv) (vs : List V) (as : List A), Sta C.K C.mg b Z H σ ρ (ws ++ vs) (pa ++ as) →
    (∀ i d, ds[i]? = some d → J.go i H ∧ ∀ x H', J.yld i H x H' → ∃ Z', Sta C.K C.mg b Z' H' σ ρ (x :: (ws ++ vs)) (.v d :: (pa ++ as))) ∧ J.stop ds.length H
def finI (C : SC) (σ : St) (R : It → Hp → Prop) : Fin (List D) := fun b vs as ds ρ => ∀ Z' H' ws pa J, ws.length = pa.length → Sta C.K C.mg b Z' H' σ ρ (ws ++ vs) (pa ++ as) → IsIt C J ws pa ds → R J H'
def tI (C : SC) (src : M (List D)) : TI := fun σ H R => Go C (finI C σ R) [] [] src σ H
def tG (C : SC) (sl : List Nat) (g : D → M Unit) : TG := fun v σ H Q => ∃ b Z ρ vs as d, C.Of b ∧ Sta C.K C.mg b Z H σ ρ (v :: vs) (.v d :: as) ∧ (g d ρ).sat (fun _ ρ' => ∀ Z' H' σ', Sta C.K C.mg b Z' H' σ' ρ' vs as → wipe σ' sl = wipe σ sl → Q σ' H') (XPost C b vs as)
theorem wipe_set (σ : St) (i : Nat) (x : Option V) : ∀ {sl : List Nat}, i ∈ sl → wipe (σ.set i x) sl = wipe σ sl
  | [], h => by cases h
  | j :: sl, h => by
    unfold wipe
    by_cases e : i ∈ sl
    · rw [wipe_set σ i x e]
    · have ej : i = j := by
        rcases List.mem_cons.mp h with z | z
        · exact z
        · exact absurd z e
      subst ej
      have : ∀ sl : List Nat, i ∉ sl → wipe (σ.set i x) sl = (wipe σ sl).set i x := fun sl => by
        induction sl with
        | nil => intro _; rfl
        | cons k sl ih =>
          intro hk
          rw [List.mem_cons, not_or] at hk
          unfold wipe
          rw [ih hk.2, List.set_comm _ _ (Ne.symm hk.1)]
      rw [this sl e, List.set_set]
theorem PI.w {tg : Expr} {t t' : TI} (h : PI X tg e t) (k : ∀ σ H R, t' σ H R → t σ H R) : PI X tg e t' := ⟨fun pins s σ H R I hw => h.run pins s σ H R I (k σ H R hw)⟩
theorem PG.w {tg : Expr} {t t' : TG} (h : PG X tg t) (k : ∀ v σ H Q, t' v σ H Q → t v σ H Q) : PG X tg t' := ⟨fun pins s σ H v u Q I r hw => h.run pins s σ H v u Q I r (k v σ H Q hw)⟩
def gSet (i : Nat) : D → M Unit := fun d ρ => if i < ρ.length then .ok () (ρ.set i (some (.v d))) else .bad
theorem dg_name {sl : List Nat} (hs : i ∈ sl) (hN : X.N.Nodup) (hi : X.N[i]? = some x) (hx : Loc X.env.scope x) (hn : i ∉ C.pn) (hf : X.fn x = true ∨ X.env.scope.names.lookup x = some .local := by first | exact .inl rfl | exact .inr rfl | assumption) : PG X (.Name x pos) (tG C sl (gSet i)) := by
  refine PG.w (pg_name hN hi hx hf) fun v σ H Q ⟨b, Z, ρ, vs, as, d, hb, S, k⟩ => ?_
  unfold gSet at k
  split at k
  · rename_i hi
    exact k _ _ _ (S.store hi (by rw [hb.pn]; exact hn)) (wipe_set _ _ _ hs)
  · exact k.elim
variable {sl : List Nat} {tg iter : Expr} {src : M (List D)} {gt : D → M Unit} {body : List Stmt}
theorem ds_for (hp : PassesOwn (model X.prog X.w) X.A X.env X.xe) (hc : X.calm = true) (hi : PI X tg iter (tI C src)) (hg : PG X tg (tG C sl gt)) (hb : PSs X body (tS C F))
    (hs : ∀ x, foldedSetIterable iter X.env x = pure x := by intro _; rfl) : PS X (.For tg iter body [] pos) (tS C (dFor src gt F)) := by
  refine PS.w (ps_for hp hc hi hg hb hs) fun D σ H k => ?_
  obtain ⟨b, Z, ρ, vs, as, hbn, hl, S, k⟩ := k
  refine ⟨b, Z, ρ, vs, as, hbn, rfl, S, R.sat_mono (R.sat_bind k) (fun ds ρ' q Z' H' ws pa J hl S' hJ => ?_) fun _ _ q => q⟩
  refine ⟨fun i m σ H => ∃ Z ρ, Sta C.K C.mg b Z H σ ρ (ws ++ vs) (pa ++ as) ∧ i + m = ds.length ∧ (forL gt F (ds.drop i) ρ).sat (finS C D b vs as) (XPost C b vs as), ⟨ds.length, Z', ρ', S', by omega, by simpa using q⟩, ?_⟩
  rintro i m σ1 H1 ⟨Z1, ρ1, S1, em, q1⟩
  obtain ⟨turn, stop⟩ := hJ b Z1 H1 σ1 ρ1 vs as S1
  by_cases hi : i < ds.length
  · obtain ⟨go, yld⟩ := turn i ds[i] (List.getElem?_eq_getElem hi)
    refine .inr ⟨go, fun σ2 H2 => ∃ Z ρ, Sta C.K C.mg b Z H2 σ2 ρ (ws ++ vs) (pa ++ as) ∧ (forL gt F (ds.drop (i + 1)) ρ).sat (finS C D b vs as) (XPost C b vs as), fun σ2 H2 ⟨Z2, ρ2, S2, q2⟩ => ⟨m - 1, by omega, Z2, ρ2, S2, by omega, q2⟩, fun x H2 hy => ?_⟩
    obtain ⟨Z2, S2⟩ := yld x H2 hy
    rw [List.drop_eq_getElem_cons hi] at q1
    refine ⟨b, Z2, ρ1, ws ++ vs, pa ++ as, ds[i], hbn, S2, R.sat_mono (R.sat_bind q1) (fun _ ρ3 q3 Z3 H3 σ3 S3 _ => ?_) fun _ _ q => q.pops hl⟩
    refine ⟨b, Z3, ρ3, ws ++ vs, pa ++ as, hbn, rfl, S3, R.sat_mono (R.sat_bind q3) (fun fl ρ4 q4 => ?_) fun _ _ q => q.pops hl⟩
    cases fl with
    | nx => exact fun Z' H' σ' S' => ⟨Z', ρ4, S', q4⟩
    | ct => exact fun Z' H' σ' S' => ⟨Z', ρ4, S', q4⟩
    | bk => exact fun Z' H' σ' S' => q4 Z' H' σ' (S'.pops hl)
    | ret a => exact fun Z' H' σ' v S' => q4 Z' H' σ' v ((S'.unrot hl).pops hl)
  · have e : i = ds.length := by omega
    subst e
    rw [List.drop_length] at q1
    exact .inl ⟨stop, q1 _ _ _ (S1.pops hl)⟩
theorem ds_while (hp : PassesOwn (model X.prog X.w) X.A X.env X.xe) (hc : PT X c (tT C p)) (hb : PSs X body (tS C F)) : PS X (.While c body [] pos) (tS C (dWhile p F)) := by
  refine PS.w (ps_while hp hc hb) fun D σ H k => ?_
  obtain ⟨b, Z, ρ, vs, as, hbn, hl, S, k⟩ := k
  have nb : dWhile p F ρ ≠ .bad := fun e => by rw [e] at k; exact k
  obtain ⟨n, en⟩ := dWhile_some nb
  rw [en] at k
  refine ⟨fun m σ H => ∃ Z ρ, Sta C.K C.mg b Z H σ ρ vs as ∧ (whileN p F m ρ).sat (finS C D b vs as) (XPost C b vs as), ⟨n, Z, ρ, S, k⟩, ?_⟩
  rintro m σ1 H1 ⟨Z1, ρ1, S1, q1⟩
  cases m with
  | zero => exact q1.elim
  | succ m =>
    refine ⟨b, Z1, ρ1, vs, as, hbn, rfl, S1, R.sat_mono (R.sat_bind q1) (fun d ρ2 q2 Z2 H2 S2 => ?_) fun _ _ q => q⟩
    cases d with
    | true =>
      refine ⟨fun σ H => ∃ Z ρ, Sta C.K C.mg b Z H σ ρ vs as ∧ (whileN p F m ρ).sat (finS C D b vs as) (XPost C b vs as), fun σ' H' q => ⟨m, by omega, q⟩, ?_⟩
      refine ⟨b, Z2, ρ2, vs, as, hbn, rfl, S2, R.sat_mono (R.sat_bind q2) (fun fl ρ3 q3 => ?_) fun _ _ q => q⟩
      cases fl with
      | nx => exact fun Z' H' σ' S' => ⟨Z', ρ3, S', q3⟩
      | ct => exact fun Z' H' σ' S' => ⟨Z', ρ3, S', q3⟩
      | bk => exact fun Z' H' σ' S' => q3 Z' H' σ' S'
      | ret a => exact q3
    | false => exact q2 Z2 H2 σ1 S2
end
end DD

namespace DD
open PySem PySem.Spec L2
open PyProof.Rows hiding St
variable [LamN]

mutual
def D.py : D → PyData
  | .non => .none
  | .bl b => .bool b
  | .int i => .int i
  | .str x => .str x
  | .tup l => .tuple (pys l)
  | .lst l => .list (pys l)
  | .fz l => .list (pys l)
  | .ins _ _ _ => .none
def pys : List D → List PyData
  | [] => []
  | d :: l => d.py :: pys l
end
mutual
def D.plain : D → Bool
  | .tup l => plains l
  | .lst l => plains l
  | .fz l => plains l
  | .ins _ _ _ => false
  | _ => true
def plains : List D → Bool
  | [] => true
  | d :: l => d.plain && plains l
end
def D.cmp (d : D) : Bool := d.plain && SeqAt.shaped d.py
section
variable {K : PySem.W.Frag} {mg : Str → Option Value} {Z H : Hp}
mutual
theorem RepD.dp (z : Same Z H) : ∀ (d : D) (x : V), RepD K mg Z x d → d.plain = true → Dp K H x d.py
  | .non, _, h, _ => by cases h; exact .non
  | .bl _, _, h, _ => by cases h; exact .bl _
  | .int _, _, h, _ => by cases h; exact .int _
  | .str _, _, h, _ => by cases h; exact .str _
  | .tup l, _, h, p => by
    cases h with
    | tup h1 h2 => exact .tup (sameT z h1) (RepDs.dp z l _ h2 (by simpa [D.plain] using p))
  | .lst l, _, h, p => by
    cases h with
    | lst h1 h2 => exact .lst (SqL.of (z _ _ h1)) (RepDs.dp z l _ h2 (by simpa [D.plain] using p))
  | .fz l, _, h, p => by
    cases h with
    | fz h1 h2 => exact .lst (z.seq h1) (RepDs.dp z l _ h2 (by simpa [D.plain] using p))
  | .ins _ _ _, _, h, p => by simp [D.plain] at p
theorem RepDs.dp (z : Same Z H) : ∀ (ds : List D) (xs : List V), RepDs K mg Z xs ds → plains ds = true → DpAll K H xs (pys ds)
  | [], _, h, _ => by cases h; exact .nil
  | d :: ds, _, h, p => by
    cases h with
    | cons h1 h2 =>
      have p' : d.plain = true ∧ plains ds = true := by simpa [plains] using p
      exact .cons (RepD.dp z d _ h1 p'.1) (RepDs.dp z ds _ h2 p'.2)
end
end

def ii (g : Int → Int → Option D) (a c : A) : Option A := match a, c with
  | .v (.int i), .v (.int j) => (g i j).map .v
  | _, _ => none
section
variable {C : SC} {X : Cx}
theorem op2_ints {r : R2} {Cd : Int → Int → Prop} {gv : Int → Int → V} {g : Int → Int → Option D} (hr : ∀ x y H Q, rI Cd gv x y H Q → r x y H Q)
    (hg : ∀ i j d, g i j = some d → Cd i j ∧ ∀ Z, RepD C.K C.mg Z (gv i j) d) : Op2 C r (ii g) := by
  intro b Z H σ ρ vs as x y a c res Q S e k
  unfold ii at e
  split at e
  · rename_i i j
    cases e' : g i j with
    | none => rw [e'] at e; cases e
    | some d =>
      rw [e'] at e
      cases e
      obtain ⟨h1, h2⟩ := hg i j d e'
      have t1 := S.top
      have t2 := S.top2
      cases t1
      cases t2
      exact hr _ _ _ _ ⟨i, j, rfl, rfl, h1, k _ _ _ (S.pop.pop.push (h2 Z))⟩
  · cases e
/-- IntMulOk below a bound -/
theorem mulOk {i j : Int} (h : i.natAbs.log2 + j.natAbs.log2 < 134217000) : IntMulOk i j := by
  have b : ∀ x : Int, Builtin.Int.intBits x ≤ x.natAbs.log2 + 1 := fun x => by
    unfold Builtin.Int.intBits
    split <;> omega
  have h1 := b i
  have h2 := b j
  have e : bitsLine = 134217728 := by decide
  unfold IntMulOk
  intro z
  rw [Bool.and_eq_true] at z
  have z2 := z.2
  unfold Builtin.Int.intTooBig at z2
  have z3 := of_decide_eq_true z2
  rw [e] at z3
  omega
def MulC (i j : Int) : Prop := i.natAbs.log2 + j.natAbs.log2 < 134217000
def DivC (i j : Int) : Prop := j ≠ 0 ∧ (j.natAbs.log2 < 9000 ∨ i.natAbs.log2 < j.natAbs.log2 + 4400)
theorem divOk {i j : Int} (h : DivC i j) : Builtin.divisionGoesByPylong i j = false := by
  rcases h.2 with h2 | h2
  · exact PyProof.noPylong_of_log2 h2
  · have h0 := h.1
    unfold Builtin.divisionGoesByPylong
    have hj : (j == 0) = false := by simp [h0]
    simp only [hj]
    by_cases hi : (i == 0) = true
    · simp only [hi]
      simp
    · simp only [hi]
      simp only [Bool.and_eq_false_iff, decide_eq_false_iff_not]
      right
      simp only [Bool.false_eq_true, if_false]
      omega
theorem or_mul : OpR X (binaryOp .Mult) (rI MulC fun i j => .int (i * j)) := opI fun _ _ _ _ _ _ _ hc q => mul_int q (mulOk hc)
theorem or_div : OpR X (binaryOp .FloorDiv) (rI DivC fun i j => .int (i.fdiv j)) := opI fun _ _ _ _ _ _ _ hc q => floordiv_int hc.1 q (.inl (divOk hc))

def opAdd (a c : A) : Option A := match a, c with
  | .v (.int i), .v (.int j) => some (.v (.int (i + j)))
  | .v (.tup l), .v (.tup k) => if l.length + k.length ≤ sizeLine then some (.v (.tup (l ++ k))) else none
  | .v (.str x), .v (.str y) => if x.length + y.length ≤ sizeLine then some (.v (.str (x ++ y))) else none
  | .m l, .m k => if l.length + k.length ≤ sizeLine then some (.m ((frzs l ++ frzs k).map A.v)) else none
  | .v (.lst l), .m k => if l.length + k.length ≤ sizeLine then some (.m ((l ++ frzs k).map A.v)) else none
  | .m l, .v (.lst k) => if l.length + k.length ≤ sizeLine then some (.m ((frzs l ++ k).map A.v)) else none
  | .v (.lst l), .v (.lst k) => if l.length + k.length ≤ sizeLine then some (.m ((l ++ k).map A.v)) else none
  | _, _ => none
def rAdd (K : PySem.W.Frag) : R2 := fun x y H Q => (rI0 (fun i j => .int (i + j)) x y H Q ∨ rCatA K x y H Q) ∨ (rCat x y H Q ∨ ∃ i j, x = .str i ∧ y = .str j ∧ i.length + j.length ≤ sizeLine ∧ Q (.str (i ++ j)) H)
theorem or_add : OpR X (binaryOp .Add) (rAdd X.K) := (op_add.or op_catA).or (op_cat.or op_add_str)
/-- two lists end to end -/
theorem add_lists {b : Base} {Z H : Hp} {σ : St} {ρ : DEnv} {vs : List V} {as : List A} {x y : V} {l k : List D} {Q : VK} (S : Sta C.K C.mg b Z H σ ρ (y :: x :: vs) (.v (.lst k) :: .v (.lst l) :: as)) (hz : l.length + k.length ≤ sizeLine)
    (q : ∀ Z' H' v, Sta C.K C.mg b Z' H' σ ρ (v :: vs) (.m ((l ++ k).map A.v) :: as) → Q v H') : rCat x y H Q := by
  have t1 := S.top
  have t2 := S.top2
  cases t1 with
  | lst h1 h2 =>
    cases t2 with
    | lst h3 h4 =>
      refine ⟨_, _, _, _, rfl, rfl, S.zh _ _ h3, S.zh _ _ h1, by rw [h4.length, h2.length]; exact hz, fun p hp => ?_⟩
      have r := RepDs.append h4 h2
      have S' := S.pop.pop
      have S2 : ∀ {ws : List V} {ds : List D}, RepDs C.K C.mg Z ws ds → Sta C.K C.mg b Z H σ ρ (ws ++ vs) (ds.map A.v ++ as) := fun {ws} => by
        induction ws with
        | nil => intro ds h; cases h; exact S'
        | cons w ws ih =>
          intro ds h
          cases h with
          | cons h1 h2 => exact (ih h2).push h1
      exact q _ _ _ ((S2 r).newM (by rw [List.length_map]; exact r.length) hp)
theorem Sta.freeze2 {b : Base} {Z H : Hp} {σ : St} {ρ : DEnv} {vs : List V} {as : List A} {x y : V} {a c : A} (S : Sta C.K C.mg b Z H σ ρ (y :: x :: vs) (c :: a :: as)) : ∃ Z', Sta C.K C.mg b Z' H σ ρ (y :: x :: vs) (.v c.frz :: .v a.frz :: as) := by
  obtain ⟨Z1, _, S1⟩ := S.freeze
  obtain ⟨Z2, z2, S2⟩ := S1.pop.freeze
  exact ⟨Z2, S2.push (RepD.mono z2 _ _ S1.top)⟩
theorem frzs_length : ∀ l : List A, (frzs l).length = l.length
  | [] => rfl
  | a :: l => by rw [frzs, List.length_cons, List.length_cons, frzs_length l]
theorem o2_add : Op2 C (rAdd C.K) opAdd := by
  intro b Z H σ ρ vs as x y a c res Q S e k
  unfold opAdd at e
  split at e
  · rename_i i j
    cases e
    have t1 := S.top
    have t2 := S.top2
    cases t1
    cases t2
    exact .inl (.inl ⟨i, j, rfl, rfl, k _ _ _ (S.pop.pop.push (.int _))⟩)
  · rename_i l m
    split at e
    · rename_i hz
      cases e
      have t1 := S.top
      have t2 := S.top2
      cases t1 with
      | tup h1 h2 =>
        cases t2 with
        | tup h3 h4 =>
          refine .inl (.inr ⟨_, _, _, _, rfl, rfl, sameT S.zh h3, sameT S.zh h1, by rw [h4.length, h2.length]; exact hz, fun e0 => ?_, fun e0 e1 => ?_, fun e0 e1 p hp => ?_⟩)
          · subst e0
            cases h4
            exact k _ _ _ (S.pop.pop.push (.tup h1 h2))
          · subst e1
            cases h2
            rw [List.append_nil] at k
            exact k _ _ _ (S.pop.pop.push (.tup h3 h4))
          · have zp := S.zh.free hp
            exact k _ _ _ (S.pop.pop.newF (o := .tup _) hp (.tup (SqT.of upd_same) (RepDs.mono (same_upd zp) _ _ (RepDs.append h4 h2))))
    · cases e
  · rename_i u w
    split at e
    · rename_i hz
      cases e
      have t1 := S.top
      have t2 := S.top2
      cases t1
      cases t2
      exact .inr (.inr ⟨u, w, rfl, rfl, hz, k _ _ _ (S.pop.pop.push (.str _))⟩)
    · cases e
  · rename_i l m
    split at e
    · rename_i hz
      cases e
      obtain ⟨Z', S'⟩ := S.freeze2
      exact .inr (.inl (add_lists S' (by rw [frzs_length, frzs_length]; exact hz) k))
    · cases e
  · rename_i l m
    split at e
    · rename_i hz
      cases e
      obtain ⟨Z', S'⟩ := S.freeze2
      exact .inr (.inl (add_lists S' (by rw [frzs_length]; exact hz) k))
    · cases e
  · rename_i l m
    split at e
    · rename_i hz
      cases e
      obtain ⟨Z', S'⟩ := S.freeze2
      exact .inr (.inl (add_lists S' (by rw [frzs_length]; exact hz) k))
    · cases e
  · rename_i l m
    split at e
    · rename_i hz
      cases e
      exact .inr (.inl (add_lists S hz k))
    · cases e
  · cases e

def opSub : A → A → Option A := ii fun i j => some (.int (i - j))
theorem o2_sub : Op2 C (rI0 fun i j => .int (i - j)) opSub := op2_ints (Cd := fun _ _ => True) (fun _ _ _ _ ⟨i, j, e1, e2, _, q⟩ => ⟨i, j, e1, e2, q⟩) fun i j d e => by cases e; exact ⟨trivial, fun _ => .int _⟩
open Classical in
noncomputable def opMulI (i j : Int) : Option D := if MulC i j then some (.int (i * j)) else none
open Classical in
noncomputable def opMul (a c : A) : Option A := match a, c with
  | .v (.int i), .v (.int j) => if MulC i j then some (.v (.int (i * j))) else none
  | .m l, .v (.int k) => if l.length * k.toNat ≤ sizeLine ∧ -(2 ^ 63) ≤ k ∧ k < 2 ^ 63 then some (.m ((List.replicate k.toNat (frzs l)).flatten.map A.v)) else none
  | .v (.tup l), .v (.int k) => if l ≠ [] ∧ l.length ≤ 1000 ∧ 2 ≤ k ∧ k ≤ 1000 then some (.v (.tup (List.replicate k.toNat l).flatten)) else none
  | _, _ => none
def rMul (K : PySem.W.Frag) : R2 := fun x y H Q => (rI MulC (fun i j => .int (i * j)) x y H Q ∨ rRep x y H Q) ∨ rRepT K x y H Q
theorem or_mulA : OpR X (binaryOp .Mult) (rMul X.K) := (or_mul.or op_rep).or op_repT
theorem RepDs.rep {K : PySem.W.Frag} {mg : Str → Option Value} {Z : Hp} {ws : List V} {ds : List D} (h : RepDs K mg Z ws ds) : ∀ k : Nat, RepDs K mg Z (List.replicate k ws).flatten (List.replicate k ds).flatten
  | 0 => .nil
  | k + 1 => by
    rw [List.replicate_succ, List.replicate_succ, List.flatten_cons, List.flatten_cons]
    exact RepDs.append h (RepDs.rep h k)
theorem Sta.pushes {b : Base} {Z H : Hp} {σ : St} {ρ : DEnv} {vs : List V} {as : List A} (S : Sta C.K C.mg b Z H σ ρ vs as) : ∀ {ws : List V} {ds : List D}, RepDs C.K C.mg Z ws ds → Sta C.K C.mg b Z H σ ρ (ws ++ vs) (ds.map A.v ++ as)
  | [], _, h => by cases h; exact S
  | w :: ws, _, h => by
    cases h with
    | cons h1 h2 => exact (Sta.pushes S h2).push h1
theorem o2_mul : Op2 C (rMul C.K) opMul := by
  intro b Z H σ ρ vs as x y a c res Q S e k
  unfold opMul at e
  split at e
  · rename_i i j
    split at e
    · rename_i hz
      cases e
      have t1 := S.top
      have t2 := S.top2
      cases t1
      cases t2
      exact .inl (.inl ⟨i, j, rfl, rfl, hz, k _ _ _ (S.pop.pop.push (.int _))⟩)
    · cases e
  · rename_i l n
    split at e
    · rename_i hz
      cases e
      obtain ⟨Z', S'⟩ := S.freeze2
      have t1 := S'.top
      have t2 := S'.top2
      cases t1
      cases t2 with
      | lst h3 h4 =>
        refine .inl (.inr ⟨_, n, _, rfl, rfl, S'.zh _ _ h3, hz.2.1, hz.2.2, by rw [h4.length, frzs_length]; exact hz.1, fun p hp => ?_⟩)
        have r := h4.rep n.toNat
        exact k _ _ _ ((S'.pop.pop.pushes r).newM (by rw [List.length_map]; exact r.length) hp)
    · cases e
  · rename_i l n
    split at e
    · rename_i hz
      cases e
      have t1 := S.top
      have t2 := S.top2
      cases t1
      cases t2 with
      | tup h3 h4 =>
        refine .inr ⟨_, n, _, rfl, rfl, sameT S.zh h3, fun e0 => ?_, hz.2.2.1, hz.2.2.2, by rw [h4.length]; exact hz.2.1, fun p hp => ?_⟩
        · subst e0; cases h4; exact hz.1 rfl
        · have zp := S.zh.free hp
          exact k _ _ _ (S.pop.pop.newF (o := .tup _) hp (.tup (SqT.of upd_same) (RepDs.mono (same_upd zp) _ _ (h4.rep n.toNat))))
    · cases e
  · cases e
open Classical in
noncomputable def opDiv : A → A → Option A := ii fun i j => if DivC i j then some (.int (i.fdiv j)) else none
theorem o2_div : Op2 C (rI DivC fun i j => .int (i.fdiv j)) opDiv := op2_ints (fun _ _ _ _ h => h) fun i j d e => by
  split at e
  · rename_i h; cases e; exact ⟨h, fun _ => .int _⟩
  · cases e
def opMod : A → A → Option A := ii fun i j => if j ≠ 0 then some (.int (i.fmod j)) else none
theorem o2_mod : Op2 C (rI (fun _ j => j ≠ 0) fun i j => .int (i.fmod j)) opMod := op2_ints (fun _ _ _ _ h => h) fun i j d e => by
  split at e
  · rename_i h; cases e; exact ⟨h, fun _ => .int _⟩
  · cases e
def PowC (i j : Int) : Prop := 0 ≤ j ∧ (Builtin.Int.intBits i : Int) * j ≤ 2 ^ 27
theorem op_powB {X : Cx} : OpR X (binaryOp .Pow) (rI PowC fun i j => .int (i ^ j.toNat)) := opI fun _ _ _ _ _ _ _ hc q => pow_int hc.1 hc.2 q
open Classical in
noncomputable def opPow : A → A → Option A := ii fun i j => if PowC i j then some (.int (i ^ j.toNat)) else none
theorem o2_pow : Op2 C (rI PowC fun i j => .int (i ^ j.toNat)) opPow := op2_ints (fun _ _ _ _ h => h) fun i j d e => by
  split at e
  · rename_i h; cases e; exact ⟨h, fun _ => .int _⟩
  · cases e
def opNeg (a : A) : Option A := match a with
  | .v (.int i) => some (.v (.int (-i)))
  | _ => none
theorem o1_neg : Op1 C (rU fun i => .int (-i)) opNeg := by
  intro b Z H σ ρ vs as x a res Q S e k
  unfold opNeg at e
  split at e
  · cases e
    have t := S.top
    cases t
    exact ⟨_, rfl, k _ _ _ (S.pop.push (.int _))⟩
  · cases e
def opLt : A → A → Option A := ii fun i j => some (.bl (decide (i < j)))
def opLe : A → A → Option A := ii fun i j => some (.bl (decide (i ≤ j)))
def opGt : A → A → Option A := ii fun i j => some (.bl (decide (j < i)))
def opGe : A → A → Option A := ii fun i j => some (.bl (decide (j ≤ i)))
theorem o2_c0 {g : Int → Int → Bool} : Op2 C (rI0 fun i j => .bl (g i j)) (ii fun i j => some (.bl (g i j))) := op2_ints (Cd := fun _ _ => True) (fun _ _ _ _ ⟨i, j, e1, e2, _, q⟩ => ⟨i, j, e1, e2, q⟩) fun i j d e => by cases e; exact ⟨trivial, fun _ => .bl _⟩
theorem o2_lt : Op2 C (rI0 fun i j => .bl (decide (i < j))) opLt := o2_c0
theorem o2_le : Op2 C (rI0 fun i j => .bl (decide (i ≤ j))) opLe := o2_c0
theorem o2_gt : Op2 C (rI0 fun i j => .bl (decide (j < i))) opGt := o2_c0
theorem o2_ge : Op2 C (rI0 fun i j => .bl (decide (j ≤ i))) opGe := o2_c0
def opEqv (f : Bool → Bool) (a c : A) : Option A := if a.frz.cmp && c.frz.cmp then some (.v (.bl (f (PyData.eqv a.frz.py c.frz.py)))) else none
def opEq : A → A → Option A := opEqv id
def opNe : A → A → Option A := opEqv not
theorem cmp_of {d : D} (h : d.cmp = true) : d.plain = true ∧ SeqAt.shaped d.py = true := by simpa [D.cmp] using h
theorem o2_eqv {f : Bool → Bool} {r : R2} (hr : ∀ x y H Q, (∃ d e, Dp C.K H x d ∧ Dp C.K H y e ∧ SeqAt.shaped d = true ∧ SeqAt.shaped e = true ∧ Q (.bl (f (PyData.eqv d e))) H) → r x y H Q) : Op2 C r (opEqv f) := by
  intro b Z H σ ρ vs as x y a c res Q S e k
  unfold opEqv at e
  split at e
  · rename_i hz
    cases e
    simp only [Bool.and_eq_true] at hz
    obtain ⟨p1, s1⟩ := cmp_of hz.1
    obtain ⟨p2, s2⟩ := cmp_of hz.2
    obtain ⟨Z', S'⟩ := S.freeze2
    exact hr _ _ _ _ ⟨_, _, RepD.dp S'.zh _ _ S'.top2 p1, RepD.dp S'.zh _ _ S'.top p2, s1, s2, k _ _ _ (S'.pop.pop.push (.bl _))⟩
  · cases e
theorem o2_eq : Op2 C (rEqD C.K) opEq := o2_eqv fun _ _ _ _ h => h
theorem o2_ne : Op2 C (rNeD C.K) opNe := o2_eqv fun _ _ _ _ h => h
/-- x is None -/
def isN (d : D) : Bool := match d with
  | .non => true
  | _ => false
def opIsN (a c : A) : Option A := match a, c with
  | .v d, .v .non => some (.v (.bl (isN d)))
  | _, _ => none
def opNotN (a c : A) : Option A := match a, c with
  | .v d, .v .non => some (.v (.bl (!isN d)))
  | _, _ => none
theorem RepD.isN {K : PySem.W.Frag} {mg : Str → Option Value} {Z : Hp} {x : V} {d : D} (h : RepD K mg Z x d) : decide (x = .non) = DD.isN d := by
  cases h <;> simp [DD.isN]
theorem o2_isN : Op2 C (fun x y H Q => y = .non ∧ Q (.bl (decide (x = .non))) H) opIsN := by
  intro b Z H σ ρ vs as x y a c res Q S e k
  unfold opIsN at e
  split at e
  · cases e
    have t := S.top
    cases t
    exact ⟨rfl, k _ _ _ (S.pop.pop.push (by rw [RepD.isN S.top2]; exact .bl _))⟩
  · cases e
theorem o2_notN : Op2 C (fun x y H Q => y = .non ∧ Q (.bl (!decide (x = .non))) H) opNotN := by
  intro b Z H σ ρ vs as x y a c res Q S e k
  unfold opNotN at e
  split at e
  · cases e
    have t := S.top
    cases t
    exact ⟨rfl, k _ _ _ (S.pop.pop.push (by rw [RepD.isN S.top2]; exact .bl _))⟩
  · cases e
/-- x is True, of truths -/
def opIsB (a c : A) : Option A := match a, c with
  | .v (.bl x), .v (.bl y) => some (.v (.bl (decide (x = y))))
  | _, _ => none
def opNotB (a c : A) : Option A := match a, c with
  | .v (.bl x), .v (.bl y) => some (.v (.bl (!decide (x = y))))
  | _, _ => none
theorem o2_isB : Op2 C (fun x y H Q => ∃ a b, x = .bl a ∧ y = .bl b ∧ Q (.bl (decide (a = b))) H) opIsB := by
  intro b Z H σ ρ vs as x y a c res Q S e k
  unfold opIsB at e
  split at e
  · cases e
    have t := S.top
    have t2 := S.top2
    cases t
    cases t2
    exact ⟨_, _, rfl, rfl, k _ _ _ (S.pop.pop.push (.bl _))⟩
  · cases e
theorem o2_notB : Op2 C (fun x y H Q => ∃ a b, x = .bl a ∧ y = .bl b ∧ Q (.bl (!decide (a = b))) H) opNotB := by
  intro b Z H σ ρ vs as x y a c res Q S e k
  unfold opNotB at e
  split at e
  · cases e
    have t := S.top
    have t2 := S.top2
    cases t
    cases t2
    exact ⟨_, _, rfl, rfl, k _ _ _ (S.pop.pop.push (.bl _))⟩
  · cases e
/-- in, not in: flat things in a list or tuple of flat things -/
def D.toV : D → V
  | .non => .non
  | .bl b => .bl b
  | .int i => .int i
  | .str x => .str x
  | _ => .non
def D.flat : D → Bool
  | .non => true
  | .bl _ => true
  | .int _ => true
  | .str _ => true
  | _ => false
theorem RepD.flat {K : PySem.W.Frag} {mg : Str → Option Value} {Z : Hp} {x : V} {d : D} (h : RepD K mg Z x d) (f : d.flat = true) : x = d.toV ∧ flatV x = true := by
  cases h <;> simp_all [D.flat, D.toV, flatV]
theorem RepDs.flat {K : PySem.W.Frag} {mg : Str → Option Value} {Z : Hp} : ∀ {xs : List V} {ds : List D}, RepDs K mg Z xs ds → ds.all D.flat = true → xs = ds.map D.toV ∧ xs.all flatV = true
  | [], _, h, _ => by cases h; exact ⟨rfl, rfl⟩
  | x :: xs, _, h, f => by
    cases h with
    | cons h1 h2 =>
      rw [List.all_cons, Bool.and_eq_true] at f
      obtain ⟨e1, e2⟩ := h1.flat f.1
      obtain ⟨e3, e4⟩ := RepDs.flat h2 f.2
      exact ⟨by rw [List.map_cons, ← e1, ← e3], by rw [List.all_cons, e2, e4]; rfl⟩
def inD (d : D) (ds : List D) : Bool := inV d.toV (ds.map D.toV)
def seqD : D → Option (List D)
  | .tup l => some l
  | .lst l => some l
  | .fz l => some l
  | _ => none
def opIn (f : Bool → Bool) (a c : A) : Option A := match seqD c.frz with
  | some ds => if a.frz.flat && ds.all D.flat then some (.v (.bl (f (inD a.frz ds)))) else none
  | none => none
/-- a sequence's place in the heap -/
theorem RepD.seq {K : PySem.W.Frag} {mg : Str → Option Value} {Z H : Hp} {x : V} {d : D} {ds : List D} (h : RepD K mg Z x d) (z : Same Z H) (e : seqD d = some ds) : ∃ p xs, x = .ref p ∧ (SqL K H p xs ∨ SqT K H p xs) ∧ RepDs K mg Z xs ds := by
  cases h with
  | tup h1 h2 => cases e; exact ⟨_, _, rfl, .inr (sameT z h1), h2⟩
  | lst h1 h2 => cases e; exact ⟨_, _, rfl, .inl (SqL.of (z _ _ h1)), h2⟩
  | fz h1 h2 => cases e; exact ⟨_, _, rfl, .inl (z.seq h1), h2⟩
  | _ => cases e
theorem o2_in {neg : Bool} : Op2 C (rIn C.K neg) (opIn fun k => if neg then !k else k) := by
  intro b Z H σ ρ vs as x y a c res Q S e k
  unfold opIn at e
  split at e
  · rename_i ds hds
    split at e
    · rename_i hz
      cases e
      rw [Bool.and_eq_true] at hz
      obtain ⟨Z', S'⟩ := S.freeze2
      obtain ⟨p, xs, rfl, hs, r⟩ := S'.top.seq S'.zh hds
      obtain ⟨e1, f1⟩ := S'.top2.flat hz.1
      obtain ⟨e2, f2⟩ := r.flat hz.2
      refine ⟨p, xs, rfl, hs, f1, f2, ?_⟩
      have q := k _ _ _ (S'.pop.pop.push (.bl (if neg then !inD a.frz ds else inD a.frz ds)))
      unfold inD at q
      rw [← e1, ← e2] at q
      cases neg <;> exact q
    · cases e
  · cases e
def opIx (a c : A) : Option A := match c with
  | .v (.int i) => (match a.frz with
    | .str z => (match atI z.cps.toList i with
      | some n => if z.length ≤ sizeLine then some (.v (.str ⟨#[n]⟩)) else none
      | none => none)
    | d => (match seqD d with
      | some ds => (match atI ds i with
        | some e => some (.v e)
        | none => none)
      | none => none))
  | _ => none
theorem atI_rep {K : PySem.W.Frag} {mg : Str → Option Value} {Z : Hp} {xs : List V} {ds : List D} {i : Int} {d : D} (h : RepDs K mg Z xs ds) (e : atI ds i = some d) : ∃ x, atI xs i = some x ∧ RepD K mg Z x d := by
  unfold atI at e ⊢
  rw [h.length]
  cases q : ixN ds.length i with
  | none => rw [q] at e; cases e
  | some j =>
    rw [q] at e
    exact h.get e
theorem ix_of {K : PySem.W.Frag} {mg : Str → Option Value} {b : Base} {Z H : Hp} {σ : St} {ρ : DEnv} {vs : List V} {as : List A} {x : V} {d : D} {ds : List D} {i : Int} {e : D} {Q : VK} (S : Sta K mg b Z H σ ρ (x :: vs) (.v d :: as)) (hds : seqD d = some ds) (he : atI ds i = some e)
    (k : ∀ Z' H' v, Sta K mg b Z' H' σ ρ (v :: vs) (.v e :: as) → Q v H') : rIx K x (.int i) H Q := by
  obtain ⟨p, xs, rfl, hs, r⟩ := S.top.seq S.zh hds
  obtain ⟨y, e1, r1⟩ := atI_rep r he
  rcases hs with hs | hs
  · exact .inl ⟨p, xs, i, y, rfl, rfl, hs, e1, k _ _ _ (S.pop.push r1)⟩
  · exact .inr (.inl ⟨p, xs, i, y, rfl, rfl, hs, e1, k _ _ _ (S.pop.push r1)⟩)
theorem o2_ix : Op2 C (rIx C.K) opIx := by
  intro b Z H σ ρ vs as x y a c res Q S e k
  obtain ⟨Z', S'⟩ := S.freeze2
  unfold opIx at e
  split at e
  · rename_i i
    have t := S'.top
    simp only [A.frz] at t
    cases t
    split at e
    · rename_i z hz
      split at e
      · rename_i n hn
        split at e
        · rename_i hl
          cases e
          rw [hz] at S'
          have t2 := S'.top2
          cases t2
          exact .inr (.inr ⟨z, i, n, rfl, rfl, hl, hn, k _ _ _ (S'.pop.pop.push (.str _))⟩)
        · cases e
      · cases e
    · split at e
      · rename_i ds hds
        split at e
        · rename_i d' hd
          cases e
          exact ix_of S'.pop hds hd k
        · cases e
      · cases e
  · cases e
end
end DD

namespace DD
open PySem PySem.Spec L2
open PyProof.Rows hiding St
variable [LamN]

/-- what a def makes of its arguments: the value, and what its lent arguments hold then -/
inductive FR where
  | ok (a : A) (l : List A)
  | exc (e : Ex) (l : List A)
  | bad
abbrev Fn := List A → FR
def okArgs (pn : List Nat) : Nat → List A → Bool
  | _, [] => true
  | i, .v _ :: as => !pn.contains i && okArgs pn (i + 1) as
  | i, _ :: as => pn.contains i && okArgs pn (i + 1) as
def lentL (pn : List Nat) : Nat → List A → DEnv → Option (List A)
  | _, [], _ => some []
  | _, _ :: _, [] => none
  | i, a :: as, s :: ρ => if pn.contains i then (match s with
      | some c => (lentL pn (i + 1) as ρ).map (c :: ·)
      | none => none)
    else (lentL pn (i + 1) as ρ).map (a :: ·)
/-- a def of n parameters and N names by its body; pn: the parameters that it may change -/
def dFn (n N : Nat) (pn : List Nat) (body : M Flow) : Fn := fun as =>
  if as.length = n ∧ okArgs pn 0 as = true then
    match body (as.map some ++ List.replicate (N - n) none) with
    | .ok fl ρ => (match lentL pn 0 as ρ with
      | some l => (match fl with
        | .ret a => .ok a l
        | .nx => .ok (.v .non) l
        | _ => .bad)
      | none => .bad)
    | .exc e ρ => (match lentL pn 0 as ρ with
      | some l => .exc e l
      | none => .bad)
    | .bad => .bad
  else .bad

section
variable (K : PySem.W.Frag) (mg : Str → Option Value)
/-- values with the footprint of each -/
inductive RepL (Z H : Hp) : List V → List A → List (List Addr) → Prop
  | nil : RepL Z H [] [] []
  | cons {x : V} {xs : List V} {a : A} {as : List A} {f : List Addr} {fs : List (List Addr)} : RepA K mg Z H x a f → RepL Z H xs as fs → RepL Z H (x :: xs) (a :: as) (f :: fs)
end
/-- behind a call -/
structure After (K : PySem.W.Frag) (Z H : Hp) (fs : List (List Addr)) (Z' H' : Hp) : Prop where
  zz : Same Z Z'
  zh : Same Z' H'
  kz : ∀ a, ¬ Fre H a → Z' a = Z a
  kh : ∀ a o, H a = some o → a ∉ fs.flatten → (∀ ps, o ≠ .tbl ps) → H' a = some o
  kd : ∀ a, Fre H' a → Fre H a
  tb : LamX.Tabs (tabT K) H'
  nt : ∀ a ps, Z' a ≠ some (.tbl ps)
def spD (K : PySem.W.Frag) (mg : Str → Option Value) (F : Fn) : Sp := fun vs H Q E => ∃ Z as fs, (Same Z H ∧ LamX.Tabs (tabT K) H ∧ ∀ a ps, Z a ≠ some (.tbl ps)) ∧ RepL K mg Z H vs as fs ∧ (∀ y, fs.flatten.count y ≤ 1) ∧ (∀ a ∈ fs.flatten, Z a = none) ∧
  match F as with
  | .ok r l => ∀ Z' H' v fr fs', After K Z H fs Z' H' → RepA K mg Z' H' v r fr → RepL K mg Z' H' vs l fs' → (∀ y, fr.count y + fs'.flatten.count y ≤ 1) → (∀ a, a ∈ fr ∨ a ∈ fs'.flatten → Z' a = none) → (∀ a ∈ fr, Fre H a) →
      (∀ (i : Nat) (f f' : List Addr), fs[i]? = some f → fs'[i]? = some f' → ∀ a ∈ f', a ∈ f ∨ Fre H a) → Q v H'
  | .exc e l => ∀ Z' H' cls d fs', After K Z H fs Z' H' → ExR K mg Z' cls d e → RepL K mg Z' H' vs l fs' → (∀ y, fs'.flatten.count y ≤ 1) → (∀ a ∈ fs'.flatten, Z' a = none) →
      (∀ (i : Nat) (f f' : List Addr), fs[i]? = some f → fs'[i]? = some f' → ∀ a ∈ f', a ∈ f ∨ Fre H a) → E cls d H'
  | .bad => False

section
variable {K : PySem.W.Frag} {mg : Str → Option Value} {Z Z' H H' : Hp}
theorem RepL.length : ∀ {xs : List V} {as : List A} {fs : List (List Addr)}, RepL K mg Z H xs as fs → xs.length = as.length
  | [], _, _, h => by cases h; rfl
  | _ :: _, _, _, h => by
    cases h with
    | cons _ h => simp [RepL.length h]
theorem RepL.lengthf : ∀ {xs : List V} {as : List A} {fs : List (List Addr)}, RepL K mg Z H xs as fs → xs.length = fs.length
  | [], _, _, h => by cases h; rfl
  | _ :: _, _, _, h => by
    cases h with
    | cons _ h => simp [RepL.lengthf h]
theorem SRep.blank {P : Nat → Addr → Prop} : ∀ {n : Nat} (m : Nat), SRep K mg P Z H n (List.replicate m none) (List.replicate m none) []
  | _, 0 => .nil
  | _, m + 1 => .no (SRep.blank m)
/-- the slots at a def's entry -/
theorem SRep.start {P : Nat → Addr → Prop} : ∀ {vs : List V} {as : List A} {fs : List (List Addr)} {n : Nat} (m : Nat), RepL K mg Z H vs as fs → (∀ i f, fs[i]? = some f → ∀ a ∈ f, P (n + i) a) →
    SRep K mg P Z H n (vs.map some ++ List.replicate m none) (as.map some ++ List.replicate m none) fs.flatten
  | [], _, _, n, m, h, _ => by
    cases h
    exact SRep.blank m
  | v :: vs, _, _, n, m, h, p => by
    cases h with
    | @cons _ _ a as f fs h1 h2 =>
      refine .so h1 (fun b hb => p 0 f rfl b hb) (SRep.start m h2 fun i g hg a ha => ?_)
      have := p (i + 1) g (by simpa using hg) a ha
      rwa [Nat.add_right_comm, Nat.add_assoc]
/-- what the lent parameters hold at the end -/
theorem SRep.lent {P : Nat → Addr → Prop} {pn : List Nat} : ∀ {vs : List V} {as : List A} {fs : List (List Addr)} {n : Nat} {σ : St} {ρ : DEnv} {f : List Addr} {l : List A}, RepL K mg Z H vs as fs → okArgs pn n as = true → Same Z Z' → SRep K mg P Z' H' n σ ρ f →
    (∀ i, n + i ∈ pn → i < vs.length → σ[i]? = some (vs[i]?)) → lentL pn n as ρ = some l → ∃ fs', RepL K mg Z' H' vs l fs' ∧ (∀ y, fs'.flatten.count y ≤ f.count y) ∧ ∀ i f', fs'[i]? = some f' → ∀ a ∈ f', P (n + i) a
  | [], _, _, _, _, _, _, _, h, _, _, _, _, e => by
    cases h
    simp only [lentL, Option.some.injEq] at e
    subst e
    exact ⟨[], .nil, fun y => by simp, fun i f' e => by simp at e⟩
  | v :: vs, _, _, n, σ, ρ, f, l, h, ok, zz, hs, pin, e => by
    cases h with
    | @cons _ _ a as fa fs h1 h2 =>
      cases hs with
      | nil => simp [lentL] at e
      | @no _ s σ ρ f hs =>
        have pin' : ∀ i, n + 1 + i ∈ pn → i < vs.length → σ[i]? = some (vs[i]?) := fun i hi hl => by
          have := pin (i + 1) (by rwa [Nat.add_right_comm, Nat.add_assoc] at hi) (by simpa using hl)
          simpa using this
        unfold lentL at e
        split at e
        · cases e
        · rename_i hn
          cases h1 with
          | v r =>
            simp only [okArgs, Bool.and_eq_true] at ok
            cases q : lentL pn (n + 1) as ρ with
            | none => rw [q] at e; cases e
            | some l' =>
              rw [q] at e
              cases e
              obtain ⟨fs', r1, c1, p1⟩ := SRep.lent h2 ok.2 zz hs pin' q
              refine ⟨[] :: fs', .cons (.v (RepD.mono zz _ _ r)) r1, fun y => by simpa using c1 y, fun i f' ef => ?_⟩
              cases i with
              | zero => simp at ef; subst ef; intro a ha; cases ha
              | succ i =>
                intro a ha
                have := p1 i f' (by simpa using ef) a ha
                rwa [Nat.add_right_comm, Nat.add_assoc] at this
          | m _ _ => simp only [okArgs, Bool.and_eq_true] at ok; exact absurd ok.1 hn
          | mi _ _ _ => simp only [okArgs, Bool.and_eq_true] at ok; exact absurd ok.1 hn
      | @so _ x c σ ρ fc f hc pc hs =>
        have pin' : ∀ i, n + 1 + i ∈ pn → i < vs.length → σ[i]? = some (vs[i]?) := fun i hi hl => by
          have := pin (i + 1) (by rwa [Nat.add_right_comm, Nat.add_assoc] at hi) (by simpa using hl)
          simpa using this
        have ok' : okArgs pn (n + 1) as = true := by
          cases a <;> simp only [okArgs, Bool.and_eq_true] at ok <;> exact ok.2
        unfold lentL at e
        split at e
        · rename_i hn
          have ex : x = v := by
            have := pin 0 (by simpa using hn) (by simp)
            simpa using this
          subst ex
          dsimp only at e
          cases q : lentL pn (n + 1) as ρ with
          | none => rw [q] at e; cases e
          | some l' =>
            rw [q] at e
            cases e
            obtain ⟨fs', r1, c1, p1⟩ := SRep.lent h2 ok' zz hs pin' q
            refine ⟨fc :: fs', .cons hc r1, fun y => ?_, fun i f' ef => ?_⟩
            · have := c1 y
              rw [List.flatten_cons, List.count_append, List.count_append]; omega
            · cases i with
              | zero => simp at ef; subst ef; exact pc
              | succ i =>
                intro a ha
                have := p1 i f' (by simpa using ef) a ha
                rwa [Nat.add_right_comm, Nat.add_assoc] at this
        · rename_i hn
          cases h1 with
          | v r =>
            cases q : lentL pn (n + 1) as ρ with
            | none => rw [q] at e; cases e
            | some l' =>
              rw [q] at e
              cases e
              obtain ⟨fs', r1, c1, p1⟩ := SRep.lent h2 ok' zz hs pin' q
              refine ⟨[] :: fs', .cons (.v (RepD.mono zz _ _ r)) r1, fun y => ?_, fun i f' ef => ?_⟩
              · have := c1 y
                rw [List.flatten_cons, List.nil_append, List.count_append]; omega
              · cases i with
                | zero => simp at ef; subst ef; intro a ha; cases ha
                | succ i =>
                  intro a ha
                  have := p1 i f' (by simpa using ef) a ha
                  rwa [Nat.add_right_comm, Nat.add_assoc] at this
          | m _ _ => simp only [okArgs, Bool.and_eq_true] at ok; exact absurd ok.1 hn
          | mi _ _ _ => simp only [okArgs, Bool.and_eq_true] at ok; exact absurd ok.1 hn
/-- of parameters that are not lent nothing is owned -/
theorem okArgs_fp {pn : List Nat} : ∀ {vs : List V} {as : List A} {fs : List (List Addr)} {n : Nat}, RepL K mg Z H vs as fs → okArgs pn n as = true → ∀ i f, fs[i]? = some f → ∀ a ∈ f, n + i ∈ pn
  | [], _, _, _, h, _, i, f, e, _, _ => by cases h; simp at e
  | v :: vs, _, _, n, h, ok, i, f, e, q, hq => by
    cases h with
    | @cons _ _ a as fa fs h1 h2 =>
      cases i with
      | zero =>
        simp at e; subst e
        cases h1 with
        | v r => cases hq
        | m _ _ => simp only [okArgs, Bool.and_eq_true] at ok; simpa using ok.1
        | mi _ _ _ => simp only [okArgs, Bool.and_eq_true] at ok; simpa using ok.1
      | succ i =>
        have ok' : okArgs pn (n + 1) as = true := by
          cases a <;> simp only [okArgs, Bool.and_eq_true] at ok <;> exact ok.2
        have := okArgs_fp h2 ok' i f (by simpa using e) q hq
        rwa [Nat.add_right_comm, Nat.add_assoc] at this
end

section
variable {P : Program} {w : World} {K : PySem.W.Frag} {mg : Str → Option Value} {base : Heap}
/-- a def's body keeps what it makes: no exception leaves it -/
theorem body_ok {n N : Nat} {pn : List Nat} {body : M Flow} {F : Fn} (hF : ∀ as, F as ≠ .bad → F as = dFn n N pn body as) {vs : List V} {H : Hp} {Q : VK} {E : XK} {W : WX} (hW : ∀ cls d σ H', E cls d H' → W cls d σ H') (h : spD K mg F vs H Q E) (hn : n ≤ N) :
    vs.length = n ∧ tS ⟨K, mg, W, pn, []⟩ body { nx := fun _ H' => Q .non H', rt := Q } (vs.map some ++ List.replicate (N - n) none) H := by
  obtain ⟨Z, as, fs, ⟨zh, tb, nt⟩, r, c1, zn, h⟩ := h
  have nb : F as ≠ .bad := fun e => by rw [e] at h; exact h
  rw [hF as nb] at h
  unfold dFn at h
  by_cases ok : as.length = n ∧ okArgs pn 0 as = true
  · rw [if_pos ok] at h
    have hl : vs.length = n := r.length.trans ok.1
    refine ⟨hl, ⟨Z, H, fun i a => ∃ f, fs[i]? = some f ∧ a ∈ f, pn, vs.map some ++ List.replicate (N - n) none, []⟩, Z, as.map some ++ List.replicate (N - n) none, [], [], ⟨rfl, rfl⟩, rfl, ?_, ?_⟩
    · refine ⟨Same.refl Z, zh, fun _ _ => rfl, fun _ _ e _ _ => e, fun _ e => e, ⟨tb, nt, fun _ h => by cases h⟩, fun _ _ => rfl, fun i a ⟨f, e, ha⟩ => ?_, fs.flatten, [], ?_, .nil, fun y => by simpa using c1 y, fun a ha => ?_, fun a ha => by cases ha⟩
      · have := okArgs_fp r ok.2 i f e a ha
        simpa using this
      · exact SRep.start _ r fun i f e a ha => .inl ⟨f, by simpa using e, ha⟩
      · rcases ha with ha | ha
        · exact zn a ha
        · cases ha
    · -- the end
      have pinE : ∀ {σ' : St}, (∀ i ∈ pn, σ'[i]? = (vs.map some ++ List.replicate (N - n) none)[i]?) → ∀ i, 0 + i ∈ pn → i < vs.length → σ'[i]? = some (vs[i]?) := fun {σ'} hp i hi hlt => by
        rw [Nat.zero_add] at hi
        rw [hp i hi, List.getElem?_append_left (by simpa using hlt), List.getElem?_map, List.getElem?_eq_getElem hlt]
        rfl
      have aft : ∀ {Z' H' : Hp} {σ' : St} {ρ' : DEnv} {ws : List V} {bs : List A}, Sta K mg ⟨Z, H, fun i a => ∃ f, fs[i]? = some f ∧ a ∈ f, pn, vs.map some ++ List.replicate (N - n) none, []⟩ Z' H' σ' ρ' ws bs → After K Z H fs Z' H' := fun S =>
        ⟨S.zz, S.zh, S.kz, fun a o e ha n => S.kh a o e (fun i ⟨f, ef, haf⟩ => ha (List.mem_flatten.mpr ⟨f, List.mem_of_getElem? ef, haf⟩)) n, S.kd, S.sd.tabs, S.sd.nt⟩
      have own : ∀ {fs' : List (List Addr)} {i : Nat} {f f' : List Addr}, fs[i]? = some f → fs'[i]? = some f' → (∀ i f', fs'[i]? = some f' → ∀ a ∈ f', Base.Own ⟨Z, H, fun i a => ∃ f, fs[i]? = some f ∧ a ∈ f, pn, vs.map some ++ List.replicate (N - n) none, []⟩ (0 + i) a) → ∀ a ∈ f', a ∈ f ∨ Fre H a :=
        fun {fs' i f f'} e1 e2 p a ha => by
          rcases p i f' e2 a ha with ⟨g, eg, hg⟩ | z
          · rw [Nat.zero_add, e1] at eg; cases eg; exact .inl hg
          · exact .inr z
      cases eb : body (as.map some ++ List.replicate (N - n) none) with
      | bad => rw [eb] at h; exact h.elim
      | exc e ρ' =>
        rw [eb] at h
        dsimp only at h
        cases el : lentL pn 0 as ρ' with
        | none => rw [el] at h; exact h.elim
        | some l =>
          rw [el] at h
          intro Z' H' σ' cls d S x
          obtain ⟨f, g, h1, h2, h3, h4, h5⟩ := S.rep
          cases h2
          obtain ⟨fs', r1, c2, p1⟩ := SRep.lent r ok.2 S.zz h1 (pinE S.pin) el
          exact hW _ _ _ _ (h Z' H' cls d fs' (aft S) x r1 (fun y => by have := c2 y; have := h3 y; omega) (fun a ha => h4 a (.inl (count_mem (by have := c2 a; have := mem_count ha; omega)))) fun i f f' e1 e2 => own e1 e2 p1)
      | ok fl ρ' =>
        rw [eb] at h
        dsimp only at h
        cases el : lentL pn 0 as ρ' with
        | none => rw [el] at h; exact h.elim
        | some l =>
          rw [el] at h
          have fin : ∀ {r0 : A} {Z' H' : Hp} {σ' : St} {v : V}, (∀ Z' H' v fr fs', After K Z H fs Z' H' → RepA K mg Z' H' v r0 fr → RepL K mg Z' H' vs l fs' → (∀ y, fr.count y + fs'.flatten.count y ≤ 1) → (∀ a, a ∈ fr ∨ a ∈ fs'.flatten → Z' a = none) → (∀ a ∈ fr, Fre H a) →
              (∀ (i : Nat) (f f' : List Addr), fs[i]? = some f → fs'[i]? = some f' → ∀ a ∈ f', a ∈ f ∨ Fre H a) → Q v H') → Sta K mg ⟨Z, H, fun i a => ∃ f, fs[i]? = some f ∧ a ∈ f, pn, vs.map some ++ List.replicate (N - n) none, []⟩ Z' H' σ' ρ' [v] [r0] → Q v H' := fun {r0 Z' H' σ' v} hq S => by
            obtain ⟨f, g, h1, h2, h3, h4, h5⟩ := S.rep
            cases h2 with
            | @cons _ _ _ _ fr g0 hr hn0 =>
              cases hn0
              obtain ⟨fs', r1, c2, p1⟩ := SRep.lent r ok.2 S.zz h1 (pinE S.pin) el
              refine hq Z' H' v fr fs' (aft S) hr r1 (fun y => ?_) (fun a ha => ?_) (fun a ha => h5 a (List.mem_append_left _ ha)) fun i f f' e1 e2 => own e1 e2 p1
              · have := c2 y; have := h3 y; rw [List.append_nil] at this; omega
              · rcases ha with ha | ha
                · exact h4 a (.inr (List.mem_append_left _ ha))
                · exact h4 a (.inl (count_mem (by have := c2 a; have := mem_count ha; omega)))
          cases fl with
          | nx => exact fun Z' H' σ' S => fin (v := .non) h (S.push .non)
          | ret a => exact fun Z' H' σ' v S => fin h S
          | bk => exact h.elim
          | ct => exact h.elim
  · rw [if_neg ok] at h
    exact h.elim

/-- a def, without exceptions -/
theorem fn_ok {x qual : Str} {st : Stmt} {f : Addr} {fd : FuncData} {Ns ps : List Str} {k : Nat} {pn : List Nat} {body : M Flow} {F : Fn} (Fu : Fun K x qual st f fd) (S : FnScope Ns ps (defScope st))
    (hF : ∀ as, F as ≠ .bad → F as = dFn ps.length Ns.length pn body as)
    (hb : ∀ (cdv : Value) (A : Around) (outer : List PySem.Env) (s : Shared) (H : Hp) (E : XK), Room k (A.deeper (envOfC qual (defScope st) s.heap.objs.size f cdv)) →
      PSs (cxOf CX0 P w K mg base Ns qual (defScope st) f cdv A outer s H E).nox (defBody st) (tS ⟨K, mg, fun _ _ _ _ => False, pn, []⟩ body)) : FnOk P w K mg base CX0 (k + 1) f fd ps (fun vs H Q _ => spD K mg F vs H Q fun _ _ _ => False) := by
  have hn : ps.length ≤ Ns.length := by have := congrArg List.length S.pre; rw [List.length_take] at this; omega
  refine Fu.ok S (fun vs H Q E h => (body_ok (W := fun _ _ _ _ => False) hF (fun _ _ _ _ z => z) h hn).1) fun cdv A outer s H vs Q E hr h => ?_
  obtain ⟨hl, ht⟩ := body_ok (W := fun _ _ _ _ => False) hF (fun _ _ _ _ z => z) h hn
  refine ⟨_, hb cdv A outer s H E hr, ?_⟩
  unfold L2.start
  rw [hl]
  exact ht
end

/-- an argument: a value, or the list of a slot by its place -/
inductive AV where
  | val (a : A)
  | ref (i : Nat)
inductive ArgR (σ : St) : List V → List AV → List V → List A → Prop
  | nil : ArgR σ [] [] [] []
  | val {w : V} {ws : List V} {a : A} {l : List AV} {pv : List V} {pa : List A} : ArgR σ ws l pv pa → ArgR σ (w :: ws) (.val a :: l) (w :: pv) (a :: pa)
  | ref {w : V} {ws : List V} {i : Nat} {l : List AV} {pv : List V} {pa : List A} : σ[i]? = some (some w) → ArgR σ ws l pv pa → ArgR σ (w :: ws) (.ref i :: l) pv pa
def finV (C : SC) (σ : St) (Q : List V → Hp → Prop) : Fin (List AV) := fun b vs as l ρ => ∀ Z' H' ws pv pa, ArgR σ ws l pv pa → Sta C.K C.mg b Z' H' σ ρ (pv ++ vs) (pa ++ as) → Q ws H'
def tV (C : SC) (f : M (List AV)) : TA := fun σ H Q => Go C (finV C σ Q) [] [] f σ H
def vNil : M (List AV) := M.pure []
def vVal (own : Bool) (f : M A) (fs : M (List AV)) : M (List AV) := f.bind fun a => fs.bind fun l => M.pure (.val (frzB own a) :: l)
def vRef (i : Nat) (fs : M (List AV)) : M (List AV) := fun ρ => match ρ[i]? with
  | some (some _) => (fs.bind fun l => M.pure (.ref i :: l)) ρ
  | _ => .bad
def gath : List AV → DEnv → Option (List A × DEnv)
  | [], ρ => some ([], ρ)
  | .val a :: l, ρ => (gath l ρ).map fun q => (a :: q.1, q.2)
  | .ref i :: l, ρ => match ρ[i]? with
    | some (some a) => (gath l (ρ.set i none)).map fun q => (a :: q.1, q.2)
    | _ => none
def back : List AV → List A → DEnv → DEnv
  | .ref i :: l, a :: as, ρ => back l as (ρ.set i (some a))
  | .val _ :: l, _ :: as, ρ => back l as ρ
  | _, _, ρ => ρ
def dCall (F : Fn) (fs : M (List AV)) (ds : List D) : M A := fs.bind fun l ρ => match gath l ρ with
  | none => .bad
  | some q => match F (q.1 ++ ds.map .v) with
    | .ok r l' => .ok r (back l l' q.2)
    | .exc e l' => .exc e (back l l' q.2)
    | .bad => .bad
section
variable {K : PySem.W.Frag} {mg : Str → Option Value} {Z Z' H H' : Hp}
theorem ArgR.length {σ : St} : ∀ {ws : List V} {l : List AV} {pv : List V} {pa : List A}, ArgR σ ws l pv pa → ws.length = l.length ∧ pv.length = pa.length
  | [], _, _, _, h => by cases h; exact ⟨rfl, rfl⟩
  | _ :: _, _, _, _, h => by
    cases h with
    | val h => obtain ⟨h1, h2⟩ := ArgR.length h; simp [h1, h2]
    | ref _ h => obtain ⟨h1, h2⟩ := ArgR.length h; simp [h1, h2]
theorem gath_rep {P : Nat → Addr → Prop} {σ : St} : ∀ {ws : List V} {l : List AV} {pv : List V} {pa : List A} {ρ ρ1 : DEnv} {f g : List Addr} {as1 : List A}, SRep K mg P Z H 0 σ ρ f → RepAs K mg Z H pv pa g → ArgR σ ws l pv pa → gath l ρ = some (as1, ρ1) →
    ∃ f1 fs, SRep K mg P Z H 0 σ ρ1 f1 ∧ RepL K mg Z H ws as1 fs ∧ (∀ y, f1.count y + fs.flatten.count y = f.count y + g.count y) ∧ (∀ (k i : Nat) (f' : List Addr), l[k]? = some (.ref i) → fs[k]? = some f' → ∀ a ∈ f', P i a) ∧
      ∀ (k : Nat) (c : A) (f' : List Addr), l[k]? = some (.val c) → fs[k]? = some f' → ∀ y ∈ f', y ∈ g
  | [], _, _, _, ρ, ρ1, f, g, as1, hs, hp, h, e => by
    cases h
    cases hp
    simp only [gath, Option.some.injEq, Prod.mk.injEq] at e
    obtain ⟨e1, e2⟩ := e
    subst e1 e2
    exact ⟨f, [], hs, .nil, fun y => by simp, fun k i f' e => by simp at e, fun k c f' e => by simp at e⟩
  | w :: ws, _, _, _, ρ, ρ1, f, g, as1, hs, hp, h, e => by
    cases h with
    | @val _ _ a l pv pa h =>
      cases hp with
      | @cons _ _ _ _ fa g0 h1 h2 =>
        unfold gath at e
        cases q : gath l ρ with
        | none => rw [q] at e; cases e
        | some z =>
          rw [q] at e
          simp only [Option.map_some, Option.some.injEq, Prod.mk.injEq] at e
          obtain ⟨e1, e2⟩ := e
          subst e1 e2
          obtain ⟨f1, fs, r1, r2, c1, p1, p2⟩ := gath_rep hs h2 h q
          refine ⟨f1, fa :: fs, r1, .cons h1 r2, fun y => by have := c1 y; rw [List.flatten_cons, List.count_append, List.count_append]; omega, fun k i f' ek ef => ?_, fun k c f' ek ef => ?_⟩
          · cases k with
            | zero => simp at ek
            | succ k => exact p1 k i f' (by simpa using ek) (by simpa using ef)
          · cases k with
            | zero => simp at ef; subst ef; exact fun y hy => List.mem_append_left _ hy
            | succ k => exact fun y hy => List.mem_append_right _ (p2 k c f' (by simpa using ek) (by simpa using ef) y hy)
    | @ref _ _ i l pv pa hw h =>
      unfold gath at e
      split at e
      · rename_i a ha
        cases q : gath l (ρ.set i none) with
        | none => rw [q] at e; cases e
        | some z =>
          rw [q] at e
          simp only [Option.map_some, Option.some.injEq, Prod.mk.injEq] at e
          obtain ⟨e1, e2⟩ := e
          subst e1 e2
          obtain ⟨x, fa, f0, ex, ra, pw, rs, cn⟩ := hs.out ha
          have exw : x = w := by rw [hw] at ex; cases ex; rfl
          subst exw
          obtain ⟨f1, fs, r1, r2, c1, p1, p2⟩ := gath_rep rs hp h q
          refine ⟨f1, fa :: fs, r1, .cons ra r2, fun y => by have := c1 y; have := cn y; rw [List.flatten_cons, List.count_append]; omega, fun k j f' ek ef => ?_, fun k c f' ek ef => ?_⟩
          · cases k with
            | zero =>
              simp at ek ef
              subst ek ef
              intro y hy
              have := pw y hy
              rwa [Nat.zero_add] at this
            | succ k => exact p1 k j f' (by simpa using ek) (by simpa using ef)
          · cases k with
            | zero => simp at ek
            | succ k => exact p2 k c f' (by simpa using ek) (by simpa using ef)
      · cases e
theorem back_rep {P : Nat → Addr → Prop} {σ : St} : ∀ {ws ys : List V} {l : List AV} {pv : List V} {pa : List A} {ρ : DEnv} {f : List Addr} {as1 : List A} {fs : List (List Addr)}, SRep K mg P Z H 0 σ ρ f → RepL K mg Z H (ws ++ ys) as1 fs → ArgR σ ws l pv pa →
    (∀ (k i : Nat) (f' : List Addr), l[k]? = some (.ref i) → fs[k]? = some f' → ∀ a ∈ f', P i a) → ∃ f2, SRep K mg P Z H 0 σ (back l as1 ρ) f2 ∧ ∀ y, f2.count y ≤ f.count y + fs.flatten.count y
  | [], ys, _, _, _, ρ, f, as1, fs, hs, hp, h, p => by
    cases h
    exact ⟨f, by unfold back; exact hs, fun y => Nat.le_add_right _ _⟩
  | w :: ws, ys, _, _, _, ρ, f, as1, fs, hs, hp, h, p => by
    cases hp with
    | @cons _ _ a as1 fa fs h1 h2 =>
      cases h with
      | @val _ _ c l pv pa h =>
        obtain ⟨f2, r, c2⟩ := back_rep hs h2 h fun k i f' ek ef => p (k + 1) i f' (by simpa using ek) (by simpa using ef)
        exact ⟨f2, by unfold back; exact r, fun y => by have := c2 y; rw [List.flatten_cons, List.count_append]; omega⟩
      | @ref _ _ i l pv pa hw h =>
        obtain ⟨f1, r1, c1⟩ := hs.into (i := i) (List.getElem?_eq_some_iff.mp hw).1 h1 (fun y hy => by rw [Nat.zero_add]; exact p 0 i fa rfl rfl y hy)
        rw [set_same hw] at r1
        obtain ⟨f2, r, c2⟩ := back_rep r1 h2 h fun k j f' ek ef => p (k + 1) j f' (by simpa using ek) (by simpa using ef)
        exact ⟨f2, by unfold back; exact r, fun y => by have := c2 y; have := c1 y; rw [List.flatten_cons, List.count_append]; omega⟩
theorem RepL.append : ∀ {xs ys : List V} {as bs : List A} {fs gs : List (List Addr)}, RepL K mg Z H xs as fs → RepL K mg Z H ys bs gs → RepL K mg Z H (xs ++ ys) (as ++ bs) (fs ++ gs)
  | [], _, _, _, _, _, h, g => by cases h; exact g
  | _ :: _, _, _, _, _, _, h, g => by
    cases h with
    | cons h1 h2 => exact .cons h1 (RepL.append h2 g)
theorem RepDs.toL : ∀ {xs : List V} {ds : List D}, RepDs K mg Z xs ds → RepL K mg Z H xs (ds.map .v) (ds.map fun _ => [])
  | [], _, h => by cases h; exact .nil
  | x :: xs, _, h => by
    cases h with
    | cons h1 h2 => exact .cons (.v h1) (RepDs.toL h2)
theorem flatten_nils {α β : Type} : ∀ l : List α, (l.map fun _ => ([] : List β)).flatten = []
  | [] => rfl
  | _ :: l => by rw [List.map_cons, List.flatten_cons, flatten_nils l]; rfl
end
section
variable {X : Cx} {C : SC} {e : Expr} {es : List Expr} {f : M A} {fs : M (List AV)} {pos p : Pos} {i : Nat} {x : Str}
theorem dv_nil : PA X [] (tV C vNil) := PA.w pa_nil fun σ H Q ⟨b, Z, ρ, vs, as, hb, hl, S, k⟩ => k _ _ [] [] [] .nil S
theorem Go.bindV {α : Type} {fin : Fin α} {ps : List V} {pa : List A} {σ : St} {H : Hp} {f : M (List AV)} {g : List AV → M α} (h : Go C fin ps pa (f.bind g) σ H) : tV C f σ H (fun ws H1 => ∃ l pv qa, ArgR σ ws l pv qa ∧ Go C fin (pv ++ ps) (qa ++ pa) (g l) σ H1) := by
  obtain ⟨b, Z, ρ, vs, as, hb, hl, S, h⟩ := h
  refine ⟨b, Z, ρ, ps ++ vs, pa ++ as, hb, rfl, S, R.sat_mono (R.sat_bind h) (fun l ρ' q Z' H' ws pv qa r S' => ?_) fun e ρ' q => q.pops hl⟩
  exact ⟨l, pv, qa, r, b, Z', ρ', vs, as, hb, by simp [hl, r.length.2], by rw [List.append_assoc, List.append_assoc]; exact S', q⟩
theorem tV.mono {f : M (List AV)} {Q Q' : List V → Hp → Prop} {σ : St} {H : Hp} (h : tV C f σ H Q) (k : ∀ v H', Q v H' → Q' v H') : tV C f σ H Q' := by
  obtain ⟨b, Z, ρ, vs, as, hb, hl, S, h⟩ := h
  exact ⟨b, Z, ρ, vs, as, hb, hl, S, R.sat_mono h (fun a ρ' q Z' H' ws pv pa r S' => k _ _ (q Z' H' ws pv pa r S')) fun _ _ q => q⟩
theorem dv_val (own : Bool) (ha : PE X e (tE C f)) (hr : PA X es (tV C fs)) (hs : starEach (e :: es) X.env = (false, eval e X.env) :: starEach es X.env := by rfl) : PA X (e :: es) (tV C (vVal own f fs)) := by
  refine PA.w (pa_cons ha hr hs) fun σ H Q k => ?_
  refine (Go.bindE k).mono fun y H1 ⟨u, k1⟩ => (Go.bindV k1).mono fun ws H2 ⟨l, pv, qa, r, b, Z, ρ, vs, as, hb, _, S, k2⟩ => ?_
  have S' : Sta C.K C.mg b Z H2 σ ρ (pv ++ y :: vs) (qa ++ u :: as) := by simpa using S
  have S2 := S'.rot r.length.2
  cases own with
  | true => exact k2 _ _ (y :: ws) (y :: pv) (u :: qa) (.val r) S2
  | false =>
    obtain ⟨Z', _, S3⟩ := S2.freeze
    exact k2 _ _ (y :: ws) (y :: pv) (.v u.frz :: qa) (.val r) S3
theorem dv_ref (hN : X.N[i]? = some x) (hv : Vis X.env.scope x) (hr : PA X es (tV C fs)) (hd : (x == ("__debug__" : Str)) = false := by decide) (hcd : (x == ("__classdict__" : Str)) = false := by decide)
    (hs : starEach (.Name x p :: es) X.env = (false, eval (.Name x p) X.env) :: starEach es X.env := by rfl) : PA X (.Name x p :: es) (tV C (vRef i fs)) := by
  refine PA.w (pa_cons (pe_var hN hv hd hcd) hr hs) fun σ H Q ⟨b, Z, ρ, vs, as, hb, hl, S, k⟩ => ?_
  unfold vRef at k
  split at k
  · rename_i a ha
    obtain ⟨ff, g, h1, _⟩ := S.rep
    obtain ⟨y, fa, f0, ey, _⟩ := h1.out ha
    refine ⟨y, ey, ?_⟩
    have k' : Go C (finV C σ Q) [] [] (fs.bind fun l => M.pure (.ref i :: l)) σ H := ⟨b, Z, ρ, vs, as, hb, hl, S, k⟩
    exact (Go.bindV k').mono fun ws H2 ⟨l, pv, qa, r, b, Z, ρ, vs, as, hb, _, S, k2⟩ => k2 _ _ (y :: ws) pv qa (.ref ey r) (by simpa using S)
  · exact k.elim
/-- behind a call, in the caller's state -/
theorem Sta.called {K : PySem.W.Frag} {mg : Str → Option Value} {b : Base} {Z H Z2 H2 : Hp} {σ : St} {ρ ρ1 : DEnv} {vs pv ws ys : List V} {as pa as1 l' : List A} {l : List AV} {ds : List D} (S : Sta K mg b Z H σ ρ (pv ++ vs) (pa ++ as)) (r : ArgR σ ws l pv pa) (hg : gath l ρ = some (as1, ρ1)) (hy : RepDs K mg Z ys ds) :
    ∃ fs, RepL K mg Z H (ws ++ ys) (as1 ++ ds.map .v) fs ∧ (∀ y, fs.flatten.count y ≤ 1) ∧ (∀ a ∈ fs.flatten, Z a = none) ∧
      ∀ {Z2 H2 : Hp} {l' : List A} {fs' : List (List Addr)} {ps : List V} {qa : List A} {fr : List Addr}, After K Z H fs Z2 H2 → RepL K mg Z2 H2 (ws ++ ys) l' fs' → (∀ (i : Nat) (f f' : List Addr), fs[i]? = some f → fs'[i]? = some f' → ∀ a ∈ f', a ∈ f ∨ Fre H a) →
        RepAs K mg Z2 H2 ps qa fr → (∀ y, fr.count y + fs'.flatten.count y ≤ 1) → (∀ a, a ∈ fr ∨ a ∈ fs'.flatten → Z2 a = none) → (∀ a ∈ fr, Fre H a) → Sta K mg b Z2 H2 σ (back l l' ρ1) (ps ++ vs) (qa ++ as) := by
  obtain ⟨f, g, h1, h2, h3, h4, h5⟩ := S.rep
  obtain ⟨g1, g2, eg, r1, r2⟩ := h2.split r.length.2
  obtain ⟨f1, fs, s1, l1, c1, p1, p2⟩ := gath_rep h1 r1 r hg
  have cf : ∀ y, f1.count y + fs.flatten.count y + g2.count y ≤ 1 := fun y => by
    have := h3 y; have := c1 y
    rw [eg, List.count_append] at *; omega
  have fe : (fs ++ ds.map fun _ => ([] : List Addr)).flatten = fs.flatten := by rw [List.flatten_append, flatten_nils, List.append_nil]
  have inF : ∀ a, (0 < f1.count a ∨ 0 < fs.flatten.count a ∨ 0 < g2.count a) → a ∈ f ∨ a ∈ g := fun a ha => by
    have := c1 a
    rw [eg]
    by_cases q : 0 < f.count a
    · exact .inl (count_mem q)
    · right
      refine List.mem_append.mpr ?_
      by_cases q2 : 0 < g1.count a
      · exact .inl (count_mem q2)
      · exact .inr (count_mem (by omega))
  refine ⟨fs ++ ds.map fun _ => [], l1.append (RepDs.toL hy), fun y => by rw [fe]; have := cf y; omega, fun a ha => ?_, fun {Z2 H2 l' fs' ps qa fr} af rl own rr cr zr hr => ?_⟩
  · rw [fe] at ha
    exact h4 a (inF a (.inr (.inl (mem_count ha))))
  · have nin : ∀ a, (0 < f1.count a ∨ 0 < g2.count a) → a ∉ (fs ++ ds.map fun _ => ([] : List Addr)).flatten := fun a ha hm => by
      rw [fe] at hm
      have := cf a; have := mem_count hm; omega
    have k1 : ∀ y ∈ f1, H2 y = H y := fun y hy => by
      obtain ⟨o, e, m⟩ := s1.thereM y hy
      rw [e, af.kh _ _ e (nin y (.inl (mem_count hy))) m.nt]
    have k2 : ∀ y ∈ g2, H2 y = H y := fun y hy => by
      obtain ⟨o, e, m⟩ := RepAs.thereM _ _ _ r2 y hy
      rw [e, af.kh _ _ e (nin y (.inr (mem_count hy))) m.nt]
    have pin : ∀ (k i : Nat) (f' : List Addr), l[k]? = some (.ref i) → fs'[k]? = some f' → ∀ a ∈ f', b.Own i a := fun k i f' ek ef a ha => by
      have hk : k < fs.length := by
        have : k < l.length := (List.getElem?_eq_some_iff.mp ek).1
        rw [← l1.lengthf, r.length.1]; exact this
      rcases own k fs[k] f' (by rw [List.getElem?_append_left hk]; exact List.getElem?_eq_getElem hk) ef a ha with z | z
      · exact p1 k i fs[k] ek (List.getElem?_eq_getElem hk) a z
      · exact .inr (S.kd a z)
    obtain ⟨f2, s2, c2⟩ := back_rep (s1.mono af.zz k1 fun _ _ _ z => z) rl r pin
    refine ⟨S.zz.trans af.zz, af.zh, fun a ha => (af.kz a fun q => ha (S.kd a q)).trans (S.kz a ha), fun a o e ha hn => af.kh a o (S.kh a o e ha hn) ?_ hn, fun a ha => S.kd a (af.kd a ha), ⟨af.tb, af.nt, S.sd.kn⟩, S.pin, S.lw, f2, fr ++ g2, s2, rr.append (RepAs.mono af.zz _ _ _ k2 r2), fun y => ?_, fun a ha => ?_, fun a ha => ?_⟩
    · intro hm
      rw [fe] at hm
      obtain ⟨f', hf', haf⟩ := List.mem_flatten.mp hm
      obtain ⟨k, ek⟩ := List.getElem?_of_mem hf'
      have hk : k < l.length := by
        have := (List.getElem?_eq_some_iff.mp ek).1
        rw [← l1.lengthf, r.length.1] at this; exact this
      cases el : l[k] with
      | val c =>
        have := h5 a (by rw [eg]; exact List.mem_append_left _ (p2 k c f' (by rw [List.getElem?_eq_getElem hk, el]) ek a haf))
        exact Fre.no e hn this
      | ref i =>
        rcases p1 k i f' (by rw [List.getElem?_eq_getElem hk, el]) ek a haf with z | z
        · exact ha i z
        · exact Fre.no e hn z
    · have e1 := cf y; have e2 := c2 y; have e3 := cr y
      rw [List.count_append]
      -- a new address of the result is in nothing that stood
      by_cases q : 0 < f1.count y ∨ 0 < g2.count y
      · have : ¬ Fre H y := by
          rcases q with q | q
          · obtain ⟨o, e, m⟩ := s1.thereM y (count_mem q); exact Fre.no e m.nt
          · obtain ⟨o, e, m⟩ := RepAs.thereM _ _ _ r2 y (count_mem q); exact Fre.no e m.nt
        have nfr : fr.count y = 0 := List.count_eq_zero.mpr fun z => this (hr y z)
        have nfs : fs'.flatten.count y = 0 := List.count_eq_zero.mpr fun z => by
          obtain ⟨f', hf', haf⟩ := List.mem_flatten.mp z
          obtain ⟨k, ek⟩ := List.getElem?_of_mem hf'
          have hk : k < (fs ++ ds.map fun _ => ([] : List Addr)).length := by
            have := (List.getElem?_eq_some_iff.mp ek).1
            rw [← rl.lengthf, (l1.append (RepDs.toL (H := H) hy)).lengthf] at this
            exact this
          rcases own k _ f' (List.getElem?_eq_getElem hk) ek y haf with z | z
          · exact nin y q (List.mem_flatten.mpr ⟨_, List.getElem_mem hk, z⟩)
          · exact this z
        omega
      · omega
    · have : 0 < f1.count a ∨ 0 < g2.count a ∨ (a ∈ fr ∨ a ∈ fs'.flatten) := by
        have e2 := c2 a
        rcases ha with ha | ha
        · have := mem_count ha
          by_cases q : 0 < f1.count a
          · exact .inl q
          · exact .inr (.inr (.inr (count_mem (by omega))))
        · rcases List.mem_append.mp ha with ha | ha
          · exact .inr (.inr (.inl ha))
          · exact .inr (.inl (mem_count ha))
      rcases this with q | q | q
      · obtain ⟨o, e, m⟩ := s1.thereM a (count_mem q)
        rw [af.kz a (Fre.no e m.nt)]
        exact h4 a (inF a (.inl q))
      · obtain ⟨o, e, m⟩ := RepAs.thereM _ _ _ r2 a (count_mem q)
        rw [af.kz a (Fre.no e m.nt)]
        exact h4 a (inF a (.inr (.inr q)))
      · exact zr a q
    · rcases List.mem_append.mp ha with ha | ha
      · exact S.kd a (hr a ha)
      · exact h5 a (by rw [eg]; exact List.mem_append_right _ ha)

/-- a def that may be called by its name -/
structure CalD (P : Program) (w : World) (K : PySem.W.Frag) (mg : Str → Option Value) (base : Heap) (k : Nat) (x : Str) (F : Fn) (ds : List D) : Prop where
  ex : ∃ (f : Addr) (fd : FuncData) (ps : List Str) (us : List Value) (ys : List V), FnOk P w K mg base CX0 k f fd ps (fun vs H Q _ => spD K mg F vs H Q fun _ _ _ => False) ∧ mg x = some (.ref f) ∧ PySem.W.keepIn K (.ref f) = true ∧ Binds K fd ps us ∧ Vals ys us ∧
    ∀ Z, RepDs K mg Z ys ds
/-- a call's reading from the state with its arguments -/
theorem go_call {F : Fn} {ds : List D} {ys : List V} (hy : ∀ Z, RepDs C.K C.mg Z ys ds) {σ : St} {H : Hp} {Q : VK} {ws pv : List V} {l : List AV} {pa : List A} {E : XK} (r : ArgR σ ws l pv pa) (hE : ∀ cls d H', E cls d H' → C.W cls d σ H')
    (hE' : ∀ cls d H', C.W cls d σ H' → E cls d H')
    (k : Go C (finE C σ Q) pv pa (fun ρ => match gath l ρ with
      | none => .bad
      | some q => match F (q.1 ++ ds.map .v) with
        | .ok r l' => .ok r (back l l' q.2)
        | .exc e l' => .exc e (back l l' q.2)
        | .bad => .bad) σ H) : spD C.K C.mg F (ws ++ ys) H Q E := by
  obtain ⟨b, Z, ρ, vs, as, hb, hl, S, k⟩ := k
  dsimp only at k
  cases eg : gath l ρ with
  | none => rw [eg] at k; exact k.elim
  | some q =>
    obtain ⟨as1, ρ1⟩ := q
    rw [eg] at k
    dsimp only at k
    obtain ⟨fs, r1, c1, z1, fin⟩ := Sta.called (Z2 := Z) (H2 := H) (l' := []) S r eg (hy Z)
    refine ⟨Z, _, fs, ⟨S.zh, S.sd.tabs, S.sd.nt⟩, r1, c1, z1, ?_⟩
    cases eF : F (as1 ++ ds.map .v) with
    | bad => rw [eF] at k; exact k.elim
    | ok u l' =>
      rw [eF] at k
      intro Z' H' v fr fs' af hr rl cr zr nr own
      exact k Z' H' v (fin (ps := [v]) (qa := [u]) (fr := fr ++ []) af rl own (.cons hr .nil) (by simpa using cr) (by simpa using zr) (by simpa using nr))
    | exc e l' =>
      rw [eF] at k
      intro Z' H' cls d fs' af hx rl cr zr own
      exact hE' _ _ _ (k Z' H' σ cls d (fin (ps := []) (qa := []) (fr := []) af rl own .nil (by simpa using cr) (by simpa using zr) (by simp)) hx)
theorem de_call {F : Fn} {ds : List D} {k : Nat} (c : CalD X.prog X.w X.K X.mg X.base k x F ds) (hr : Room k X.A) (hg : Gl X x) (hK : X.K = C.K) (hM : X.mg = C.mg) (hW : C.W = fun _ _ _ _ => False) (ha : PA X (e :: es) (tV C fs)) (hdb : (x == ("__debug__" : Str)) = false := by decide)
    (he : starEach (e :: es) X.env = (false, eval e X.env) :: starEach es X.env := by rfl) (hpl : (backTo pos (starEach es X.env)).any (·.1) = false := by rfl) : PE X (.Call (.Name x p) (e :: es) [] pos) (tE C (dCall F fs ds)) := by
  obtain ⟨f, fd, ps, us, ys, F', h1, h2, h3, h4, h5⟩ := c.ex
  refine PE.w (pe_call (E := fun _ _ _ => False) F' hr hg h1 h2 h3 h4 pass0 ha hdb he hpl) fun σ H Q q => ?_
  refine (Go.bindV q).mono fun ws H1 ⟨l, pv, qa, r, q1⟩ => ?_
  rw [hK, hM] at h5
  show spD X.K X.mg F (ws ++ ys) H1 Q fun _ _ _ => False
  rw [hK, hM]
  exact go_call h5 r (fun _ _ _ z => z.elim) (fun _ _ _ z => by rw [hW] at z; exact z) (by simpa using q1)
end
end DD

namespace DD
open PySem PySem.Spec L2
open PyProof.Rows hiding St
variable [LamN]

def dBlt (op : List A → Option A) (fs : M (List A)) : M A := fs.bind fun l => ofO (op l)
section
variable {C : SC} {X : Cx} {x : Str} {p pos : Pos} {e : Expr} {es : List Expr} {fs : M (List A)} {bid T : String} {r : List V → Hp → VK → Prop} {op : List A → Option A}
theorem go_blt (ho : OpN C r op) {σ : St} {H : Hp} {Q : VK} (k : tE C (dBlt op fs) σ H Q) : tA C fs σ H fun vs H1 => r vs H1 Q := by
  refine (Go.bindA k).mono fun ws H1 ⟨l, hl, k1⟩ => ?_
  obtain ⟨res, e, b, Z, ρ, vs, as, hb, _, S, k2⟩ := go_ofO k1
  rw [List.append_nil, List.append_nil] at S
  exact ho b Z H1 σ ρ vs as ws l res Q hl S e k2
theorem de_callB (hc : CallR X (.builtin bid) r) (ho : OpN C r op) (hg : Gl X x) (hm : X.mg x = none) (hv : bootBuiltins x = some (.builtin bid)) (ha : PA X (e :: es) (tA C fs)) (hn : x ≠ "__name__" := by decide) (hdb : (x == ("__debug__" : Str)) = false := by decide)
    (he : starEach (e :: es) X.env = (false, eval e X.env) :: starEach es X.env := by rfl) (hpl : (backTo pos (starEach es X.env)).any (·.1) = false := by rfl) : PE X (.Call (.Name x p) (e :: es) [] pos) (tE C (dBlt op fs)) :=
  PE.w (pe_callB hc hg hm hv ha hn hdb he hpl) fun σ H Q k => go_blt ho k
theorem de_callTy (hc : CallR X (.type T) r) (ho : OpN C r op) (hg : Gl X x) (hm : X.mg x = none) (hv : bootBuiltins x = some (.type T)) (ha : PA X (e :: es) (tA C fs)) (hn : x ≠ "__name__" := by decide) (hdb : (x == ("__debug__" : Str)) = false := by decide)
    (he : starEach (e :: es) X.env = (false, eval e X.env) :: starEach es X.env := by rfl) (hpl : (backTo pos (starEach es X.env)).any (·.1) = false := by rfl) : PE X (.Call (.Name x p) (e :: es) [] pos) (tE C (dBlt op fs)) :=
  PE.w (pe_callTy hc hg hm hv ha hn hdb he hpl) fun σ H Q k => go_blt ho k
theorem one {ws : List V} {a : A} (h : ws.length = [a].length) : ∃ w, ws = [w] := by
  match ws, h with
  | [w], _ => exact ⟨w, rfl⟩
theorem two {ws : List V} {a c : A} (h : ws.length = [a, c].length) : ∃ w y, ws = [w, y] := by
  match ws, h with
  | [w, y], _ => exact ⟨w, y, rfl⟩
def opLen (l : List A) : Option A := match l with
  | [.m l] => some (.v (.int l.length))
  | [.v (.str z)] => if z.length ≤ sizeLine then some (.v (.int z.length)) else none
  | [.v d] => (seqD d).map fun ds => .v (.int ds.length)
  | _ => none
def rLen (K : PySem.W.Frag) : List V → Hp → VK → Prop := fun xs H Q => (∃ p ys, xs = [.ref p] ∧ (SqL K H p ys ∨ SqT K H p ys) ∧ Q (.int ys.length) H) ∨ ∃ z, xs = [.str z] ∧ z.length ≤ sizeLine ∧ Q (.int z.length) H
theorem cl_len : CallR X (.builtin "len") (rLen X.K) := call_len_seq.or call_len_str
theorem on_len : OpN C (rLen C.K) opLen := by
  intro b Z H σ ρ vs as ws l res Q hl S e k
  unfold opLen at e
  split at e
  · cases e
    obtain ⟨w, rfl⟩ := one hl
    obtain ⟨f, g, h1, h2, h3, h4, h5⟩ := Sta.rep S
    cases h2 with
    | cons r1 r2 => cases r1 with
      | m hp hr =>
        exact .inl ⟨_, _, rfl, .inl (SqL.of hp), by rw [hr.length]; exact k _ _ _ ((Sta.pop S).push (.int _))⟩
  · split at e
    · rename_i hz
      cases e
      obtain ⟨w, rfl⟩ := one hl
      have t := Sta.top S
      cases t
      exact .inr ⟨_, rfl, hz, k _ _ _ ((Sta.pop S).push (.int _))⟩
    · cases e
  · rename_i d _
    obtain ⟨w, rfl⟩ := one hl
    cases hd : seqD d with
    | none => rw [hd] at e; cases e
    | some ds =>
      rw [hd] at e
      cases e
      obtain ⟨p, xs, rfl, hs, r⟩ := (Sta.top S).seq S.zh hd
      exact .inl ⟨p, xs, rfl, hs, by rw [r.length]; exact k _ _ _ ((Sta.pop S).push (.int _))⟩
  · cases e
def opAbs (l : List A) : Option A := match l with
  | [.v (.int i)] => some (.v (.int (if i < 0 then -i else i)))
  | _ => none
theorem on_abs : OpN C (fun xs H Q => ∃ i, xs = [.int i] ∧ Q (.int (if i < 0 then -i else i)) H) opAbs := by
  intro b Z H σ ρ vs as ws l res Q hl S e k
  unfold opAbs at e
  split at e
  · cases e
    obtain ⟨w, rfl⟩ := one hl
    have t := Sta.top S
    cases t
    exact ⟨_, rfl, k _ _ _ ((Sta.pop S).push (.int _))⟩
  · cases e
def opI2 (g : Int → Int → Int) (l : List A) : Option A := match l with
  | [.v (.int i), .v (.int j)] => some (.v (.int (g i j)))
  | _ => none
theorem on_i2 {g : Int → Int → Int} : OpN C (fun xs H Q => ∃ i j, xs = [.int i, .int j] ∧ Q (.int (g i j)) H) (opI2 g) := by
  intro b Z H σ ρ vs as ws l res Q hl S e k
  unfold opI2 at e
  split at e
  · cases e
    obtain ⟨w, y, rfl⟩ := two hl
    have t := Sta.top S
    have t2 := Sta.top (Sta.pop S)
    cases t
    cases t2
    exact ⟨_, _, rfl, k _ _ _ ((Sta.pop (Sta.pop S)).push (.int _))⟩
  · cases e
def opMax : List A → Option A := opI2 fun i j => if j > i then j else i
def opMin : List A → Option A := opI2 fun i j => if j < i then j else i
def bls : List D → Option (List Bool)
  | [] => some []
  | .bl b :: l => (bls l).map (b :: ·)
  | _ => none
theorem bls_rep {K : PySem.W.Frag} {mg : Str → Option Value} {Z : Hp} : ∀ {xs : List V} {ds : List D} {bs : List Bool}, RepDs K mg Z xs ds → bls ds = some bs → xs = bs.map V.bl
  | [], _, _, h, e => by cases h; simp [bls] at e; subst e; rfl
  | x :: xs, _, bs, h, e => by
    cases h with
    | @cons _ _ d ds h1 h2 =>
      cases h1 with
      | bl b =>
        unfold bls at e
        cases q : bls ds with
        | none => rw [q] at e; cases e
        | some cs =>
          rw [q] at e
          cases e
          rw [bls_rep h2 q]
          rfl
      | _ => simp [bls] at e
def lstD : D → Option (List D)
  | .lst l => some l
  | .fz l => some l
  | _ => none
theorem RepD.lsq {K : PySem.W.Frag} {mg : Str → Option Value} {Z H : Hp} {x : V} {d : D} {ds : List D} (h : RepD K mg Z x d) (z : Same Z H) (e : lstD d = some ds) : ∃ p xs, x = .ref p ∧ SqL K H p xs ∧ RepDs K mg Z xs ds := by
  cases h with
  | lst h1 h2 => cases e; exact ⟨_, _, rfl, SqL.of (z _ _ h1), h2⟩
  | fz h1 h2 => cases e; exact ⟨_, _, rfl, z.seq h1, h2⟩
  | _ => cases e
def opBs (g : List Bool → Bool) (l : List A) : Option A := match l with
  | [a] => (lstD a.frz).bind fun ds => (bls ds).map fun bs => .v (.bl (g bs))
  | _ => none
theorem on_bs {g : List Bool → Bool} : OpN C (fun vs H Q => ∃ (a : Addr) (bs : List Bool), vs = [V.ref a] ∧ SqL C.K H a (bs.map V.bl) ∧ Q (.bl (g bs)) H) (opBs g) := by
  intro b Z H σ ρ vs as ws l res Q hl S e k
  unfold opBs at e
  split at e
  · rename_i a
    obtain ⟨w, rfl⟩ := one hl
    obtain ⟨Z', _, S'⟩ := Sta.freeze S
    cases hd : lstD a.frz with
    | none => rw [hd] at e; cases e
    | some ds =>
      rw [hd] at e
      cases hb : bls ds with
      | none => simp [hb] at e
      | some bs =>
        simp only [Option.bind_some, hb, Option.map_some, Option.some.injEq] at e
        subst e
        obtain ⟨q, xs, rfl, hs, r⟩ := (Sta.top S').lsq S'.zh hd
        have ex := bls_rep r hb
        subst ex
        exact ⟨q, bs, rfl, hs, k _ _ _ ((Sta.pop S').push (.bl _))⟩
  · cases e
def opAll : List A → Option A := opBs fun bs => bs.all id
def opAny : List A → Option A := opBs fun bs => bs.any id
def opTuple (l : List A) : Option A := match l with
  | [a] => (seqD a.frz).map fun ds => .v (.tup ds)
  | _ => none
theorem on_tuple : OpN C (fun xs H Q => ∃ p ys, xs = [.ref p] ∧ ((SqL C.K H p ys ∧ ∀ l, H l = none → Q (.ref l) (upd H l (.tup ys))) ∨ (SqT C.K H p ys ∧ Q (.ref p) H))) opTuple := by
  intro b Z H σ ρ vs as ws l res Q hl S e k
  unfold opTuple at e
  split at e
  · rename_i a
    obtain ⟨w, rfl⟩ := one hl
    obtain ⟨Z', _, S'⟩ := Sta.freeze S
    have t := Sta.top S'
    have S2 := Sta.pop S'
    generalize a.frz = d at e t
    cases t with
    | @tup q xs ds h1 h2 =>
      cases e
      exact ⟨q, xs, rfl, .inr ⟨sameT S'.zh h1, k _ _ _ (S2.push (.tup h1 h2))⟩⟩
    | @lst q xs ds h1 h2 =>
      cases e
      refine ⟨q, xs, rfl, .inl ⟨SqL.of (S'.zh _ _ h1), fun p hp => ?_⟩⟩
      exact k _ _ _ (S2.newF (o := .tup xs) hp (.tup (SqT.of upd_same) (RepDs.mono (same_upd (S'.zh.free hp)) _ _ h2)))
    | @fz q xs ds h1 h2 =>
      cases e
      refine ⟨q, xs, rfl, .inl ⟨S'.zh.seq h1, fun p hp => ?_⟩⟩
      exact k _ _ _ (S2.newF (o := .tup xs) hp (.tup (SqT.of upd_same) (RepDs.mono (same_upd (S'.zh.free hp)) _ _ h2)))
    | _ => cases e
  · cases e
def opList (l : List A) : Option A := match l with
  | [a] => (seqD a.frz).map fun ds => .m (ds.map .v)
  | _ => none
theorem on_list : OpN C (fun xs H Q => ∃ p ys, xs = [.ref p] ∧ (SqL C.K H p ys ∨ SqT C.K H p ys) ∧ ∀ l, H l = none → Q (.ref l) (upd H l (.lst ys))) opList := by
  intro b Z H σ ρ vs as ws l res Q hl S e k
  unfold opList at e
  split at e
  · rename_i a
    obtain ⟨w, rfl⟩ := one hl
    obtain ⟨Z', _, S'⟩ := Sta.freeze S
    cases hd : seqD a.frz with
    | none => rw [hd] at e; cases e
    | some ds =>
      rw [hd] at e
      cases e
      obtain ⟨q, xs, rfl, hs, r⟩ := (Sta.top S').seq S'.zh hd
      refine ⟨q, xs, rfl, hs, fun p hp => ?_⟩
      exact k _ _ _ (((Sta.pop S').pushes r).newM (by rw [List.length_map]; exact r.length) hp)
  · cases e
def opInt (l : List A) : Option A := match l with
  | [.v (.int i)] => some (.v (.int i))
  | [.v (.bl k)] => some (.v (.int (if k then 1 else 0)))
  | _ => none
theorem on_int : OpN C (fun xs H Q => (∃ i, xs = [.int i] ∧ Q (.int i) H) ∨ ∃ k, xs = [.bl k] ∧ Q (.int (if k then 1 else 0)) H) opInt := by
  intro b Z H σ ρ vs as ws l res Q hl S e k
  unfold opInt at e
  split at e
  · cases e
    obtain ⟨w, rfl⟩ := one hl
    have t := Sta.top S
    cases t
    exact .inl ⟨_, rfl, k _ _ _ ((Sta.pop S).push (.int _))⟩
  · cases e
    obtain ⟨w, rfl⟩ := one hl
    have t := Sta.top S
    cases t
    exact .inr ⟨_, rfl, k _ _ _ ((Sta.pop S).push (.int _))⟩
  · cases e
def opStr (l : List A) : Option A := match l with
  | [.v (.int i)] => if i.natAbs.log2 < 1920 then some (.v (.str (toString i))) else none
  | _ => none
theorem on_str : OpN C (fun xs H Q => ∃ i : Int, xs = [.int i] ∧ i.natAbs.log2 < 1920 ∧ Q (.str (toString i)) H) opStr := by
  intro b Z H σ ρ vs as ws l res Q hl S e k
  unfold opStr at e
  split at e
  · split at e
    · rename_i hz
      cases e
      obtain ⟨w, rfl⟩ := one hl
      have t := Sta.top S
      cases t
      exact ⟨_, rfl, hz, k _ _ _ ((Sta.pop S).push (.str _))⟩
    · cases e
  · cases e
end

def kindD : D → String
  | .non => "NoneType"
  | .bl _ => "bool"
  | .int _ => "int"
  | .str _ => "str"
  | .tup _ => "tuple"
  | .lst _ => "list"
  | .fz _ => "list"
  | .ins _ _ _ => ""
def opIs (T : String) (l : List A) : Option A := match l with
  | [.v d] => if kindD d = "" then none else (kitB (kindD d) T).map fun b => .v (.bl b)
  | [.m _] => (kitB "list" T).map fun b => .v (.bl b)
  | _ => none
def dIsi (T : String) (f : M A) : M A := f.bind fun a => ofO (opIs T [a])
theorem RepD.ty {K : PySem.W.Frag} {mg : Str → Option Value} {Z H : Hp} {x : V} {d : D} (h : RepD K mg Z x d) (z : Same Z H) (n : kindD d ≠ "") : TyX K H x (.type (kindD d)) := by
  cases h with
  | non => exact .base .non
  | bl b => exact .base (.bl b)
  | int i => exact .base (.int i)
  | str x => exact .base (.str x)
  | tup h1 h2 =>
    rcases sameT z h1 with (h | ⟨o, h⟩) | ⟨o, _, _, h, c, _⟩
    · exact .base (.tup h)
    · exact .fTuple h
    · exact .kTuple h c
  | lst h1 h2 => exact .base (.lst (z _ _ h1))
  | fz h1 h2 =>
    rcases z.seq h1 with (h | ⟨o, h⟩) | ⟨o, _, _, h, c, _⟩
    · exact .base (.lst h)
    · exact .base (.frz h)
    · exact .kList h c
  | ins _ _ _ => exact absurd rfl n
section
variable {C : SC} {X : Cx} {e : Expr} {f : M A} {p p2 pos : Pos} {T : String} {y : Str}
theorem de_isi (hK : X.K = C.K) (hg : Gl X "isinstance") (hm : X.mg "isinstance" = none) (ha : PE X e (tE C f)) (hg2 : Gl X y) (hm2 : X.mg y = none) (hv2 : bootBuiltins y = some (.type T)) (hv : bootBuiltins "isinstance" = some (.builtin "isinstance"))
    (hn2 : y ≠ "__name__" := by decide) (hdb2 : (y == ("__debug__" : Str)) = false := by decide)
    (he : starEach (e :: [.Name y p2]) X.env = (false, eval e X.env) :: starEach [.Name y p2] X.env := by rfl) (he2 : starEach (.Name y p2 :: []) X.env = (false, eval (.Name y p2) X.env) :: starEach [] X.env := by rfl)
    (hpl : (backTo pos (starEach [.Name y p2] X.env)).any (·.1) = false := by rfl) : PE X (.Call (.Name "isinstance" p) [e, .Name y p2] [] pos) (tE C (dIsi T f)) := by
  refine PE.w (pe_callB call_isi hg hm hv (pa_cons ha (pa_cons (pe_bltn (v := .ty T) hg2 hm2 hv2 rfl hn2 hdb2) pa_nil he2) he) (by decide) (by decide) he hpl) fun σ H Q k => ?_
  refine (Go.bindE k).mono fun x H1 ⟨a, k1⟩ => ?_
  obtain ⟨res, e1, b, Z, ρ, vs, as, hb, _, S, k2⟩ := go_ofO k1
  show rIsi X.K [x, .ty T] H1 Q
  rw [hK]
  unfold opIs at e1
  split at e1
  · rename_i d heq
    cases heq
    split at e1
    · cases e1
    · rename_i hn
      cases q : kitB (kindD d) T with
      | none => rw [q] at e1; cases e1
      | some c =>
        rw [q] at e1
        cases e1
        exact ⟨x, .ty T, _, _, c, rfl, .ty T, (Sta.top (vs := vs) (as := as) S).ty S.zh hn, kit_ty q, k2 _ _ _ ((Sta.pop (vs := vs) (as := as) S).push (.bl _))⟩
  · rename_i l heq
    cases heq
    cases q : kitB "list" T with
    | none => rw [q] at e1; cases e1
    | some c =>
      rw [q] at e1
      cases e1
      obtain ⟨Z', _, S'⟩ := Sta.freeze (vs := vs) (as := as) S
      exact ⟨x, .ty T, _, _, c, rfl, .ty T, (Sta.top S').ty S'.zh (by simp [A.frz, kindD]), kit_ty q, k2 _ _ _ ((Sta.pop S').push (.bl _))⟩
  · cases e1
end

def cutL {α : Type} (xs : List α) (lo hi : Option Int) : List α := (xs.drop (HT.sIx xs.length 0 lo)).take (HT.sIx xs.length xs.length hi - HT.sIx xs.length 0 lo)
theorem cut_rep {K : PySem.W.Frag} {mg : Str → Option Value} {Z : Hp} {xs : List V} {ds : List D} (h : RepDs K mg Z xs ds) (lo hi : Option Int) : RepDs K mg Z (cutV xs lo hi) (cutL ds lo hi) := by
  unfold cutV cutL
  rw [h.length]
  exact RepDs.take _ (RepDs.drop _ h)
def opSl (a : A) (lo hi : Option Int) : Option A := match a.frz with
  | .tup l => some (.v (.tup (cutL l lo hi)))
  | .lst l => some (.m ((cutL l lo hi).map .v))
  | .fz l => some (.m ((cutL l lo hi).map .v))
  | .str z => if z.length ≤ sizeLine then some (.v (.str (cutS z lo hi))) else none
  | _ => none
def pNo : M (Option Int) := M.pure none
def pSo (f : M A) : M (Option Int) := f.bind fun a ρ => match a with
  | .v (.int i) => .ok (some i) ρ
  | _ => .bad
def dSl (f : M A) (lo hi : M (Option Int)) : M A := f.bind fun a => lo.bind fun l => hi.bind fun h => ofO (opSl a l h)
def rSl (K : PySem.W.Frag) : V → Option Int → Option Int → Hp → VK → Prop := fun x lo hi H Q => rSlA K x lo hi H Q ∨ (rSlL K x lo hi H Q ∨ rSlS x lo hi H Q)
def finO (C : SC) (σ : St) (Q : Option Int → Hp → Prop) : Fin (Option Int) := fun b vs as o ρ => ∀ Z' H', Sta C.K C.mg b Z' H' σ ρ vs as → Q o H'
def tO (C : SC) (f : M (Option Int)) : TO := fun σ H Q => Go C (finO C σ Q) [] [] f σ H
section
variable {C : SC} {X : Cx} {e : Expr} {lo hi : Option Expr} {f : M A} {l h : M (Option Int)} {pos p2 : Pos}
theorem sl_all : SlR X (rSl X.K) := sl_tupA.or (sl_list.or sl_str)
theorem PO.w {e : Option Expr} {t t' : TO} (h : PO X e t) (k : ∀ σ H Q, t' σ H Q → t σ H Q) : PO X e t' := ⟨fun pins s σ H Q I hw => h.run pins s σ H Q I (k σ H Q hw)⟩
theorem do_none : PO X none (tO C pNo) := PO.w po_none fun σ H Q ⟨b, Z, ρ, vs, as, hb, hl, S, k⟩ => k _ _ S
theorem do_some (he : PE X e (tE C f)) : PO X (some e) (tO C (pSo f)) := by
  refine PO.w (po_some he) fun σ H Q k => ?_
  refine (Go.bindE k).mono fun x H1 ⟨a, b, Z, ρ, vs, as, hb, _, S, k1⟩ => ?_
  dsimp only at k1
  split at k1
  · have t := Sta.top (vs := vs) (as := as) S
    cases t
    exact ⟨_, rfl, k1 _ _ (Sta.pop (vs := vs) (as := as) S)⟩
  · exact k1.elim
theorem Go.bindO {α : Type} {fin : Fin α} {ps : List V} {pa : List A} {σ : St} {H : Hp} {f : M (Option Int)} {g : Option Int → M α} (h : Go C fin ps pa (f.bind g) σ H) : tO C f σ H (fun o H1 => Go C fin ps pa (g o) σ H1) := by
  obtain ⟨b, Z, ρ, vs, as, hb, hl, S, h⟩ := h
  refine ⟨b, Z, ρ, ps ++ vs, pa ++ as, hb, rfl, S, R.sat_mono (R.sat_bind h) (fun c ρ' q Z' H' S' => ?_) fun e ρ' q => q.pops hl⟩
  exact ⟨b, Z', ρ', vs, as, hb, hl, S', q⟩
theorem tO.mono {f : M (Option Int)} {Q Q' : Option Int → Hp → Prop} {σ : St} {H : Hp} (h : tO C f σ H Q) (k : ∀ v H', Q v H' → Q' v H') : tO C f σ H Q' := by
  obtain ⟨b, Z, ρ, vs, as, hb, hl, S, h⟩ := h
  exact ⟨b, Z, ρ, vs, as, hb, hl, S, R.sat_mono h (fun a ρ' q Z' H' S' => k _ _ (q Z' H' S')) fun _ _ q => q⟩
theorem de_slice (hK : X.K = C.K) (he : PE X e (tE C f)) (hl : PO X lo (tO C l)) (hh : PO X hi (tO C h)) : PE X (.Subscript e (.Slice lo hi none p2) pos) (tE C (dSl f l h)) := by
  refine PE.w (pe_slice sl_all he hl hh) fun σ H Q k => ?_
  refine (Go.bindE k).mono fun x H1 ⟨a, k1⟩ => (Go.bindO k1).mono fun i H2 k2 => (Go.bindO k2).mono fun j H3 k3 => ?_
  obtain ⟨res, e1, b, Z, ρ, vs, as, hb, _, S, k4⟩ := go_ofO k3
  rw [hK]
  obtain ⟨Z', _, S'⟩ := Sta.freeze (vs := vs) (as := as) S
  have t := Sta.top S'
  have S2 := Sta.pop S'
  unfold opSl at e1
  generalize a.frz = d at e1 t
  cases t with
  | @tup q xs ds h1 h2 =>
    cases e1
    refine .inl ⟨q, xs, rfl, sameT S'.zh h1, fun hw => ?_, fun hw p hp => ?_⟩
    · have ed : cutL ds i j = ds := by
        unfold cutL
        rw [← h2.length, hw.1, hw.2, List.drop_zero, Nat.sub_zero, h2.length, List.take_length]
      rw [ed] at k4
      exact k4 _ _ _ (S2.push (.tup h1 h2))
    · exact k4 _ _ _ (S2.newF (o := .tup _) hp (.tup (SqT.of upd_same) (RepDs.mono (same_upd (S'.zh.free hp)) _ _ (cut_rep h2 i j))))
  | @lst q xs ds h1 h2 =>
    cases e1
    refine .inr (.inl ⟨q, xs, rfl, SqL.of (S'.zh _ _ h1), fun p hp => ?_⟩)
    have r := cut_rep h2 i j
    exact k4 _ _ _ ((S2.pushes r).newM (by rw [List.length_map]; exact r.length) hp)
  | @fz q xs ds h1 h2 =>
    cases e1
    refine .inr (.inl ⟨q, xs, rfl, S'.zh.seq h1, fun p hp => ?_⟩)
    have r := cut_rep h2 i j
    exact k4 _ _ _ ((S2.pushes r).newM (by rw [List.length_map]; exact r.length) hp)
  | str z =>
    dsimp only at e1
    split at e1
    · rename_i hz
      cases e1
      exact .inr (.inr ⟨z, rfl, hz, k4 _ _ _ (S2.push (.str _))⟩)
    · cases e1
  | _ => cases e1
/-- xs[::-1] of a list -/
def dRev (f : M A) : M A := f.bind fun a => ofO ((lstD a.frz).map fun ds => .m (ds.reverse.map .v))
theorem de_rev {k : Nat} {p1 p3 p4 : Pos} (hK : X.K = C.K) (he : PE X e (tE C f)) : PE X (.Subscript e (.Slice none none (some (.UnaryOp .USub (.Constant (.int 1) k p1) p3)) p4) pos) (tE C (dRev f)) := by
  refine PE.w (pe_revL he) fun σ H Q q => ?_
  refine (Go.bindE q).mono fun x H1 ⟨a, k1⟩ => ?_
  obtain ⟨res, e1, b, Z, ρ, vs, as, hb, _, S, k2⟩ := go_ofO k1
  rw [hK]
  obtain ⟨Z', _, S'⟩ := Sta.freeze (vs := vs) (as := as) S
  cases hd : lstD a.frz with
  | none => rw [hd] at e1; cases e1
  | some ds =>
    rw [hd] at e1
    cases e1
    obtain ⟨q, xs, rfl, hs, r⟩ := (Sta.top S').lsq S'.zh hd
    refine ⟨q, xs, rfl, hs, fun p hp => ?_⟩
    exact k2 _ _ _ (((Sta.pop S').pushes r.reverse).newM (by rw [List.length_map]; exact r.reverse.length) hp)
end

section
variable {C : SC} {X : Cx} {a b : Expr} {f g : M A} {pos : Pos}
theorem de_ix (ha : PE X a (tE C f)) (hb : PE X b (tE C g)) (hK : X.K = C.K) (hs : PlainIx b) : PE X (.Subscript a b pos) (tE C (dOp2 opIx f g)) := by
  refine PE.w (pe_ix ix_seq ha hb hs) fun σ H Q k => ?_
  refine (Go.bindE k).mono fun x H1 ⟨u, k1⟩ => (Go.bindE k1).mono fun y H2 ⟨w, k2⟩ => ?_
  rw [hK]
  exact go_op2 o2_ix k2
end

def dItems (f : M A) : M (List D) := f.bind fun a => ofO (seqD a.frz)
def dRng1 (f : M A) : M (List D) := f.bind fun a => ofO (match a with
  | .v (.int j) => if -(2 ^ 62) ≤ j ∧ j < 2 ^ 62 then some ((List.range j.toNat).map fun i : Nat => .int i) else none
  | _ => none)
def dRng2 (f g : M A) : M (List D) := f.bind fun a => g.bind fun c => ofO (match a, c with
  | .v (.int i), .v (.int j) => if -(2 ^ 62) ≤ i ∧ i < 2 ^ 62 ∧ -(2 ^ 62) ≤ j ∧ j < 2 ^ 62 then some ((List.range (j - i).toNat).map fun n : Nat => .int (i + n)) else none
  | _, _ => none)
section
variable {C : SC} {X : Cx} {e e2 tg : Expr} {f g : M A} {pos p : Pos}
def iSeq (K : PySem.W.Frag) (tl : TE) : TI := fun σ H R => tl σ H fun x H1 => ∃ a, x = .ref a ∧ (((∃ xs, SqL K H1 a xs) ∧ R (Itl K a) H1) ∨ ((∃ xs, SqT K H1 a xs) ∧ R (Itt K a) H1))
theorem pi_seq {l : Expr} {tl : TE} (hl : PE X l tl) : PI X tg l (iSeq X.K tl) := by
  refine ⟨fun pins s σ H R I h => ?_⟩
  refine thn (hl.run pins s σ H _ I h) fun v s1 ⟨x, H1, I1, r1, q1⟩ => ?_
  obtain ⟨a, e, q⟩ := q1
  subst e
  cases r1
  rcases q with ⟨⟨xs, hq⟩, q⟩ | ⟨⟨xs, hq⟩, q⟩
  · obtain ⟨its, rv, p, hz⟩ := I1.list hq
    refine wpAny_pyIter_list p.isList ?_
    refine ⟨s1.heap.objs.size, [s1.heap.objs.size], _, _, H1, rfl, I1.kept (t' := s1.toks) fun b o e => Heap.get?_push_of_some _ e, turn_list a _, ⟨_, Heap.get?_push_size _ rfl, rfl, rfl⟩, fun b hb => ?_, q⟩
    have e : b = s1.heap.objs.size := by simpa using hb
    subst e
    exact I1.fpOk (Nat.le_refl _) (I1.hok.fresh (Nat.le_refl _))
  · obtain ⟨its, rv, p, hz⟩ := I1.tuple hq
    refine wpAny_pyIter_tuple (show s1.heap.IsTuple a its.toArray from p) ?_
    refine ⟨s1.heap.objs.size, [s1.heap.objs.size], _, _, H1, rfl, I1.kept (t' := s1.toks) fun b o e => Heap.get?_push_of_some _ e, turn_tuple a _, ⟨_, Heap.get?_push_size _ rfl, rfl, rfl⟩, fun b hb => ?_, q⟩
    have e : b = s1.heap.objs.size := by simpa using hb
    subst e
    exact I1.fpOk (Nat.le_refl _) (I1.hok.fresh (Nat.le_refl _))
theorem isIt_list {a : Addr} {d : D} {ds : List D} (hd : lstD d = some ds) : IsIt C (Itl C.K a) [.ref a] [.v d] ds := by
  intro b Z H σ ρ vs as S
  obtain ⟨q, xs, e, hs, r⟩ := (Sta.top S).lsq S.zh hd
  cases e
  refine ⟨fun i d hi => ?_, xs, hs, by rw [r.length]; exact Nat.le_refl _⟩
  obtain ⟨x, hx, rx⟩ := r.get hi
  refine ⟨⟨xs, x, hs, hx⟩, fun y H' ⟨e', hy⟩ => ?_⟩
  subst e'
  have := hy xs hs
  rw [hx] at this
  cases this
  exact ⟨Z, S.push rx⟩
theorem isIt_tup {a : Addr} {ds : List D} : IsIt C (Itt C.K a) [.ref a] [.v (.tup ds)] ds := by
  intro b Z H σ ρ vs as S
  have t := Sta.top S
  cases t with
  | @tup _ xs _ h1 r =>
    have hs := sameT S.zh h1
    refine ⟨fun i d hi => ?_, xs, hs, by rw [r.length]; exact Nat.le_refl _⟩
    obtain ⟨x, hx, rx⟩ := r.get hi
    refine ⟨⟨xs, x, hs, hx⟩, fun y H' ⟨e', hy⟩ => ?_⟩
    subst e'
    have := hy xs hs
    rw [hx] at this
    cases this
    exact ⟨Z, S.push rx⟩
theorem di_seq (hK : X.K = C.K) (he : PE X e (tE C f)) : PI X tg e (tI C (dItems f)) := by
  refine PI.w (pi_seq he) fun σ H R k => ?_
  refine (Go.bindE k).mono fun x H1 ⟨a, k1⟩ => ?_
  obtain ⟨ds, e1, b, Z, ρ, vs, as, hb, _, S, k2⟩ := go_ofO k1
  rw [hK]
  obtain ⟨Z', _, S'⟩ := Sta.freeze (vs := vs) (as := as) S
  have t := Sta.top S'
  generalize a.frz = d at e1 t S'
  cases t with
  | @tup q xs es h1 h2 =>
    cases e1
    exact ⟨q, rfl, .inr ⟨⟨xs, sameT S'.zh h1⟩, k2 _ _ [.ref q] [.v (.tup _)] _ rfl S' isIt_tup⟩⟩
  | @lst q xs es h1 h2 =>
    cases e1
    exact ⟨q, rfl, .inl ⟨⟨xs, SqL.of (S'.zh _ _ h1)⟩, k2 _ _ [.ref q] [.v (.lst _)] _ rfl S' (isIt_list rfl)⟩⟩
  | @fz q xs es h1 h2 =>
    cases e1
    exact ⟨q, rfl, .inl ⟨⟨xs, S'.zh.seq h1⟩, k2 _ _ [.ref q] [.v (.fz _)] _ rfl S' (isIt_list rfl)⟩⟩
  | _ => cases e1
theorem isIt_rng {lo : Int} {n : Nat} : IsIt C (Itr lo n) [] [] ((List.range n).map fun i : Nat => .int (lo + i)) := by
  intro b Z H σ ρ vs as S
  refine ⟨fun i d hi => ?_, by show n ≤ _; simp⟩
  have hin : i < n := by
    have := (List.getElem?_eq_some_iff.mp hi).1
    simpa using this
  refine ⟨hin, fun y H' ⟨e1, e2⟩ => ?_⟩
  subst e1 e2
  rw [List.getElem?_map, List.getElem?_range hin] at hi
  cases hi
  exact ⟨Z, S.push (.int _)⟩
theorem di_rng1 (hg : Gl X "range") (hm : X.mg "range" = none) (ha : PE X e (tE C f)) (hs : starEach [e] X.env = [(false, eval e X.env)] := by rfl) (hs' : starEach (e :: []) X.env = (false, eval e X.env) :: starEach [] X.env := by rfl) : PI X tg (.Call (.Name "range" p) [e] [] pos) (tI C (dRng1 f)) := by
  refine PI.w (pi_range1 hg hm (pa_cons ha pa_nil hs') hs) fun σ H R k => ?_
  refine (Go.bindE k).mono fun x H1 ⟨a, k1⟩ => ?_
  obtain ⟨ds, e1, b, Z, ρ, vs, as, hb, _, S, k2⟩ := go_ofO k1
  split at e1
  · rename_i j
    split at e1
    · rename_i hz
      cases e1
      have t := Sta.top (vs := vs) (as := as) S
      cases t
      refine ⟨_, rfl, hz.1, hz.2, k2 _ _ [] [] _ rfl (Sta.pop (vs := vs) (as := as) S) ?_⟩
      simpa using isIt_rng (C := C) (lo := 0)
    · cases e1
  · cases e1
theorem di_rng2 (hg : Gl X "range") (hm : X.mg "range" = none) (ha : PE X e (tE C f)) (hb : PE X e2 (tE C g)) (hs : starEach [e, e2] X.env = [(false, eval e X.env), (false, eval e2 X.env)] := by rfl) (hs2 : starEach [e2] X.env = [(false, eval e2 X.env)] := by rfl)
    (ht : starEach (e :: [e2]) X.env = (false, eval e X.env) :: starEach [e2] X.env := by rfl) (ht2 : starEach (e2 :: []) X.env = (false, eval e2 X.env) :: starEach [] X.env := by rfl) : PI X tg (.Call (.Name "range" p) [e, e2] [] pos) (tI C (dRng2 f g)) := by
  refine PI.w (pi_range2 hg hm (pa_cons ha (pa_cons hb pa_nil ht2) ht) hs hs2) fun σ H R k => ?_
  refine (Go.bindE k).mono fun x H1 ⟨a, k1⟩ => (Go.bindE k1).mono fun y H2 ⟨c, k2⟩ => ?_
  obtain ⟨ds, e1, b, Z, ρ, vs, as, hb, _, S, k3⟩ := go_ofO k2
  split at e1
  · rename_i i j
    split at e1
    · rename_i hz
      cases e1
      have t := Sta.top (vs := x :: vs) (as := _ :: as) S
      have t2 := Sta.top2 (vs := vs) (as := as) S
      cases t
      cases t2
      exact ⟨_, _, rfl, hz, k3 _ _ [] [] _ rfl (Sta.pop (vs := vs) (as := as) (Sta.pop (vs := _ :: vs) (as := _ :: as) S)) isIt_rng⟩
    · cases e1
  · cases e1
end

def gNilD : List D → M Unit := fun ds => match ds with
  | [] => M.pure ()
  | _ => fun _ => .bad
def gConsD (g : D → M Unit) (gs : List D → M Unit) : List D → M Unit := fun ds => match ds with
  | d :: ds => (g d).bind fun _ => gs ds
  | [] => fun _ => .bad
def gTupD (n : Nat) (gs : List D → M Unit) : D → M Unit := fun d => match d with
  | .tup ds => if ds.length = n then gs ds else fun _ => .bad
  | _ => fun _ => .bad
def tGs (C : SC) (sl : List Nat) (g : List D → M Unit) : TGs := fun ws σ H Q => ∃ b Z ρ vs as ds, C.Of b ∧ ws.length = ds.length ∧ Sta C.K C.mg b Z H σ ρ (ws ++ vs) (ds.map .v ++ as) ∧
  (g ds ρ).sat (fun _ ρ' => ∀ Z' H' σ', Sta C.K C.mg b Z' H' σ' ρ' vs as → wipe σ' sl = wipe σ sl → Q σ' H') (XPost C b vs as)
section
variable {C : SC} {X : Cx} {e : Expr} {es : List Expr} {g : D → M Unit} {gs : List D → M Unit} {sl : List Nat} {pos : Pos} {n k : Nat}
theorem PGs.w {ts : List Expr} {t t' : TGs} (h : PGs X ts t) (k : ∀ v σ H Q, t' v σ H Q → t v σ H Q) : PGs X ts t' := ⟨fun pins s σ H vs us Q I r hw => h.run pins s σ H vs us Q I r (k vs σ H Q hw)⟩
theorem dgs_nil : PGs X [] (tGs C sl gNilD) := by
  refine PGs.w pgs_nil fun ws σ H Q ⟨b, Z, ρ, vs, as, ds, hb, hl, S, k⟩ => ?_
  unfold gNilD at k
  split at k
  · have e : ws = [] := List.eq_nil_of_length_eq_zero (by simpa using hl)
    subst e
    exact ⟨rfl, k _ _ _ S rfl⟩
  · exact k.elim
theorem dgs_cons (h1 : PG X e (tG C sl g)) (h2 : PGs X es (tGs C sl gs)) (hs : (assignEach (e :: es) X.env).map (·.2) = assign e X.env :: (assignEach es X.env).map (·.2) := by rfl) : PGs X (e :: es) (tGs C sl (gConsD g gs)) := by
  refine PGs.w (pgs_cons h1 h2 hs) fun ws σ H Q ⟨b, Z, ρ, vs, as, ds, hb, hl, S, k⟩ => ?_
  unfold gConsD at k
  split at k
  · rename_i d ds
    match ws, hl with
    | w :: ws, hl =>
      have hl' : ws.length = ds.length := by simpa using hl
      refine ⟨w, ws, rfl, b, Z, ρ, ws ++ vs, ds.map .v ++ as, d, hb, by simpa using S, R.sat_mono (R.sat_bind k) (fun _ ρ1 q Z1 H1 σ1 S1 w1 => ?_) fun _ _ q => q.pops (by simpa using hl')⟩
      exact ⟨b, Z1, ρ1, vs, as, ds, hb, hl', S1, R.sat_mono q (fun _ ρ2 q2 Z2 H2 σ2 S2 w2 => q2 Z2 H2 σ2 S2 (w2.trans w1)) fun _ _ q => q⟩
  · exact k.elim
theorem dg_tup (hK : X.K = C.K) (hc : X.calm = true) (h : PGs X es (tGs C sl gs)) (hn : (assignEach es X.env).length = n := by rfl) (hst : (assignEach es X.env).findIdx? (·.1) = none := by rfl) : PG X (.Tuple es k pos) (tG C sl (gTupD n gs)) := by
  refine PG.w (pg_tup hc h hn hst) fun v σ H Q ⟨b, Z, ρ, vs, as, d, hb, S, k⟩ => ?_
  unfold gTupD at k
  split at k
  · split at k
    · rename_i hz
      have t := Sta.top S
      rw [hK]
      cases t with
      | @tup q xs ds h1 h2 =>
        exact ⟨q, xs, rfl, sameT S.zh h1, by rw [h2.length]; exact hz, b, Z, ρ, vs, as, _, hb, h2.length, (Sta.pop S).pushes h2, k⟩
    · exact k.elim
  · exact k.elim
end
/-- target = value -/
def dAsg (f : M A) (g : D → M Unit) : M Flow := f.bind fun a => (g a.frz).bind fun _ => M.pure .nx
section
variable {C : SC} {X : Cx} {tg e : Expr} {f : M A} {g : D → M Unit} {sl : List Nat} {pos : Pos}
theorem ds_asg (he : PE X e (tE C f)) (hg : PG X tg (tG C sl g)) (hs : swapsWithSole [tg] e pos.line X.env = pure false := by rfl) (hw : swappedStores [tg] e X.env = pure none := by rfl) (h1 : (assignEach [tg] X.env).map (·.2) = [assign tg X.env] := by rfl) :
    PS X (.Assign [tg] e pos) (tS C (dAsg f g)) := by
  refine PS.w (ps_asg he hg hs hw h1) fun D σ H k => ?_
  refine (Go.bindE k).mono fun x H1 ⟨a, b, Z, ρ, vs, as, hb, _, S, k1⟩ => ?_
  obtain ⟨Z', _, S'⟩ := Sta.freeze (vs := vs) (as := as) S
  exact ⟨b, Z', ρ, vs, as, _, hb, S', R.sat_mono (R.sat_bind k1) (fun _ ρ' q Z' H' σ' S' _ => q Z' H' σ' S') fun _ _ q => q⟩
end
/-- a, b = x, y with plain local names -/
def dPar (o1 o2 : Bool) (i j : Nat) (f g : M A) : M Flow := f.bind fun a => g.bind fun c ρ => if i < ρ.length ∧ j < ρ.length ∧ i ≠ j then .ok .nx ((ρ.set i (some (frzB o1 a))).set j (some (frzB o2 c))) else .bad
section
variable {C : SC} {X : Cx} {a b : Expr} {f g : M A} {i j : Nat} {x y : Str} {px py pt pos : Pos} {kt k2 : Nat} {pt2 : Pos}
theorem Sta.frzTop {K : PySem.W.Frag} {mg : Str → Option Value} {b : Base} {Z H : Hp} {σ : St} {ρ : DEnv} {vs : List V} {as : List A} {x : V} {a : A} (o : Bool) (S : Sta K mg b Z H σ ρ (x :: vs) (a :: as)) : ∃ Z', Sta K mg b Z' H σ ρ (x :: vs) (frzB o a :: as) := by
  cases o with
  | true => exact ⟨Z, S⟩
  | false => obtain ⟨Z', _, S'⟩ := S.freeze; exact ⟨Z', S'⟩
theorem ds_par (o1 o2 : Bool) (hc : X.calm = true) (hN : X.N.Nodup) (hi : X.N[i]? = some x) (hj : X.N[j]? = some y) (hni : i ∉ C.pn) (hnj : j ∉ C.pn) (hx : X.env.scope.names.lookup x = some .local) (hy : X.env.scope.names.lookup y = some .local)
    (ha : PE X a (tE C f)) (hb : PE X b (tE C g)) (hij : i ≠ j) (hw : swappedStores [.Tuple [.Name x px, .Name y py] kt pt] (.Tuple [a, b] k2 pt2) X.env = pure (some [x, y]))
    (hs : swapsWithSole [.Tuple [.Name x px, .Name y py] kt pt] (.Tuple [a, b] k2 pt2) pos.line X.env = pure false := by rfl) (h1 : starEach (a :: [b]) X.env = (false, eval a X.env) :: starEach [b] X.env := by rfl) (h2 : starEach (b :: []) X.env = (false, eval b X.env) :: starEach [] X.env := by rfl) :
    PS X (.Assign [.Tuple [.Name x px, .Name y py] kt pt] (.Tuple [a, b] k2 pt2) pos) (tS C (dPar o1 o2 i j f g)) := by
  refine PS.w (ps_par hc hN hi hj hij hx hy (pa_cons ha (pa_cons hb pa_nil h2) h1) hw hs) fun D σ H k => ?_
  refine (Go.bindE k).mono fun u H1 ⟨c, k1⟩ => (Go.bindE k1).mono fun w H2 ⟨d, b, Z, ρ, vs, as, hb, _, S, k2⟩ => ?_
  dsimp only at k2
  split at k2
  · rename_i hz
    refine ⟨u, w, rfl, ?_⟩
    obtain ⟨Z1, S1⟩ := Sta.frzTop (vs := u :: vs) (as := c :: as) o2 S
    have S2 := (S1.rot (ws := [w]) (l := [frzB o2 d]) rfl)
    obtain ⟨Z2, S3⟩ := Sta.frzTop o1 S2
    have S4 := (S3.store (i := i) hz.1 (by rw [hb.pn]; exact hni))
    exact k2 _ _ _ (S4.store (i := j) (by rw [List.length_set]; exact hz.2.1) (by rw [hb.pn]; exact hnj))
  · exact k2.elim
end
end DD

namespace DD
open PySem PySem.Spec L2
open PyProof.Rows hiding St
variable [LamN]

def wipeE (ρ : DEnv) : List Nat → DEnv
  | [] => ρ
  | i :: sl => (wipeE ρ sl).set i none
def wipeF : DEnv → List Nat → DEnv
  | ρ, [] => ρ
  | ρ, i :: sl => wipeF (ρ.set i none) sl
def parkL (ρ : DEnv) : List Nat → List (Nat × D)
  | [] => []
  | i :: sl => match ρ[i]? with
    | some (some (.v d)) => (i, d) :: parkL ρ sl
    | _ => parkL ρ sl
def putL : List (Nat × D) → DEnv → DEnv
  | [], ρ => ρ
  | (i, d) :: l, ρ => putL l (ρ.set i (some (.v d)))
def wipeM (sl : List Nat) : M Unit := fun ρ => .ok () (wipeE ρ sl)
def compL (sl : List Nat) (g : D → M Unit) (p : M Bool) (elt : M A) : List D → M (List A)
  | [] => M.pure []
  | d :: ds => (g d).bind fun _ => p.bind fun k => if k = true then elt.bind fun a => (wipeM sl).bind fun _ => (compL sl g p elt ds).bind fun l => M.pure (a :: l)
      else (wipeM sl).bind fun _ => compL sl g p elt ds
def dComp (sl : List Nat) (src : M (List D)) (g : D → M Unit) (p : M Bool) (elt : M A) : M A := src.bind fun ds ρ =>
  if ds.length ≤ sizeLine then
    match compL sl g p elt ds (wipeE ρ sl) with
    | .ok l ρ' => .ok (.m l) (putL (parkL ρ sl) (wipeF ρ' sl))
    | _ => .bad
  else .bad

section
variable {K : PySem.W.Frag} {mg : Str → Option Value} {b : Base} {Z H : Hp} {σ : St} {ρ : DEnv} {vs ws xs : List V} {as l pa : List A} {x y : V} {a c : A} {d : D} {i : Nat} {p : Addr}
theorem Sta.wipes (S : Sta K mg b Z H σ ρ vs as) : ∀ {sl : List Nat}, (∀ i ∈ sl, i ∉ b.pn) → Sta K mg b Z H (wipe σ sl) (wipeE ρ sl) vs as
  | [], _ => S
  | i :: sl, h => (Sta.wipes S fun j hj => h j (List.mem_cons_of_mem _ hj)).wipe1 i none (h i List.mem_cons_self)
theorem wipe_get {σ : St} {i : Nat} : ∀ {sl : List Nat}, i ∉ sl → (wipe σ sl)[i]? = σ[i]?
  | [], _ => rfl
  | j :: sl, h => by
    rw [List.mem_cons, not_or] at h
    unfold wipe
    rw [List.getElem?_set_ne (Ne.symm h.1), wipe_get h.2]
theorem wipe_none {σ : St} {j : Nat} : ∀ {sl : List Nat}, j ∈ sl → j < σ.length → (wipe σ sl)[j]? = some none
  | [], h, _ => by cases h
  | k :: sl, h, hl => by
    show ((wipe σ sl).set k none)[j]? = some none
    by_cases e : j = k
    · subst e
      rw [List.getElem?_set_self (by rw [wipe_length]; exact hl)]
    · rw [List.getElem?_set_ne (Ne.symm e)]
      rcases List.mem_cons.mp h with z | z
      · exact absurd z e
      · exact wipe_none z hl
theorem wipe_wipe {σ : St} {sl : List Nat} : ∀ {sl' : List Nat}, (∀ i ∈ sl', i ∈ sl) → wipe (wipe σ sl) sl' = wipe σ sl
  | [], _ => rfl
  | j :: sl', h => by
    show (wipe (wipe σ sl) sl').set j none = wipe σ sl
    rw [wipe_wipe fun i hi => h i (List.mem_cons_of_mem _ hi)]
    by_cases hj : j < σ.length
    · exact set_same (wipe_none (h j List.mem_cons_self) hj)
    · exact List.set_eq_of_length_le (by rw [wipe_length]; omega)
theorem bind_inv {α β : Type} {f : M α} {g : α → M β} {ρ ρ' : DEnv} {y : β} (h : f.bind g ρ = .ok y ρ') : ∃ a ρ1, f ρ = .ok a ρ1 ∧ g a ρ1 = .ok y ρ' := by
  unfold M.bind at h
  cases e : f ρ with
  | bad => rw [e] at h; cases h
  | exc _ _ => rw [e] at h; cases h
  | ok a ρ1 => rw [e] at h; exact ⟨a, ρ1, rfl, h⟩
theorem Sta.unwipe : ∀ {sl : List Nat} {ρ : DEnv}, sl.Nodup → (∀ i ∈ sl, i ∉ b.pn) → Sta K mg b Z H (wipe σ sl) ρ vs as → Sta K mg b Z H σ (wipeF ρ sl) vs as
  | [], _, _, _, S => S
  | i :: sl, ρ, nd, h, S => by
    have S1 := Sta.wipe1 S i ((wipe σ sl)[i]?.getD none) (h i List.mem_cons_self)
    have e : (wipe σ (i :: sl)).set i ((wipe σ sl)[i]?.getD none) = wipe σ sl := by
      show ((wipe σ sl).set i none).set i _ = _
      rw [List.set_set]
      by_cases hi : i < (wipe σ sl).length
      · exact set_same (by rw [List.getElem?_eq_getElem hi]; rfl)
      · rw [List.set_eq_of_length_le (by omega)]
    rw [e] at S1
    exact Sta.unwipe (sl := sl) (ρ := ρ.set i none) (List.nodup_cons.mp nd).2 (fun j hj => h j (List.mem_cons_of_mem _ hj)) S1
theorem Sta.park (S : Sta K mg b Z H σ ρ vs as) : ∀ sl : List Nat, ∃ xs, RepDs K mg Z xs ((parkL ρ sl).map (·.2)) ∧ xs.length = (parkL ρ sl).length ∧ ∀ (k : Nat) (q : Nat × D), (parkL ρ sl)[k]? = some q → q.1 ∈ sl ∧ ∃ x, xs[k]? = some x ∧ σ[q.1]? = some (some x)
  | [] => ⟨[], .nil, rfl, fun k q e => by simp [parkL] at e⟩
  | i :: sl => by
    obtain ⟨xs, r, hl, h⟩ := Sta.park S sl
    unfold parkL
    split
    · rename_i d hd
      obtain ⟨x, e, rx⟩ := S.slot hd
      refine ⟨x :: xs, .cons rx r, by simp [hl], fun k q ek => ?_⟩
      cases k with
      | zero =>
        simp at ek
        subst ek
        exact ⟨List.mem_cons_self, x, rfl, e⟩
      | succ k =>
        obtain ⟨h1, y, h2, h3⟩ := h k q (by simpa using ek)
        exact ⟨List.mem_cons_of_mem _ h1, y, by simpa using h2, h3⟩
    · exact ⟨xs, r, hl, fun k q ek => let ⟨h1, h2⟩ := h k q ek; ⟨List.mem_cons_of_mem _ h1, h2⟩⟩
theorem Sta.unpark : ∀ {pk : List (Nat × D)} {xs : List V} {ρ : DEnv}, Sta K mg b Z H σ ρ (xs ++ vs) (pk.map (fun q => A.v q.2) ++ as) → xs.length = pk.length → (∀ (k : Nat) (q : Nat × D), pk[k]? = some q → q.1 ∉ b.pn ∧ ∃ x, xs[k]? = some x ∧ σ[q.1]? = some (some x)) →
    Sta K mg b Z H σ (putL pk ρ) vs as
  | [], [], _, S, _, _ => S
  | [], _ :: _, _, _, e, _ => by simp at e
  | _ :: _, [], _, _, e, _ => by simp at e
  | q :: pk, x :: xs, ρ, S, e, h => by
    obtain ⟨h1, y, h2, h3⟩ := h 0 q rfl
    simp at h2
    subst h2
    have S1 := Sta.store (i := q.1) (vs := xs ++ vs) (as := pk.map (fun q => A.v q.2) ++ as) S (by rw [← S.len]; exact (List.getElem?_eq_some_iff.mp h3).1) h1
    rw [set_same h3] at S1
    exact Sta.unpark (pk := pk) (xs := xs) (ρ := ρ.set q.1 (some (.v q.2))) S1 (by simpa using e) fun k q' ek => h (k + 1) q' (by simpa using ek)
/-- a pending value goes behind a pending list -/
theorem Sta.appPend (S : Sta K mg b Z H σ ρ (x :: y :: vs) (.m l :: a :: as)) : ∃ p xs, x = .ref p ∧ H p = some (.lst xs) ∧ xs.length = l.length ∧ Sta K mg b Z (upd H p (.lst (xs ++ [y]))) σ ρ (x :: vs) (.m (l ++ [a]) :: as) := by
  obtain ⟨f, g, h1, h2, h3, h4, h5⟩ := S.rep
  cases h2 with
  | @cons _ _ _ _ fl g0 r1 r0 =>
    cases r0 with
    | @cons _ _ _ _ fa g1 r2 r3 =>
      cases r1 with
      | @m p xs _ fl hp rl =>
        have cp : ∀ q, f.count q + ((fl.count q + if p = q then 1 else 0) + (fa.count q + g1.count q)) ≤ 1 := fun q => by
          have := h3 q
          rw [List.count_append, List.count_append, List.count_cons] at this
          simp only [beq_iff_eq] at this
          omega
        have zp : Z p = none := h4 p (.inr (List.mem_append_left _ List.mem_cons_self))
        have np : ∀ {q : Addr}, (0 < f.count q ∨ 0 < fl.count q ∨ 0 < fa.count q ∨ 0 < g1.count q) → q ≠ p := fun {q} hq e => by
          have := cp q
          rw [if_pos e.symm] at this
          omega
        have bp : Fre b.H p := h5 p (List.mem_append_left _ List.mem_cons_self)
        refine ⟨p, xs, rfl, hp, rl.length, S.zz, fun q u eq => ?_, S.kz, fun q u eq hq hn => ?_, fun q hq => ?_, ⟨tabs_upd S.sd.tabs hp (.inl ⟨_, rfl⟩), S.sd.nt, S.sd.kn⟩, S.pin, S.lw, f, (p :: (fl ++ (fa ++ []))) ++ g1, h1.mono (Same.refl Z) (fun q hq => upd_ne (np (.inl (mem_count hq)))) (fun _ _ _ z => z), ?_, fun q => ?_, fun q hq => ?_, fun q hq => ?_⟩
        · rw [upd_ne (fun e => by rw [e, zp] at eq; cases eq)]; exact S.zh _ _ eq
        · rw [upd_ne (fun e => by rw [e] at eq; exact Fre.no eq hn bp)]; exact S.kh _ _ eq hq hn
        · by_cases e : q = p
          · rw [e] at hq; exact (Fre.no upd_same (fun ps z => by cases z) hq).elim
          · exact S.kd q fun o e' => hq o (by rw [upd_ne e]; exact e')
        · refine .cons (.m upd_same ?_) (RepAs.mono (Same.refl Z) _ _ _ (fun q hq => upd_ne (np (.inr (.inr (.inr (mem_count hq)))))) r3)
          refine (RepAs.mono (Same.refl Z) _ _ _ (fun q hq => upd_ne (np (.inr (.inl (mem_count hq))))) rl).append (.cons (RepA.mono (Same.refl Z) _ _ _ (fun q hq => upd_ne (np (.inr (.inr (.inl (mem_count hq)))))) r2) .nil)
        · have := cp q
          rw [List.append_nil, List.count_append, List.count_cons, List.count_append]
          simp only [beq_iff_eq]
          omega
        · refine h4 q (hq.imp id fun z => ?_)
          rw [List.append_nil] at z
          rcases List.mem_append.mp z with z | z
          · rcases List.mem_cons.mp z with z | z
            · exact List.mem_append_left _ (z ▸ List.mem_cons_self)
            · rcases List.mem_append.mp z with z | z
              · exact List.mem_append_left _ (List.mem_cons_of_mem _ z)
              · exact List.mem_append_right _ (List.mem_append_left _ z)
          · exact List.mem_append_right _ (List.mem_append_right _ z)
        · refine h5 q ?_
          rw [List.append_nil] at hq
          rcases List.mem_append.mp hq with z | z
          · rcases List.mem_cons.mp z with z | z
            · exact List.mem_append_left _ (z ▸ List.mem_cons_self)
            · rcases List.mem_append.mp z with z | z
              · exact List.mem_append_left _ (List.mem_cons_of_mem _ z)
              · exact List.mem_append_right _ (List.mem_append_left _ z)
          · exact List.mem_append_right _ (List.mem_append_right _ z)
/-- .. over others that lie between -/
theorem Sta.appPend2 (S : Sta K mg b Z H σ ρ (y :: (ws ++ .ref p :: vs)) (a :: (pa ++ .m l :: as))) (hl : ws.length = pa.length) :
    ∃ xs, H p = some (.lst xs) ∧ xs.length = l.length ∧ Sta K mg b Z (upd H p (.lst (xs ++ [y]))) σ ρ (ws ++ .ref p :: vs) (pa ++ .m (l ++ [a]) :: as) := by
  have S1 := Sta.rot (ws := y :: ws) (l := a :: pa) S (by simp [hl])
  obtain ⟨p', xs, e, hp, hx, S2⟩ := Sta.appPend S1
  cases e
  exact ⟨xs, hp, hx, Sta.unrot S2 hl⟩
end

section
variable {X : Cx} {C : SC} {elt tg iter c : Expr} {ifs : List Expr} {scope : Scope} {own : List (Str × Nat)} {pos : Pos} {src : M (List D)} {g : D → M Unit} {p : M Bool} {f : M A}
theorem PTs.w {t t' : TT} (h : PTs X ifs t) (k : ∀ σ H Q, t' σ H Q → t σ H Q) : PTs X ifs t' := ⟨fun pins s σ H Q I hw => h.run pins s σ H Q I (k σ H Q hw)⟩
theorem dts_nil : PTs X [] (tT C (M.pure true)) := PTs.w pts_nil fun σ H Q k => go_tpure k
theorem dts_one (h : PT X c (tT C p)) : PTs X [c] (tT C p) := pts_one h
/-- the context within a comprehension: nothing raises -/
def SC.nox (C : SC) : SC := { C with W := fun _ _ _ _ => False }
theorem go_comp {σ : St} {H : Hp} {Q : VK} (nd : (own.map (·.2)).Nodup) (np : ∀ i ∈ own.map (·.2), i ∉ C.pn) (k : tE C (dComp (own.map (·.2)) src g p f) σ H Q) :
    tLc (tI C src) (tG C.nox (own.map (·.2)) g) (tT C.nox p) (tE C.nox f) (own.map (·.2)) σ H Q := by
  generalize hsl : own.map (·.2) = sl at *
  obtain ⟨b, Z, ρ, vs, as, hb, hl, S, k⟩ := k
  refine ⟨b, Z, ρ, vs, as, hb, rfl, S, R.sat_mono (R.sat_bind k) (fun ds ρ1 q Z1 H1 ws pa J hl S1 hJ D hD => ?_) fun _ _ q => q⟩
  have np' : ∀ i ∈ sl, i ∉ b.pn := fun i hi => by rw [hb.pn]; exact np i hi
  split at q
  · rename_i hz
    cases ec : compL sl g p f ds (wipeE ρ1 sl) with
    | bad => rw [ec] at q; exact q.elim
    | exc e ρ2 => rw [ec] at q; exact q.elim
    | ok l0 ρ2 =>
      rw [ec] at q
      -- the new list, the parked values, the slots wiped
      have S2 : Sta C.K C.mg b Z1 (upd H1 D (.lst [])) σ ρ1 (.ref D :: (ws ++ vs)) (.m [] :: (pa ++ as)) := Sta.newM (ws := []) (l := []) S1 rfl hD
      obtain ⟨xs, rp, lp, hp⟩ := S2.park sl
      have S2' := S2.unrot hl
      have S3 : Sta C.K C.mg b Z1 (upd H1 D (.lst [])) σ ρ1 (xs ++ (ws ++ .ref D :: vs)) ((parkL ρ1 sl).map (fun q => A.v q.2) ++ (pa ++ .m [] :: as)) := by
        have := S2'.pushes rp
        rwa [List.map_map] at this
      -- parked below all
      have S4 : ∀ {ys : List V} {bs : List A} {vs' : List V} {as' : List A} {H' Z' : Hp} {σ' : St} {ρ' : DEnv}, ys.length = bs.length → ∀ {xs' : List V} {ps : List A}, xs'.length = ps.length → Sta C.K C.mg b Z' H' σ' ρ' (xs' ++ (ys ++ vs')) (ps ++ (bs ++ as')) → Sta C.K C.mg b Z' H' σ' ρ' (ys ++ (xs' ++ vs')) (bs ++ (ps ++ as')) := by
        intro ys bs vs' as' H' Z' σ' ρ' hy
        intro xs'
        induction xs' generalizing vs' as' with
        | nil =>
          intro ps hps S
          have : ps = [] := List.eq_nil_of_length_eq_zero (by simpa using hps.symm)
          subst this
          exact S
        | cons x xs' ih =>
          intro ps hps S
          match ps, hps with
          | c :: ps, hps =>
            have hps' : xs'.length = ps.length := by simpa using hps
            -- x :: (xs' ++ (ys ++ vs')) : bring x below ys: first put xs' below
            have T1 : Sta C.K C.mg b Z' H' σ' ρ' (xs' ++ x :: (ys ++ vs')) (ps ++ c :: (bs ++ as')) := Sta.unrot (ws := xs') (l := ps) S hps'
            have T2 : Sta C.K C.mg b Z' H' σ' ρ' ((xs' ++ ys) ++ x :: vs') ((ps ++ bs) ++ c :: as') := by
              have e1 : ∀ {zs : List V} {cs : List A}, zs.length = cs.length → Sta C.K C.mg b Z' H' σ' ρ' (zs ++ x :: (ys ++ vs')) (cs ++ c :: (bs ++ as')) → Sta C.K C.mg b Z' H' σ' ρ' ((zs ++ ys) ++ x :: vs') ((cs ++ bs) ++ c :: as') := by
                intro zs cs hz T
                have U := T.rot hz
                rw [← List.append_assoc, ← List.append_assoc] at U
                exact Sta.unrot (ws := zs ++ ys) (l := cs ++ bs) U (by simp [hz, hy])
              exact e1 hps' T1
            have T3 := Sta.rot (ws := xs' ++ ys) (l := ps ++ bs) T2 (by simp [hps', hy])
            -- x :: ((xs' ++ ys) ++ vs')
            have T4 := T3.pop
            rw [List.append_assoc, List.append_assoc] at T4
            have T2' : Sta C.K C.mg b Z' H' σ' ρ' (xs' ++ (ys ++ x :: vs')) (ps ++ (bs ++ c :: as')) := by
              rw [List.append_assoc, List.append_assoc] at T2; exact T2
            have T5 := ih (vs' := x :: vs') (as' := c :: as') hps' T2'
            -- ys ++ (xs' ++ x :: vs')
            have T6 : Sta C.K C.mg b Z' H' σ' ρ' ((ys ++ xs') ++ x :: vs') ((bs ++ ps) ++ c :: as') := by
              rw [List.append_assoc, List.append_assoc]; exact T5
            have T7 := Sta.rot (ws := ys ++ xs') (l := bs ++ ps) T6 (by simp [hps', hy])
            rw [List.append_assoc, List.append_assoc] at T7
            exact Sta.unrot (ws := ys) (l := bs) T7 hy
      have S5 : Sta C.K C.mg b Z1 (upd H1 D (.lst [])) (wipe σ sl) (wipeE ρ1 sl) (ws ++ .ref D :: (xs ++ vs)) (pa ++ .m [] :: ((parkL ρ1 sl).map (fun q => A.v q.2) ++ as)) := by
        have T : Sta C.K C.mg b Z1 (upd H1 D (.lst [])) σ ρ1 (xs ++ ((ws ++ [.ref D]) ++ vs)) ((parkL ρ1 sl).map (fun q => A.v q.2) ++ ((pa ++ [.m []]) ++ as)) := by simpa using S3
        have T2 := S4 (ys := ws ++ [.ref D]) (bs := pa ++ [.m []]) (by simp [hl]) (by simp [lp]) T
        have T3 := T2.wipes np'
        simpa using T3
      refine ⟨fun i m H => ∃ Z ρ acc, Sta C.K C.mg b Z H (wipe σ sl) ρ (ws ++ .ref D :: (xs ++ vs)) (pa ++ .m acc :: ((parkL ρ1 sl).map (fun q => A.v q.2) ++ as)) ∧ acc.length ≤ i ∧ i + m = ds.length ∧
        ∃ l ρ', compL sl g p f (ds.drop i) ρ = .ok l ρ' ∧ finE C σ Q b vs as (.m (acc ++ l)) (putL (parkL ρ1 sl) (wipeF ρ' sl)), ⟨ds.length, Z1, _, [], S5, Nat.le_refl _, by omega, l0, ρ2, by simpa using ec, q⟩, ?_⟩
      rintro i m H2 ⟨Z2, ρ3, acc, T, la, em, l, ρ4, el, q1⟩
      obtain ⟨turn, stop⟩ := hJ b Z2 H2 (wipe σ sl) ρ3 _ _ T
      by_cases hi : i < ds.length
      · obtain ⟨go, yld⟩ := turn i ds[i] (List.getElem?_eq_getElem hi)
        rw [List.drop_eq_getElem_cons hi] at el
        unfold compL at el
        refine .inr ⟨go, fun H3 => ∃ Z ρ acc, Sta C.K C.mg b Z H3 (wipe σ sl) ρ (ws ++ .ref D :: (xs ++ vs)) (pa ++ .m acc :: ((parkL ρ1 sl).map (fun q => A.v q.2) ++ as)) ∧ acc.length ≤ i + 1 ∧
          ∃ l ρ', compL sl g p f (ds.drop (i + 1)) ρ = .ok l ρ' ∧ finE C σ Q b vs as (.m (acc ++ l)) (putL (parkL ρ1 sl) (wipeF ρ' sl)), fun H3 ⟨Z3, ρ5, acc', T3, la', h⟩ => ⟨m - 1, by omega, Z3, ρ5, acc', T3, la', by omega, h⟩, fun x H3 hy => ?_⟩
        obtain ⟨Z3, T3⟩ := yld x H3 hy
        refine ⟨b, Z3, ρ3, _, _, ds[i], ⟨hb.pn, hb.kn⟩, T3, ?_⟩
        obtain ⟨u, ρ5, e1, el⟩ := bind_inv el
        obtain ⟨kk, ρ6, e2, el⟩ := bind_inv el
        rw [e1]
        intro Z4 H4 σ4 T4 w4
        have w4' : wipe σ4 sl = wipe σ sl := w4.trans (wipe_wipe fun _ h => h)
        refine ⟨w4', ⟨b, Z4, ρ5, _, _, ⟨hb.pn, hb.kn⟩, rfl, T4, ?_⟩⟩
        rw [e2]
        intro Z5 H5 T5
        cases kk with
        | true =>
          rw [if_pos rfl]
          rw [if_pos rfl] at el
          obtain ⟨a, ρ7, e3, elB⟩ := bind_inv el
          obtain ⟨u2, ρ9, e5, elC⟩ := bind_inv elB
          obtain ⟨l', ρ8, e4, elD⟩ := bind_inv elC
          clear el elB elC
          have e5 : R.ok () (wipeE ρ7 sl) = R.ok u2 ρ9 := e5
          injection e5 with _ e5
          subst e5
          have elD : R.ok (a :: l') ρ8 = R.ok l ρ4 := elD
          injection elD with el1 el2
          subst el1 el2
          refine ⟨b, Z5, ρ6, _, _, ⟨hb.pn, hb.kn⟩, rfl, T5, ?_⟩
          rw [e3]
          intro Z6 H6 y T6
          obtain ⟨av, hD6, lav, T7⟩ := Sta.appPend2 T6 hl
          refine ⟨av, hD6, by rw [lav]; omega, Z6, wipeE ρ7 sl, acc ++ [a], ?_, by simp; omega, l', _, e4, by simpa using q1⟩
          have := T7.wipes np'
          rw [w4'] at this
          exact this
        | false =>
          rw [if_neg (by decide)]
          rw [if_neg (by decide)] at el
          obtain ⟨u2, ρ9, e5, el⟩ := bind_inv el
          have e5 : R.ok () (wipeE ρ6 sl) = R.ok u2 ρ9 := e5
          injection e5 with _ e5
          subst e5
          refine ⟨Z5, wipeE ρ6 sl, acc, ?_, by omega, l, ρ4, el, q1⟩
          have := T5.wipes np'
          rw [w4'] at this
          exact this
      · have e : i = ds.length := by omega
        subst e
        rw [List.drop_length] at el
        simp only [compL, M.pure, R.ok.injEq] at el
        obtain ⟨el1, el2⟩ := el
        subst el1 el2
        refine .inl ⟨stop, ?_⟩
        have U := (T.pops hl).unwipe nd np'
        have U2 := Sta.unrot (ws := xs) (l := (parkL ρ1 sl).map (fun q => A.v q.2)) U (by simp [lp])
        have U3 := Sta.unpark U2 lp fun kk q ek => let ⟨h1, h2⟩ := hp kk q ek; ⟨np' _ h1, h2⟩
        simpa using q1 _ _ _ (by simpa using U3)
  · exact q.elim
theorem de_comp (nd : (own.map (·.2)).Nodup) (np : ∀ i ∈ own.map (·.2), i ∉ C.pn) (hc : X.calm = true) (hN : X.N.Nodup) (hi : PI X tg iter (tI C src)) (ok : BlkOk X.N X.env.scope scope own)
    (hg : ∀ (s : Shared) (H : Hp) (D : Addr) (cl : List (Str × Addr)) (fp : List Addr), PG (X.blk s H scope (compEnvC scope cl D X.env) fp) tg (tG C.nox (own.map (·.2)) g)) (ht : ∀ (s : Shared) (H : Hp) (D : Addr) (cl : List (Str × Addr)) (fp : List Addr), PTs (X.blk s H scope (compEnvC scope cl D X.env) fp) ifs (tT C.nox p))
    (he : ∀ (s : Shared) (H : Hp) (D : Addr) (cl : List (Str × Addr)) (fp : List Addr), PE (X.blk s H scope (compEnvC scope cl D X.env) fp) elt (tE C.nox f)) (hs : ∀ x, foldedSetIterable iter X.env x = pure x := by intro _; rfl) :
    PE X (.ListComp elt [⟨tg, iter, ifs, 0⟩] scope pos) (tE C (dComp (own.map (·.2)) src g p f)) :=
  PE.w (pe_lc hc hN hi ok hg ht he hs) fun σ H Q k => go_comp nd np k
/-- name = [..] on one line -/
theorem ds_setComp {i : Nat} {y : Str} {py spos : Pos} (o : Bool) (hni : i ∉ C.pn) (nd : (own.map (·.2)).Nodup) (np : ∀ i ∈ own.map (·.2), i ∉ C.pn) (hc : X.calm = true) (hN : X.N.Nodup) (hy : X.N[i]? = some y) (hyl : X.env.scope.names.lookup y = some .local)
    (hsw : swapsWith (.ListComp elt [⟨tg, iter, ifs, 0⟩] scope pos) (some (.Name y py)) spos.line X.env = pure true) (hi : PI X tg iter (tI C src)) (ok : BlkOk X.N X.env.scope scope own)
    (hg : ∀ (s : Shared) (H : Hp) (D : Addr) (cl : List (Str × Addr)) (fp : List Addr), PG (X.blk s H scope (compEnvC scope cl D X.env) fp) tg (tG C.nox (own.map (·.2)) g)) (ht : ∀ (s : Shared) (H : Hp) (D : Addr) (cl : List (Str × Addr)) (fp : List Addr), PTs (X.blk s H scope (compEnvC scope cl D X.env) fp) ifs (tT C.nox p))
    (he : ∀ (s : Shared) (H : Hp) (D : Addr) (cl : List (Str × Addr)) (fp : List Addr), PE (X.blk s H scope (compEnvC scope cl D X.env) fp) elt (tE C.nox f)) (hs : ∀ x, foldedSetIterable iter X.env x = pure x := by intro _; rfl) :
    PS X (.Assign [.Name y py] (.ListComp elt [⟨tg, iter, ifs, 0⟩] scope pos) spos) (tS C (dSet o i (dComp (own.map (·.2)) src g p f))) := by
  refine PS.w (ps_setLc hc hN hy hyl hsw hi ok hg ht he hs) fun D σ H k => ?_
  exact go_comp nd np ((Go.bindE k).mono fun y H1 ⟨u, k1⟩ => go_store hni k1)
end

def dAppend (i : Nat) (o : Bool) (f : M A) : M A := fun ρ => match ρ[i]? with
  | some (some (.m _)) => (f.bind fun a ρ => match ρ[i]? with
    | some (some (.m l)) => if l.length < sizeLine then .ok (.v .non) (ρ.set i (some (.m (l ++ [frzB o a])))) else .bad
    | _ => .bad) ρ
  | _ => .bad
def dExtend (i : Nat) (f : M A) : M A := fun ρ => match ρ[i]? with
  | some (some (.m _)) => (f.bind fun a ρ => match ρ[i]?, a.frz with
    | some (some (.m l)), .lst ds => if l.length + ds.length ≤ sizeLine then .ok (.v .non) (ρ.set i (some (.m (l ++ ds.map .v)))) else .bad
    | _, _ => .bad) ρ
  | _ => .bad
def dPopAt (i : Nat) (f : M A) : M A := fun ρ => match ρ[i]? with
  | some (some (.m _)) => (f.bind fun a ρ => match ρ[i]?, a with
    | some (some (.m l)), .v (.int n) => if -(2 ^ 63) ≤ n ∧ n < 2 ^ 63 then (match seqIndex? n l.length with
      | some k => (match l[k]? with
        | some (.v d) => .ok (.v d) (ρ.set i (some (.m (l.eraseIdx k))))
        | _ => .bad)
      | none => .bad) else .bad
    | _, _ => .bad) ρ
  | _ => .bad
def dSetItem (i : Nat) (o : Bool) (f g : M A) : M Flow := f.bind fun a ρ => match ρ[i]? with
  | some (some (.m _)) => (g.bind fun c ρ => match ρ[i]?, c with
    | some (some (.m l)), .v (.int n) => (match ixN l.length n with
      | some k => .ok .nx (ρ.set i (some (.m (l.set k (frzB o a)))))
      | none => .bad)
    | _, _ => .bad) ρ
  | _ => .bad
section
variable {X : Cx} {C : SC} {e e2 : Expr} {f g : M A} {i : Nat} {x : Str} {p apos cpos pos pos' : Pos}
theorem go_slot {α : Type} {fin : Fin α} {ps : List V} {pa : List A} {σ : St} {H : Hp} {h : M α} (k : Go C fin ps pa (fun ρ => match ρ[i]? with
    | some (some (.m _)) => h ρ
    | _ => .bad) σ H) : (∃ q xs, σ[i]? = some (some (.ref q)) ∧ H q = some (.lst xs)) ∧ Go C fin ps pa h σ H := by
  obtain ⟨b, Z, ρ, vs, as, hb, hl, S, k⟩ := k
  dsimp only at k
  split at k
  · rename_i l hl2
    obtain ⟨q, xs, fl, e1, hp, _, _⟩ := S.readL hl2
    exact ⟨⟨q, xs, e1, hp⟩, b, Z, ρ, vs, as, hb, hl, S, k⟩
  · exact k.elim
theorem de_append (o : Bool) (hN : X.N[i]? = some x) (hv : Vis X.env.scope x) (ha : PE X e (tE C f)) (hd : (x == ("__debug__" : Str)) = false := by decide) (hcd : (x == ("__classdict__" : Str)) = false := by decide)
    (hbase : attributeBase (.Name x p) "append" X.env (eval (.Name x p) X.env) = eval (.Name x p) X.env := by rfl)
    (hfew : ((backTo cpos (starEach (e :: []) X.env)).all (fun x => !x.1) && (backToKw cpos (keywordEach [] X.env)).all (fun x => x.1.isSome)
      && decide ((e :: ([] : List Expr)).length + ([] : List Keyword).length + (if ([] : List Keyword).isEmpty then 0 else 1) < 30)) = true := by rfl)
    (hline : (apos.endLine == cpos.line) = true := by rfl) (hs : starEach (e :: []) X.env = (false, eval e X.env) :: starEach [] X.env := by rfl) (hplain : (backTo cpos (starEach [] X.env)).any (·.1) = false := by rfl) :
    PE X (.Call (.Attribute (.Name x p) "append" apos) [e] [] cpos) (tE C (dAppend i o f)) := by
  refine PE.w (pe_bm PySem.F.plainAttrs_list PySem.F.slot_list_append PySem.F.type_list_append mt_append (pe_var hN hv hd hcd) (pa_cons ha pa_nil hs) hbase hfew hline hs hplain) fun σ H Q k => ?_
  obtain ⟨⟨q, xs, e1, hp⟩, k⟩ := go_slot k
  refine ⟨.ref q, e1, .inl ⟨rfl, xs, SqL.of hp⟩, ?_⟩
  refine (Go.bindE k).mono fun y H1 h1 => ?_
  obtain ⟨a, b, Z, ρ, vs, as, hb, -, S, k1⟩ := h1
  dsimp only at k1
  split at k1
  · rename_i l hl
    split at k1
    · rename_i hz
      obtain ⟨Z', S'⟩ := Sta.frzTop (vs := vs) (as := as) o S
      obtain ⟨q', xs', e2, hp', lx, S2⟩ := S'.append hl
      rw [e1] at e2
      cases e2
      exact ⟨q, xs', y, rfl, rfl, hp', by rw [lx]; exact hz, k1 _ _ _ (S2.push .non)⟩
    · exact k1.elim
  · exact k1.elim
theorem Sta.extend {K : PySem.W.Frag} {mg : Str → Option Value} {b : Base} {Z H : Hp} {σ : St} {ρ : DEnv} {vs : List V} {as l : List A} {y : V} {ds : List D} (S : Sta K mg b Z H σ ρ (y :: vs) (.v (.lst ds) :: as)) (e : ρ[i]? = some (some (.m l))) :
    ∃ q xs r zs, σ[i]? = some (some (.ref q)) ∧ H q = some (.lst xs) ∧ xs.length = l.length ∧ y = .ref r ∧ H r = some (.lst zs) ∧ zs.length = ds.length ∧ Sta K mg b Z (upd H q (.lst (xs ++ zs))) σ (ρ.set i (some (.m (l ++ ds.map .v)))) vs as := by
  have t := S.top
  cases t with
  | @lst r zs _ h1 h2 =>
    have hr := S.zh _ _ h1
    obtain ⟨q, xs, fl, g1, e1, hp, hl, r1, r2, _, _, k⟩ := Sta.mutL (ws := [.ref r]) (pa := [.v (.lst ds)]) S rfl e
    refine ⟨q, xs, r, zs, e1, hp, hl, rfl, hr, h2.length, k (ws' := []) (pa' := []) (r1.append h2.toA) .nil (fun y => by simp) (fun q hq => by cases hq)⟩
theorem de_extend (hN : X.N[i]? = some x) (hv : Vis X.env.scope x) (ha : PE X e (tE C f)) (hd : (x == ("__debug__" : Str)) = false := by decide) (hcd : (x == ("__classdict__" : Str)) = false := by decide)
    (hbase : attributeBase (.Name x p) "extend" X.env (eval (.Name x p) X.env) = eval (.Name x p) X.env := by rfl)
    (hfew : ((backTo cpos (starEach (e :: []) X.env)).all (fun x => !x.1) && (backToKw cpos (keywordEach [] X.env)).all (fun x => x.1.isSome)
      && decide ((e :: ([] : List Expr)).length + ([] : List Keyword).length + (if ([] : List Keyword).isEmpty then 0 else 1) < 30)) = true := by rfl)
    (hline : (apos.endLine == cpos.line) = true := by rfl) (hs : starEach (e :: []) X.env = (false, eval e X.env) :: starEach [] X.env := by rfl) (hplain : (backTo cpos (starEach [] X.env)).any (·.1) = false := by rfl) :
    PE X (.Call (.Attribute (.Name x p) "extend" apos) [e] [] cpos) (tE C (dExtend i f)) := by
  refine PE.w (pe_bm PySem.F.plainAttrs_list PySem.F.slot_list_extend PySem.F.type_list_extend mt_extend (pe_var hN hv hd hcd) (pa_cons ha pa_nil hs) hbase hfew hline hs hplain) fun σ H Q k => ?_
  obtain ⟨⟨q, xs, e1, hp⟩, k⟩ := go_slot k
  refine ⟨.ref q, e1, .inl ⟨rfl, xs, SqL.of hp⟩, ?_⟩
  refine (Go.bindE k).mono fun y H1 h1 => ?_
  obtain ⟨a, b, Z, ρ, vs, as, hb, -, S, k1⟩ := h1
  dsimp only at k1
  obtain ⟨Z', _, S'⟩ := Sta.freeze (vs := vs) (as := as) S
  generalize a.frz = d at k1 S'
  split at k1
  · rename_i l ds hl
    split at k1
    · rename_i hz
      obtain ⟨q', xs', r, zs, e2, hp', lx, ey, hr, lz, S2⟩ := S'.extend hl
      rw [e1] at e2
      cases e2
      subst ey
      exact ⟨q, r, xs', zs, rfl, rfl, hp', hr, by rw [lx, lz]; exact hz, k1 _ _ _ (S2.push .non)⟩
    · exact k1.elim
  · exact k1.elim
theorem de_popAt (hN : X.N[i]? = some x) (hv : Vis X.env.scope x) (ha : PE X e (tE C f)) (hd : (x == ("__debug__" : Str)) = false := by decide) (hcd : (x == ("__classdict__" : Str)) = false := by decide)
    (hbase : attributeBase (.Name x p) "pop" X.env (eval (.Name x p) X.env) = eval (.Name x p) X.env := by rfl)
    (hfew : ((backTo cpos (starEach (e :: []) X.env)).all (fun x => !x.1) && (backToKw cpos (keywordEach [] X.env)).all (fun x => x.1.isSome)
      && decide ((e :: ([] : List Expr)).length + ([] : List Keyword).length + (if ([] : List Keyword).isEmpty then 0 else 1) < 30)) = true := by rfl)
    (hline : (apos.endLine == cpos.line) = true := by rfl) (hs : starEach (e :: []) X.env = (false, eval e X.env) :: starEach [] X.env := by rfl) (hplain : (backTo cpos (starEach [] X.env)).any (·.1) = false := by rfl) :
    PE X (.Call (.Attribute (.Name x p) "pop" apos) [e] [] cpos) (tE C (dPopAt i f)) := by
  refine PE.w (pe_bm PySem.F.plainAttrs_list PySem.F.slot_list_pop PySem.F.type_list_pop mt_popAt (pe_var hN hv hd hcd) (pa_cons ha pa_nil hs) hbase hfew hline hs hplain) fun σ H Q k => ?_
  obtain ⟨⟨q, xs, e1, hp⟩, k⟩ := go_slot k
  refine ⟨.ref q, e1, .inl ⟨rfl, xs, SqL.of hp⟩, ?_⟩
  refine (Go.bindE k).mono fun y H1 h1 => ?_
  obtain ⟨a, b, Z, ρ, vs, as, hb, -, S, k1⟩ := h1
  dsimp only at k1
  split at k1
  · rename_i l n hl
    split at k1
    · rename_i hz
      split at k1
      · rename_i kk hk
        split at k1
        · rename_i d hd2
          have t := Sta.top (vs := vs) (as := as) S
          cases t
          obtain ⟨q', xs', w, e2, hp', lx, hx, S2⟩ := (Sta.pop (vs := vs) (as := as) S).popat hl hd2
          rw [e1] at e2
          cases e2
          exact ⟨q, xs', _, kk, w, rfl, rfl, hp', hz.1, hz.2, by rw [lx]; exact hk, hx, k1 _ _ _ S2⟩
        · exact k1.elim
      · exact k1.elim
    · exact k1.elim
  · exact k1.elim
theorem ds_setitem (o : Bool) (hN : X.N[i]? = some x) (hv : Vis X.env.scope x) (he : PE X e (tE C f)) (hi : PE X e2 (tE C g)) (hd : (x == ("__debug__" : Str)) = false := by decide) (hcd : (x == ("__classdict__" : Str)) = false := by decide)
    (hsv : ∀ v, assign (.Subscript (.Name x p) e2 pos') X.env v = (do
      let ov ← holding [v] (eval (.Name x p) X.env)
      let iv ← holding [v, ov] (eval e2 X.env)
      standAt pos'
      holding [v, ov, iv] (setItem ov iv v)
      release [v, ov, iv] []) := by intro _; rfl)
    (hs : swapsWithSole [.Subscript (.Name x p) e2 pos'] e pos.line X.env = pure false := by rfl) (hw : swappedStores [.Subscript (.Name x p) e2 pos'] e X.env = pure none := by rfl)
    (h1 : (assignEach [.Subscript (.Name x p) e2 pos'] X.env).map (·.2) = [assign (.Subscript (.Name x p) e2 pos') X.env] := by rfl) : PS X (.Assign [.Subscript (.Name x p) e2 pos'] e pos) (tS C (dSetItem i o f g)) := by
  refine PS.w (ps_asg he (pg_sub (pe_var hN hv hd hcd) hi set_list hsv) hs hw h1) fun D σ H k => ?_
  refine (Go.bindE k).mono fun y H1 ⟨a, k1⟩ => ?_
  obtain ⟨⟨q, xs, e1, hp⟩, k1⟩ := go_slot k1
  refine ⟨.ref q, e1, (Go.bindE k1).mono fun z H2 h2 => ?_⟩
  obtain ⟨c, b, Z, ρ, vs, as, hb, -, S, k2⟩ := h2
  dsimp only at k2
  split at k2
  · rename_i l n hl
    split at k2
    · rename_i kk hk
      have t := Sta.top (vs := y :: vs) (as := a :: as) S
      cases t
      obtain ⟨Z', S'⟩ := Sta.frzTop o (Sta.pop (vs := y :: vs) (as := a :: as) S)
      have hkk : kk < l.length := (ixN_seq hk).2.1
      obtain ⟨q', xs', e3, hp', lx, S2⟩ := S'.setitem hl hkk
      rw [e1] at e3
      cases e3
      exact ⟨q, xs', n, kk, rfl, rfl, hp', by rw [lx]; exact hk, k2 _ _ _ S2⟩
    · exact k2.elim
  · exact k2.elim
/-- x[e], x a list of one's own: an item that is frozen data -/
def dIxOwn (i : Nat) (f : M A) : M A := fun ρ => match ρ[i]? with
  | some (some (.m _)) => (f.bind fun a ρ => match ρ[i]?, a with
    | some (some (.m l)), .v (.int n) => (match atI l n with
      | some (.v d) => .ok (.v d) ρ
      | _ => .bad)
    | _, _ => .bad) ρ
  | _ => .bad
theorem de_ixOwn (hK : X.K = C.K) (hN : X.N[i]? = some x) (hv : Vis X.env.scope x) (ha : PE X e (tE C f)) (hpl : PlainIx e) (hd : (x == ("__debug__" : Str)) = false := by decide) (hcd : (x == ("__classdict__" : Str)) = false := by decide) :
    PE X (.Subscript (.Name x p) e pos) (tE C (dIxOwn i f)) := by
  refine PE.w (pe_ix ix_seq (pe_var hN hv hd hcd) ha hpl) fun σ H Q k => ?_
  obtain ⟨⟨q, xs, e1, hp⟩, k⟩ := go_slot k
  refine ⟨.ref q, e1, (Go.bindE k).mono fun y H1 h1 => ?_⟩
  obtain ⟨a, b, Z, ρ, vs, as, hb, -, S, k1⟩ := h1
  dsimp only at k1
  split at k1
  · rename_i l n hl
    split at k1
    · rename_i d hat
      have t := Sta.top (vs := vs) (as := as) S
      cases t
      obtain ⟨q', xs', fl, e2, hp', lx, r⟩ := Sta.readL S hl
      rw [e1] at e2
      cases e2
      unfold atI at hat
      cases ek : ixN l.length n with
      | none => rw [ek] at hat; cases hat
      | some kk =>
        rw [ek] at hat
        obtain ⟨w, fa, hw, ra, _⟩ := r.at (i := kk) hat
        cases ra with
        | v rd =>
          refine .inl ⟨q, xs', n, w, rfl, rfl, SqL.of hp', ?_, k1 _ _ _ ((Sta.pop (vs := vs) (as := as) S).push rd)⟩
          unfold atI
          rw [lx, ek]
          exact hw
    · exact k1.elim
  · exact k1.elim
/-- len(x), x a list of one's own -/
def dLenOwn (i : Nat) : M A := fun ρ => match ρ[i]? with
  | some (some (.m l)) => .ok (.v (.int l.length)) ρ
  | _ => .bad
theorem de_lenOwn {p0 : Pos} (hg : Gl X "len") (hm : X.mg "len" = none) (hK : X.K = C.K) (hN : X.N[i]? = some x) (hv : Vis X.env.scope x) (hd : (x == ("__debug__" : Str)) = false := by decide) (hcd : (x == ("__classdict__" : Str)) = false := by decide)
    (he : starEach (.Name x p :: []) X.env = (false, eval (.Name x p) X.env) :: starEach [] X.env := by rfl) (hpl : (backTo pos (starEach [] X.env)).any (·.1) = false := by rfl) : PE X (.Call (.Name "len" p0) [.Name x p] [] pos) (tE C (dLenOwn i)) := by
  refine PE.w (pe_callB cl_len hg hm PySem.boot_len (pa_cons (pe_var hN hv hd hcd) pa_nil he) (by decide) (by decide) he hpl) fun σ H Q ⟨b, Z, ρ, vs, as, hb, _, S, k⟩ => ?_
  unfold dLenOwn at k
  split at k
  · rename_i l hl
    obtain ⟨q, xs, fl, e1, hp, lx, r⟩ := Sta.readL S hl
    exact ⟨.ref q, e1, .inl ⟨q, xs, rfl, .inl (SqL.of hp), by rw [lx]; exact k _ _ _ (S.push (.int _))⟩⟩
  · exact k.elim
/-- a module's constant -/
theorem de_glob {d : D} {v : V} {u : Value} (hg : Gl X x) (hm : X.mg x = some u) (r : RelV v u) (rd : ∀ Z, RepD C.K C.mg Z v d) (hd : (x == ("__debug__" : Str)) = false := by decide) : PE X (.Name x pos) (tE C (dC d)) :=
  PE.w (pe_glob hg hm r hd) fun σ H Q k => go_pure k rd
end
end DD

namespace DD
open PySem PySem.Spec L2
open PyProof.Rows hiding St
variable [LamN]

def intA : A → Option Int
  | .v (.int i) => some i
  | _ => none
theorem intA_of {a : A} {i : Int} (h : intA a = some i) : a = .v (.int i) := by
  unfold intA at h
  split at h
  · cases h; rfl
  · cases h
def two2 (a c : A) : Option (Int × Int) := (intA a).bind fun i => (intA c).map fun j => (i, j)
theorem two2_of {a c : A} {z : Int × Int} (h : two2 a c = some z) : a = .v (.int z.1) ∧ c = .v (.int z.2) := by
  unfold two2 at h
  cases e1 : intA a with
  | none => rw [e1] at h; cases h
  | some i =>
    cases e2 : intA c with
    | none => rw [e1, e2] at h; cases h
    | some j =>
      rw [e1, e2] at h
      cases h
      exact ⟨intA_of e1, intA_of e2⟩
/-- a op b op' c of ints -/
def dChain (p q : Int → Int → Bool) (f g h : M A) : M A := f.bind fun a => g.bind fun c => (ofO (two2 a c)).bind fun z => if p z.1 z.2 = true then h.bind fun d => ofO ((intA d).map fun k => .v (.bl (q z.2 k))) else M.pure (.v (.bl false))
section
variable {X : Cx} {C : SC} {a b c : Expr} {f g h : M A} {pos : Pos} {op op' : CmpOp} {p q : Int → Int → Bool}
theorem go_chain {σ : St} {H : Hp} {Q : VK} (k : tE C (dChain p q f g h) σ H Q) : tChain (rI0 fun i j => .bl (p i j)) (rI0 fun i j => .bl (q i j)) (tE C f) (tE C g) (tE C h) σ H Q := by
  refine (Go.bindE k).mono fun x H1 ⟨u, k1⟩ => (Go.bindE k1).mono fun y H2 ⟨w, b, Z, ρ, vs, as, hb, hl, S, k2⟩ => ?_
  have k2a := R.sat_bind k2
  clear k2
  cases e : two2 u w with
  | none => rw [e] at k2a; exact k2a.elim
  | some z =>
    rw [e] at k2a
    have k2b : ((if p z.1 z.2 = true then h.bind fun d => ofO ((intA d).map fun k => A.v (.bl (q z.2 k))) else M.pure (.v (.bl false))) ρ).sat (finE C σ Q b vs as) (XPost C b vs as) := k2a
    clear k2a
    obtain ⟨e1, e2⟩ := two2_of e
    subst e1 e2
    have t1 := Sta.top (vs := x :: vs) (as := _ :: as) S
    have t2 := Sta.top2 (vs := vs) (as := as) S
    cases t1
    cases t2
    refine ⟨_, _, rfl, rfl, _, rfl, ?_⟩
    have S0 := Sta.pop (vs := vs) (as := as) (Sta.pop (vs := _ :: vs) (as := _ :: as) S)
    by_cases hp : p z.1 z.2 = true
    · rw [if_pos hp] at k2b ⊢
      have k3 : tE C h σ H2 fun x H' => ∃ d, Go C (finE C σ Q) [x] [d] (ofO ((intA d).map fun k => A.v (.bl (q z.2 k)))) σ H' := Go.bindE (ps := []) (pa := []) ⟨b, Z, ρ, vs, as, hb, rfl, S0, k2b⟩
      refine k3.mono fun w' H3 ⟨d, k4⟩ => ?_
      obtain ⟨res, e, b', Z', ρ', vs', as', hb', _, S', k5⟩ := go_ofO k4
      cases ed : intA d with
      | none => rw [ed] at e; cases e
      | some n =>
        rw [ed] at e
        cases e
        have := intA_of ed
        subst this
        have t := Sta.top (vs := vs') (as := as') S'
        cases t
        exact ⟨_, _, rfl, rfl, k5 _ _ _ ((Sta.pop (vs := vs') (as := as') S').push (.bl _))⟩
    · rw [if_neg hp] at k2b ⊢
      exact k2b _ _ _ (S0.push (.bl _))
theorem de_chain (ho : OpR X (compareOp op) (rI0 fun i j => .bl (p i j))) (ho' : OpR X (compareOp op') (rI0 fun i j => .bl (q i j))) (ha : PE X a (tE C f)) (hb : PE X b (tE C g)) (hc : PE X c (tE C h)) (hm : lastMarks [op, op'] [b, c] = false := by with_unfolding_all rfl) :
    PE X (.Compare a [op, op'] [b, c] pos) (tE C (dChain p q f g h)) := PE.w (pe_chain ho ho' ha hb hc hm) fun σ H Q k => go_chain k
theorem dt_chain (ho : OpR X (compareOp op) (rI0 fun i j => .bl (p i j))) (ho' : OpR X (compareOp op') (rI0 fun i j => .bl (q i j))) (ha : PE X a (tE C f)) (hb : PE X b (tE C g)) (hc : PE X c (tE C h)) (hm : lastMarks [op, op'] [b, c] = false := by with_unfolding_all rfl) :
    PT X (.Compare a [op, op'] [b, c] pos) (tT C (dTest (dChain p q f g h))) := PT.w (pt_chain ho ho' ha hb hc hm) fun σ H Q k => go_chain (go_test k)
end

section
variable {X : Cx} {C : SC}
theorem xv (i : Nat) {x : Str} {pos : Pos} (hN : X.N[i]? = some x := by rfl) (hv : Vis X.env.scope x := by first | exact Or.inl rfl | exact Or.inr (Or.inl rfl) | exact Or.inr (Or.inr rfl)) (hd : (x == ("__debug__" : Str)) = false := by decide)
    (hcd : (x == ("__classdict__" : Str)) = false := by decide) : PE X (.Name x pos) (tE C (dVar i)) := de_var hN hv hd hcd
end
/-- a def that may be called: from its place behind the top -/
theorem cal_mk {P : Program} {w : World} {K : PySem.W.Frag} {mg : Str → Option Value} {base : Heap} {k : Nat} {x : Str} {F : Fn} {f : Addr} {fd : FuncData} {ps : List Str} (G : FnOk P w K mg base CX0 k f fd ps (fun vs H Q _ => spD K mg F vs H Q fun _ _ _ => False))
    (m : mg x = some (.ref f)) (kp : PySem.W.keepIn K (.ref f) = true) (b : Binds K fd ps []) : CalD P w K mg base k x F [] := ⟨f, fd, ps, [], [], G, m, kp, b, .nil, fun _ => .nil⟩
/-- what stands of a def behind the top -/
structure Has (K : PySem.W.Frag) (mg : Str → Option Value) (x : Str) (st : Stmt) (f : Addr) (fd : FuncData) (ps : List Str) : Prop where
  fn : Fun K x x st f fd
  m : mg x = some (.ref f)
  b : Binds K fd ps []
theorem cal_of {P : Program} {w : World} {K : PySem.W.Frag} {mg : Str → Option Value} {base : Heap} {k n N : Nat} {x : Str} {st : Stmt} {f : Addr} {fd : FuncData} {Ns ps : List Str} {pn : List Nat} {body : M Flow} {F : Fn} (h : Has K mg x st f fd ps) (S : FnScope Ns ps (defScope st))
    (hF : F = dFn n N pn body) (hn : ps.length = n) (hN : Ns.length = N)
    (hb : ∀ (cdv : Value) (A : Around) (outer : List PySem.Env) (s : Shared) (H : Hp) (E : XK), Room k (A.deeper (envOfC x (defScope st) s.heap.objs.size f cdv)) →
      PSs (cxOf CX0 P w K mg base Ns x (defScope st) f cdv A outer s H E).nox (defBody st) (tS ⟨K, mg, fun _ _ _ _ => False, pn, []⟩ body)) : CalD P w K mg base (k + 1) x F [] := by
  subst hF hn hN
  exact cal_mk (fn_ok h.fn S (fun _ _ => rfl) hb) h.m h.fn.kp h.b
theorem CalD.mono {P : Program} {w : World} {K : PySem.W.Frag} {mg : Str → Option Value} {base : Heap} {j k : Nat} {x : Str} {F : Fn} {ds : List D} (c : CalD P w K mg base j x F ds) (h : j ≤ k) : CalD P w K mg base k x F ds :=
  let ⟨f, fd, ps, us, ys, G, r⟩ := c.ex
  ⟨f, fd, ps, us, ys, G.mono h, r⟩
end DD

namespace DD
open PySem PySem.Spec L2
open PyProof.Rows hiding St
variable [LamN]

/-- what stands of a def behind the top -/
structure Def (K : PySem.W.Frag) (mg : Str → Option Value) (x : Str) (st : Stmt) (ps : List Str) (f : Addr) (fd : FuncData) : Prop where
  fn : Fun K x x st f fd
  m : mg x = some (.ref f)
  b : ∀ us : List Value, us.length = ps.length → bindArgs fd ⟨us, []⟩ = pure (ps.zip us)
def Def0 (K : PySem.W.Frag) (mg : Str → Option Value) (x : Str) (st : Stmt) (ps : List Str) : Prop := ∃ f fd, Def K mg x st ps f fd
theorem def_ex {K : PySem.W.Frag} {h : Heap} {mg : Str → Option Value} {x : Str} {st : Stmt} {f : Addr} {oc : Value} {od an : Option Addr} {osl : Array (Option Value)} {kV dc pm cd ct : Value} {ps : List Str} (X : K.In h) (G : h.Ns mainGlobals mg)
    (a : PySem.W.nsIn K mainGlobals x = some (some (.ref f))) (l : K.lookup f = some ⟨oc, od, .func (PySem.W.fnOf x x (defArgs st) (defBody st) (defScope st) .none kV dc pm an cd ct), osl⟩) (c : PySem.W.codeIn K cd x = true) (k : PySem.W.keepIn K (.ref f) = true)
    (b : ∀ (kV doc pm : Value) (an : Option Addr) (cdv ct : Value) (us : List Value), us.length = ps.length → bindArgs (PySem.W.fnOf x x (defArgs st) (defBody st) (defScope st) .none kV doc pm an cdv ct) ⟨us, []⟩ = pure (ps.zip us)) : Def0 K mg x st ps :=
  ⟨f, _, fun_mk l c k, PySem.W.mg_of X G a, b _ _ _ _ _ _⟩
theorem fn_def {P : Program} {w : World} {K : PySem.W.Frag} {mg : Str → Option Value} {base : Heap} {k n N : Nat} {x : Str} {st : Stmt} {f : Addr} {fd : FuncData} {Ns ps : List Str} {pn : List Nat} {body : M Flow} {F : Fn} (h : Def K mg x st ps f fd) (S : FnScope Ns ps (defScope st))
    (hF : F = dFn n N pn body) (hn : ps.length = n) (hN : Ns.length = N)
    (hb : ∀ (cdv : Value) (A : Around) (outer : List PySem.Env) (s : Shared) (H : Hp) (E : XK), Room k (A.deeper (envOfC x (defScope st) s.heap.objs.size f cdv)) →
      PSs (cxOf CX0 P w K mg base Ns x (defScope st) f cdv A outer s H E).nox (defBody st) (tS ⟨K, mg, fun _ _ _ _ => False, pn, []⟩ body)) : FnOk P w K mg base CX0 (k + 1) f fd ps (fun vs H Q _ => spD K mg F vs H Q fun _ _ _ => False) := by
  subst hF hn hN
  exact fn_ok h.fn S (fun _ _ => rfl) hb
theorem cal_def {P : Program} {w : World} {K : PySem.W.Frag} {mg : Str → Option Value} {base : Heap} {k n N : Nat} {x : Str} {st : Stmt} {Ns ps : List Str} {pn : List Nat} {body : M Flow} {F : Fn} (h0 : Def0 K mg x st ps) (S : FnScope Ns ps (defScope st))
    (hF : F = dFn n N pn body) (hn : ps.length = n) (hN : Ns.length = N)
    (hb : ∀ (f : Addr) (cdv : Value) (A : Around) (outer : List PySem.Env) (s : Shared) (H : Hp) (E : XK), Room k (A.deeper (envOfC x (defScope st) s.heap.objs.size f cdv)) →
      PSs (cxOf CX0 P w K mg base Ns x (defScope st) f cdv A outer s H E).nox (defBody st) (tS ⟨K, mg, fun _ _ _ _ => False, pn, []⟩ body)) : CalD P w K mg base (k + 1) x F [] := by
  obtain ⟨f, fd, h⟩ := h0
  exact cal_mk (fn_def h S hF hn hN (hb f)) h.m h.fn.kp (.all h.b)

/-- a name of the top that stands for constant data -/
structure Glob (K : PySem.W.Frag) (mg : Str → Option Value) (x : Str) (d : D) : Prop where
  ex : ∃ v u, mg x = some u ∧ RelV v u ∧ ∀ Z, RepD K mg Z v d
theorem de_globC {X : Cx} {C : SC} {x : Str} {pos : Pos} {d : D} (g : Glob X.K X.mg x d) (hg : Gl X x) (hK : X.K = C.K) (hM : X.mg = C.mg) (hd : (x == ("__debug__" : Str)) = false := by decide) : PE X (.Name x pos) (tE C (dC d)) := by
  obtain ⟨v, u, m, r, rd⟩ := g.ex
  rw [hK, hM] at rd
  exact de_glob hg m r rd hd
theorem glob_tup {K : PySem.W.Frag} {h : Heap} {mg : Str → Option Value} {x : Str} {a : Addr} {o : Obj} {its : Array Value} {n : Nat} {vs : List V} {ds : List D} (X : K.In h) (G : h.Ns mainGlobals mg) (e : PySem.W.nsIn K mainGlobals x = some (some (.ref a))) (l : K.lookup a = some o)
    (c : o.cls = .type "tuple") (d : o.data = .seq its n) (z : its.size ≤ sizeLine) (v : Vals vs its.toList) (r : ∀ Z, RepDs K mg Z vs ds) : Glob K mg x (.tup ds) :=
  ⟨.ref a, .ref a, PySem.W.mg_of X G e, rfl, fun Z => .tup (.inr ⟨o, its, n, l, c, d, z, v⟩) (r Z)⟩
theorem glob_int {K : PySem.W.Frag} {h : Heap} {mg : Str → Option Value} {x : Str} {i : Int} {t : Nat} (X : K.In h) (G : h.Ns mainGlobals mg) (e : PySem.W.nsIn K mainGlobals x = some (some (.int i t))) : Glob K mg x (.int i) :=
  ⟨.int i, .int i t, PySem.W.mg_of X G e, ⟨t, rfl⟩, fun Z => .int i⟩

/-- the law's own head: it is given the script, and it returns True -/
def spScript (K : PySem.W.Frag) (n : Nat) : Sp := fun vs H Q _ => ∃ (a : Addr) (ns : List Int), vs = [.ref a] ∧ ns.length ≤ n ∧ (∀ z ∈ ns, Builtin.Int.intBits z ≤ 1048576) ∧ SqL K H a (ns.map V.int) ∧ LamX.Tabs (tabT K) H ∧ ∀ v H', v = .bl true → Q v H'
theorem repDs_ints {K : PySem.W.Frag} {mg : Str → Option Value} {Z : Hp} : ∀ ns : List Int, RepDs K mg Z (ns.map V.int) (ns.map D.int)
  | [] => .nil
  | _ :: ns => .cons (.int _) (repDs_ints ns)
def script (ns : List Int) : A := .v (.fz (ns.map .int))
theorem law_sp {K : PySem.W.Frag} {mg : Str → Option Value} {F : Fn} {n : Nat} (h : ∀ ns : List Int, ns.length ≤ n → (∀ z ∈ ns, Builtin.Int.intBits z ≤ 1048576) → ∃ l, F [script ns] = .ok (.v (.bl true)) l) (vs : List V) (H : Hp) (Q : VK) (E : XK) (p : spScript K n vs H Q E) :
    spD K mg F vs H Q fun _ _ _ => False := by
  obtain ⟨a, ns, rfl, hl, hb, hS, tb, q⟩ := p
  obtain ⟨l, e⟩ := h ns hl hb
  refine ⟨noT H, [script ns], [[]], ⟨noT_same, tb, noT_nt⟩, .cons (.v (.fz (noT_seq hS) (repDs_ints ns))) .nil, fun y => by simp, fun a ha => by simp at ha, ?_⟩
  rw [e]
  intro Z' H' v fr fs' _ r _ _ _ _ _
  cases r with
  | v r => cases r; exact q _ _ rfl
theorem law_end {l : PySem.W.OpenLaw} {w : World} {K : PySem.W.Frag} {mg : Str → Option Value} {fa f : Addr} {fd : FuncData} {x y : Str} {st : Stmt} {k n : Nat} {F : Fn} (hfa : mg x = some (.ref fa)) (d : Def K mg x st [y] f fd)
    (hF : ∀ base : Heap, FnOk l.prog w K mg base CX0 k f fd [y] (fun vs H Q _ => spD K mg F vs H Q fun _ _ _ => False))
    (h : ∀ ns : List Int, ns.length ≤ n → (∀ z ∈ ns, Builtin.Int.intBits z ≤ 1048576) → ∃ l, F [script ns] = .ok (.v (.bl true)) l) :
    ∃ fd : FuncData, (∀ (s : Shared) (v : Value), BindsTo s fd ⟨[v], []⟩ [(y, v)]) ∧ ∀ base : Heap, K.In base → base.Ns mainGlobals mg → FnOk l.prog w K mg base CX0 k fa fd [y] (spScript K n) := by
  have e := hfa.symm.trans d.m
  cases e
  exact ⟨fd, fun s v => .of_eq (d.b [v] rfl), fun base _ _ => (hF base).imp fun vs H Q E p => law_sp h vs H Q E p⟩
end DD

namespace DD
open PySem PySem.Spec L2
open PyProof.Rows hiding St
variable [LamN]

@[irreducible] def Wp {α : Type} (r : R α) (Q : α → DEnv → Prop) (E : Ex → DEnv → Prop) : Prop := r.sat Q E
def Wo {α : Type} (o : Option α) (P : α → Prop) : Prop := ∃ a, o = some a ∧ P a
def Wb (a : A) (P : Bool → Prop) : Prop := ∃ k, a = .v (.bl k) ∧ P k
def Wk (k : Bool) (P Q : Prop) : Prop := (k = true → P) ∧ (k = false → Q)
def Wf (fl : Flow) (N O : Prop) : Prop := match fl with
  | .nx => N
  | _ => O
def Wlp (fl : Flow) (C B T : Prop) : Prop := match fl with
  | .nx => C
  | .ct => C
  | .bk => B
  | .ret _ => T
def Wr (fl : Flow) (P : A → Prop) : Prop := match fl with
  | .nx => P (.v .non)
  | .ret a => P a
  | _ => False
def FR.sat (r : FR) (Q : A → List A → Prop) (E : Ex → List A → Prop) : Prop := match r with
  | .ok a l => Q a l
  | .exc e l => E e l
  | .bad => False
@[irreducible] def Wc (r : FR) (Q : A → List A → Prop) (E : Ex → List A → Prop) : Prop := r.sat Q E
def Wix (o : Option (Option A)) (a : A) (P : D → Prop) : Prop := ∃ l n d, o = some (some (.m l)) ∧ a = .v (.int n) ∧ atI l n = some (.v d) ∧ P d
def Wap (o : Option (Option A)) (P : List A → Prop) : Prop := ∃ l, o = some (some (.m l)) ∧ l.length < sizeLine ∧ P l
def Wxt (o : Option (Option A)) (a : A) (P : List A → Prop) : Prop := ∃ l ds, o = some (some (.m l)) ∧ a.frz = .lst ds ∧ l.length + ds.length ≤ sizeLine ∧ P (l ++ ds.map .v)
def Wmm (o : Option (Option A)) (P : Prop) : Prop := ∃ l, o = some (some (.m l)) ∧ P
def Wst (o : Option (Option A)) (a : A) (c : A) (P : List A → Prop) : Prop := ∃ l n k, o = some (some (.m l)) ∧ c = .v (.int n) ∧ ixN l.length n = some k ∧ P (l.set k a)
def Win (a : A) (P : Int → Prop) : Prop := ∃ n, a = .v (.int n) ∧ P n
theorem win {n : Int} {P : Int → Prop} (h : P n) : Win (.v (.int n)) P := ⟨n, rfl, h⟩
theorem wix {o : Option (Option A)} {l : List A} {n : Int} {d : D} {P : D → Prop} (e : o = some (some (.m l))) (e2 : atI l n = some (.v d)) (h : P d) : Wix o (.v (.int n)) P := ⟨l, n, d, e, rfl, e2, h⟩
theorem wap {o : Option (Option A)} {l : List A} {P : List A → Prop} (e : o = some (some (.m l))) (z : l.length < sizeLine) (h : P l) : Wap o P := ⟨l, e, z, h⟩
theorem wxt {o : Option (Option A)} {a : A} {l : List A} {ds : List D} {P : List A → Prop} (e : o = some (some (.m l))) (e2 : a.frz = .lst ds) (z : l.length + ds.length ≤ sizeLine) (h : P (l ++ ds.map .v)) : Wxt o a P := ⟨l, ds, e, e2, z, h⟩
theorem wmm {o : Option (Option A)} {l : List A} {P : Prop} (e : o = some (some (.m l))) (h : P) : Wmm o P := ⟨l, e, h⟩
theorem wst {o : Option (Option A)} {a : A} {n : Int} {k : Nat} {l : List A} {P : List A → Prop} (e : o = some (some (.m l))) (z : ixN l.length n = some k) (h : P (l.set k a)) : Wst o a (.v (.int n)) P := ⟨l, n, k, e, rfl, z, h⟩
theorem Wp.mk {α : Type} {r : R α} {Q : α → DEnv → Prop} {E : Ex → DEnv → Prop} (h : r.sat Q E) : Wp r Q E := by unfold Wp; exact h
theorem Wp.out {α : Type} {r : R α} {Q : α → DEnv → Prop} {E : Ex → DEnv → Prop} (h : Wp r Q E) : r.sat Q E := by unfold Wp at h; exact h
theorem Wc.out {r : FR} {Q : A → List A → Prop} {E : Ex → List A → Prop} (h : Wc r Q E) : r.sat Q E := by unfold Wc at h; exact h
theorem Wc.ok {a : A} {l : List A} {Q : A → List A → Prop} {E : Ex → List A → Prop} (h : Q a l) : Wc (.ok a l) Q E := by unfold Wc; exact h
theorem Wc.exc {a : Ex} {l : List A} {Q : A → List A → Prop} {E : Ex → List A → Prop} (h : E a l) : Wc (.exc a l) Q E := by unfold Wc; exact h
section
variable {α β : Type} {ρ : DEnv} {E : Ex → DEnv → Prop}
theorem wp_bind {f : M α} {g : α → M β} {Q : β → DEnv → Prop} (h : Wp (f ρ) (fun a ρ1 => Wp (g a ρ1) Q E) E) : Wp ((M.bind f g) ρ) Q E := by
  unfold M.bind
  unfold Wp at *
  cases e : f ρ with
  | ok a ρ1 => rw [e] at h; exact h
  | exc x ρ1 => rw [e] at h; exact h
  | bad => rw [e] at h; exact h
theorem wp_mono {r : R α} {Q Q' : α → DEnv → Prop} {E' : Ex → DEnv → Prop} (h : Wp r Q E) (k : ∀ a ρ, Q a ρ → Q' a ρ) (x : ∀ e ρ, E e ρ → E' e ρ) : Wp r Q' E' := by with_unfolding_all exact (R.sat_mono h k x)
theorem wp_ofO {o : Option α} {Q : α → DEnv → Prop} (h : Wo o fun a => Q a ρ) : Wp (ofO o ρ) Q E := by
  with_unfolding_all
    obtain ⟨a, e, h⟩ := h
    subst e
    exact h
theorem wp_pure {a : α} {Q : α → DEnv → Prop} (h : Q a ρ) : Wp (M.pure a ρ) Q E := by with_unfolding_all exact (h)
theorem w_var {i : Nat} {d : D} {Q : A → DEnv → Prop} (e : ρ[i]? = some (some (.v d))) (h : Q (.v d) ρ) : Wp (dVar i ρ) Q E := by
  with_unfolding_all
    unfold dVar
    rw [e]
    exact h
theorem w_c {d : D} {Q : A → DEnv → Prop} (h : Q (.v d) ρ) : Wp (dC d ρ) Q E := by with_unfolding_all exact (h)
variable {f g h f1 : M A} {fs : M (List A)} {c c1 : M Bool} {F G : M Flow} {Q : A → DEnv → Prop} {QB : Bool → DEnv → Prop} {QL : List A → DEnv → Prop} {QF : Flow → DEnv → Prop} {QD : List D → DEnv → Prop} {QV : List AV → DEnv → Prop}
theorem w_op2 {op : A → A → Option A} (k : Wp (f ρ) (fun a ρ1 => Wp (g ρ1) (fun c ρ2 => Wo (op a c) fun r => Q r ρ2) E) E) : Wp (dOp2 op f g ρ) Q E := by with_unfolding_all exact (wp_bind (wp_mono k (fun _ _ k => wp_bind (wp_mono k (fun _ _ k => wp_ofO k) fun _ _ z => z)) fun _ _ z => z))
theorem w_op1 {op : A → Option A} (k : Wp (f ρ) (fun a ρ1 => Wo (op a) fun r => Q r ρ1) E) : Wp (dOp1 op f ρ) Q E := by with_unfolding_all exact (wp_bind (wp_mono k (fun _ _ k => wp_ofO k) fun _ _ z => z))
theorem w_test (k : Wp (f ρ) (fun a ρ1 => Wb a fun b => QB b ρ1) E) : Wp (dTest f ρ) QB E := by with_unfolding_all exact (wp_bind (wp_mono k (fun _ _ ⟨b, e, k⟩ => by subst e; exact k) fun _ _ z => z))
theorem wb {k : Bool} {P : Bool → Prop} (h : P k) : Wb (.v (.bl k)) P := ⟨k, rfl, h⟩
theorem w_nil (k : QL [] ρ) : Wp (dNil ρ) QL E := by with_unfolding_all exact (k)
theorem w_cons (k : Wp (f ρ) (fun a ρ1 => Wp (fs ρ1) (fun l ρ2 => QL (a :: l) ρ2) E) E) : Wp (dCons f fs ρ) QL E := by with_unfolding_all exact (wp_bind (wp_mono k (fun _ _ k => wp_bind (wp_mono k (fun _ _ k => k) fun _ _ z => z)) fun _ _ z => z))
theorem w_tup (k : Wp (fs ρ) (fun l ρ1 => l.length ≤ sizeLine ∧ Q (.v (.tup (frzs l))) ρ1) E) : Wp (dTup fs ρ) Q E := by with_unfolding_all exact (wp_bind (wp_mono k (fun _ _ k => by rw [if_pos k.1]; exact k.2) fun _ _ z => z))
theorem w_lst (k : Wp (fs ρ) (fun l ρ1 => l.length ≤ sizeLine ∧ Q (.m l) ρ1) E) : Wp (dLst fs ρ) Q E := by with_unfolding_all exact (wp_bind (wp_mono k (fun _ _ k => by rw [if_pos k.1]; exact k.2) fun _ _ z => z))
theorem wk_ite {k : Bool} {f g : M α} {Q : α → DEnv → Prop} (h : Wk k (Wp (f ρ) Q E) (Wp (g ρ) Q E)) : Wp ((if k = true then f else g) ρ) Q E := by
  cases k with
  | true => exact h.1 rfl
  | false => exact h.2 rfl
theorem w_if (k : Wp (c ρ) (fun b ρ1 => Wk b (Wp (f ρ1) Q E) (Wp (g ρ1) Q E)) E) : Wp (dIf c f g ρ) Q E := by with_unfolding_all exact (wp_bind (wp_mono k (fun _ _ k2 => wk_ite k2) fun _ _ z => z))
theorem w_andT (k : Wp (c ρ) (fun b ρ1 => Wk b (Wp (c1 ρ1) QB E) (QB false ρ1)) E) : Wp (dAndT c c1 ρ) QB E := by with_unfolding_all exact (wp_bind (wp_mono k (fun b ρ1 k2 => wk_ite (f := c1) (g := M.pure false) k2) fun _ _ z => z))
theorem w_orT (k : Wp (c ρ) (fun b ρ1 => Wk b (QB true ρ1) (Wp (c1 ρ1) QB E)) E) : Wp (dOrT c c1 ρ) QB E := by with_unfolding_all exact (wp_bind (wp_mono k (fun b ρ1 k2 => wk_ite (f := M.pure true) (g := c1) k2) fun _ _ z => z))
theorem w_notT (k : Wp (c ρ) (fun b ρ1 => QB (!b) ρ1) E) : Wp (dNotT c ρ) QB E := by with_unfolding_all exact (wp_bind k)
theorem w_andV (k : Wp (f ρ) (fun a ρ1 => Wb a fun b => Wk b (Wp (g ρ1) Q E) (Q (.v (.bl false)) ρ1)) E) : Wp (dAndV f g ρ) Q E := by with_unfolding_all exact (wp_bind (w_test (wp_mono k (fun _ _ ⟨b, e, k2⟩ => ⟨b, e, wk_ite (f := g) (g := M.pure _) k2⟩) fun _ _ z => z)))
theorem w_orV (k : Wp (f ρ) (fun a ρ1 => Wb a fun b => Wk b (Q (.v (.bl true)) ρ1) (Wp (g ρ1) Q E)) E) : Wp (dOrV f g ρ) Q E := by with_unfolding_all exact (wp_bind (w_test (wp_mono k (fun _ _ ⟨b, e, k2⟩ => ⟨b, e, wk_ite (f := M.pure _) (g := g) k2⟩) fun _ _ z => z)))
theorem w_notV (k : Wp (f ρ) (fun a ρ1 => Wb a fun b => Q (.v (.bl (!b))) ρ1) E) : Wp (dNotV f ρ) Q E := by with_unfolding_all exact (wp_bind (w_test (wp_mono k (fun _ _ k => k) fun _ _ z => z)))
theorem wk_t {P Q : Prop} (h : P) : Wk true P Q := ⟨fun _ => h, fun e => nomatch e⟩
theorem wk_f {P Q : Prop} (h : Q) : Wk false P Q := ⟨fun e => (nomatch e), fun _ => h⟩
theorem wk_d {p : Prop} [Decidable p] {P Q : Prop} (h : p → P) (g : ¬p → Q) : Wk (decide p) P Q := ⟨fun e => h (of_decide_eq_true e), fun e => g (of_decide_eq_false e)⟩
theorem wk_n {k : Bool} {P Q : Prop} (h : Wk k Q P) : Wk (!k) P Q := by
  cases k with
  | true => exact ⟨fun e => (nomatch e), fun _ => h.1 rfl⟩
  | false => exact ⟨fun _ => h.2 rfl, fun e => nomatch e⟩
theorem wk_b {k : Bool} {P Q : Prop} (h : k = true → P) (g : k = false → Q) : Wk k P Q := ⟨h, g⟩
theorem w_set {own : Bool} {i : Nat} (k : Wp (f ρ) (fun a ρ1 => i < ρ1.length ∧ QF .nx (ρ1.set i (some (frzB own a)))) E) : Wp (dSet own i f ρ) QF E := by with_unfolding_all exact (wp_bind (wp_mono k (fun _ _ k => by rw [if_pos k.1]; exact k.2) fun _ _ z => z))
theorem w_expr (k : Wp (f ρ) (fun _ ρ1 => QF .nx ρ1) E) : Wp (dExpr f ρ) QF E := by with_unfolding_all exact (wp_bind k)
theorem w_ret (k : Wp (f ρ) (fun a ρ1 => QF (.ret a) ρ1) E) : Wp (dRet f ρ) QF E := by with_unfolding_all exact (wp_bind k)
theorem w_retN (k : QF (.ret (.v .non)) ρ) : Wp (dRetN ρ) QF E := by with_unfolding_all exact (k)
theorem w_skip (k : QF .nx ρ) : Wp (dSkip ρ) QF E := by with_unfolding_all exact (k)
theorem w_break (k : QF .bk ρ) : Wp (dBreak ρ) QF E := by with_unfolding_all exact (k)
theorem w_cont (k : QF .ct ρ) : Wp (dCont ρ) QF E := by with_unfolding_all exact (k)
theorem w_seq (k : Wp (F ρ) (fun fl ρ1 => Wf fl (Wp (G ρ1) QF E) (QF fl ρ1)) E) : Wp (dSeq F G ρ) QF E := by with_unfolding_all exact (wp_bind (wp_mono k (fun fl _ k => by cases fl <;> exact k) fun _ _ z => z))
theorem wf_nx {N O : Prop} (h : N) : Wf .nx N O := h
theorem wf_ret {a : A} {N O : Prop} (h : O) : Wf (.ret a) N O := h
theorem wf_bk {N O : Prop} (h : O) : Wf .bk N O := h
theorem wf_ct {N O : Prop} (h : O) : Wf .ct N O := h
theorem wl_nx {C B T : Prop} (h : C) : Wlp .nx C B T := h
theorem wl_ct {C B T : Prop} (h : C) : Wlp .ct C B T := h
theorem wl_bk {C B T : Prop} (h : B) : Wlp .bk C B T := h
theorem wl_ret {a : A} {C B T : Prop} (h : T) : Wlp (.ret a) C B T := h
theorem wr_nx {P : A → Prop} (h : P (.v .non)) : Wr .nx P := h
theorem wr_ret {a : A} {P : A → Prop} (h : P a) : Wr (.ret a) P := h
theorem w_ifS (k : Wp (c ρ) (fun b ρ1 => Wk b (Wp (F ρ1) QF E) (Wp (G ρ1) QF E)) E) : Wp (dIfS c F G ρ) QF E := by with_unfolding_all exact (wp_bind (wp_mono k (fun _ _ k => wk_ite k) fun _ _ z => z))
theorem w_move {i : Nat} {a : A} (e : ρ[i]? = some (some a)) (h : Q a (ρ.set i none)) : Wp (dMove i ρ) Q E := by
  with_unfolding_all
    unfold dMove
    rw [e]
    exact h
theorem w_frz {i : Nat} {a : A} {F : M α} {Q : α → DEnv → Prop} (e : ρ[i]? = some (some a)) (k : Wp (F (ρ.set i (some (.v a.frz)))) Q E) : Wp (dFrz i F ρ) Q E := by
  with_unfolding_all
    unfold dFrz frzSlot
    rw [e]
    exact k
theorem w_for {src : M (List D)} {gg : D → M Unit} (k : Wp (src ρ) (fun ds ρ1 => Wp (forL gg F ds ρ1) QF E) E) : Wp (dFor src gg F ρ) QF E := by with_unfolding_all exact (wp_bind k)
theorem w_forL {gg : D → M Unit} (I : List D → DEnv → Prop) : ∀ {ds : List D} {ρ : DEnv}, I ds ρ →
    (∀ d ds ρ, I (d :: ds) ρ → Wp (gg d ρ) (fun _ ρ1 => Wp (F ρ1) (fun fl ρ2 => Wlp fl (I ds ρ2) (QF .nx ρ2) (QF fl ρ2)) E) E) → (∀ ρ, I [] ρ → QF .nx ρ) → Wp (forL gg F ds ρ) QF E
  | [], ρ, h, _, fin => by with_unfolding_all exact fin ρ h
  | d :: ds, ρ, h, step, fin => by with_unfolding_all exact wp_bind (wp_mono (step d ds ρ h) (fun _ _ k => wp_bind (wp_mono k (fun fl ρ2 k => by
      cases fl with
      | nx => exact w_forL I k step fin
      | ct => exact w_forL I k step fin
      | bk => exact k
      | ret a => exact k) fun _ _ z => z)) fun _ _ z => z)
theorem w_for_nil {gg : D → M Unit} (k : QF .nx ρ) : Wp (forL gg F [] ρ) QF E := by with_unfolding_all exact (k)
theorem w_for_cons {gg : D → M Unit} {d : D} {ds : List D} (k : Wp (gg d ρ) (fun _ ρ1 => Wp (F ρ1) (fun fl ρ2 => Wlp fl (Wp (forL gg F ds ρ2) QF E) (QF .nx ρ2) (QF fl ρ2)) E) E) : Wp (forL gg F (d :: ds) ρ) QF E := by with_unfolding_all exact (wp_bind (wp_mono k (fun _ _ k => wp_bind (wp_mono k (fun fl ρ2 k => by cases fl <;> exact k) fun _ _ z => z)) fun _ _ z => z))
theorem w_gset {i : Nat} {d : D} {Q : Unit → DEnv → Prop} (hi : i < ρ.length) (k : Q () (ρ.set i (some (.v d)))) : Wp (gSet i d ρ) Q E := by
  with_unfolding_all
    unfold gSet
    rw [if_pos hi]
    exact k
theorem w_while (I : Nat → DEnv → Prop) {n : Nat} (h : I n ρ) (step : ∀ n ρ, I n ρ → Wp (c ρ) (fun k ρ1 => Wk k (Wp (F ρ1) (fun fl ρ2 => Wlp fl (∃ m, m < n ∧ I m ρ2) (QF .nx ρ2) (QF fl ρ2)) E) (QF .nx ρ1)) E) : Wp (dWhile c F ρ) QF E := by
  with_unfolding_all
    have key : ∀ n ρ, I n ρ → Wp (whileN c F (n + 1) ρ) QF E := by
      intro n
      induction n using Nat.strongRecOn with
      | ind n ih =>
        intro ρ hi
        unfold whileN
        refine wp_bind (wp_mono (step n ρ hi) (fun k ρ1 k1 => wk_ite ⟨fun e => ?_, fun e => k1.2 e⟩) fun _ _ z => z)
        refine wp_bind (wp_mono (k1.1 e) (fun fl ρ2 k2 => ?_) fun _ _ z => z)
        have up : ∀ m, m < n → I m ρ2 → Wp (whileN c F n ρ2) QF E := fun m hm hI => by
          have h1 := ih m hm ρ2 hI
          have : ∀ j, Wp (whileN c F (m + 1 + j) ρ2) QF E := by
            intro j
            induction j with
            | zero => exact h1
            | succ j ihj => 
              have hb : whileN c F (m + 1 + j) ρ2 ≠ .bad := fun z => by rw [z] at ihj; exact ihj
              rw [← Nat.add_assoc, whileN_mono hb]
              exact ihj
          have h3 := this (n - (m + 1))
          rwa [Nat.add_sub_cancel' hm] at h3
        cases fl with
        | nx => obtain ⟨m, hm, hI⟩ := k2; exact up m hm hI
        | ct => obtain ⟨m, hm, hI⟩ := k2; exact up m hm hI
        | bk => exact k2
        | ret a => exact k2
    have k := key n ρ h
    have hb : whileN c F (n + 1) ρ ≠ .bad := fun z => by rw [z] at k; exact k
    rw [dWhile_eq hb]
    exact k
theorem w_par {o1 o2 : Bool} {i j : Nat} (k : Wp (f ρ) (fun a ρ1 => Wp (g ρ1) (fun c ρ2 => (i < ρ2.length ∧ j < ρ2.length ∧ i ≠ j) ∧ QF .nx ((ρ2.set i (some (frzB o1 a))).set j (some (frzB o2 c)))) E) E) : Wp (dPar o1 o2 i j f g ρ) QF E := by with_unfolding_all exact (wp_bind (wp_mono k (fun _ _ k => wp_bind (wp_mono k (fun _ _ k => by rw [if_pos k.1]; exact k.2) fun _ _ z => z)) fun _ _ z => z))
theorem w_asg {gg : D → M Unit} (k : Wp (f ρ) (fun a ρ1 => Wp (gg a.frz ρ1) (fun _ ρ2 => QF .nx ρ2) E) E) : Wp (dAsg f gg ρ) QF E := by with_unfolding_all exact (wp_bind (wp_mono k (fun _ _ k => wp_bind k) fun _ _ z => z))
theorem w_gtup {n : Nat} {gs : List D → M Unit} {ds : List D} {Q : Unit → DEnv → Prop} (e : ds.length = n) (k : Wp (gs ds ρ) Q E) : Wp (gTupD n gs (.tup ds) ρ) Q E := by
  with_unfolding_all
    unfold gTupD
    dsimp only
    rw [if_pos e]
    exact k
theorem w_gcons {gg : D → M Unit} {gs : List D → M Unit} {d : D} {ds : List D} {Q : Unit → DEnv → Prop} (k : Wp (gg d ρ) (fun _ ρ1 => Wp (gs ds ρ1) Q E) E) : Wp (gConsD gg gs (d :: ds) ρ) Q E := by with_unfolding_all exact (wp_bind k)
theorem w_gnil {Q : Unit → DEnv → Prop} (k : Q () ρ) : Wp (gNilD [] ρ) Q E := by with_unfolding_all exact (k)
theorem w_items (k : Wp (f ρ) (fun a ρ1 => Wo (seqD a.frz) fun ds => QD ds ρ1) E) : Wp (dItems f ρ) QD E := by with_unfolding_all exact (wp_bind (wp_mono k (fun _ _ k => wp_ofO k) fun _ _ z => z))
def rngOk (j : Int) : Prop := -(2 ^ 62) ≤ j ∧ j < 2 ^ 62
theorem w_rng1 (k : Wp (f ρ) (fun a ρ1 => Win a fun j => rngOk j ∧ QD ((List.range j.toNat).map fun i : Nat => .int i) ρ1) E) : Wp (dRng1 f ρ) QD E := by with_unfolding_all exact (wp_bind (wp_mono k (fun _ _ ⟨j, e, h, k⟩ => by subst e; exact wp_ofO ⟨_, if_pos h, k⟩) fun _ _ z => z))
theorem w_rng2 (k : Wp (f ρ) (fun a ρ1 => Wp (g ρ1) (fun c ρ2 => Win a fun i => Win c fun j => (rngOk i ∧ rngOk j) ∧ QD ((List.range (j - i).toNat).map fun n : Nat => .int (i + n)) ρ2) E) E) : Wp (dRng2 f g ρ) QD E := by with_unfolding_all exact (wp_bind (wp_mono k (fun _ _ k => wp_bind (wp_mono k (fun _ _ ⟨i, e1, j, e2, ⟨h1, h2⟩, k2⟩ => by subst e1 e2; exact wp_ofO ⟨_, if_pos ⟨h1.1, h1.2, h2.1, h2.2⟩, k2⟩) fun _ _ z => z)) fun _ _ z => z))
theorem w_blt {op : List A → Option A} (k : Wp (fs ρ) (fun l ρ1 => Wo (op l) fun r => Q r ρ1) E) : Wp (dBlt op fs ρ) Q E := by with_unfolding_all exact (wp_bind (wp_mono k (fun _ _ k => wp_ofO k) fun _ _ z => z))
theorem w_isi {T : String} (k : Wp (f ρ) (fun a ρ1 => Wo (opIs T [a]) fun r => Q r ρ1) E) : Wp (dIsi T f ρ) Q E := by with_unfolding_all exact (wp_bind (wp_mono k (fun _ _ k => wp_ofO k) fun _ _ z => z))
variable {vs : M (List AV)}
theorem w_vnil (k : QV [] ρ) : Wp (vNil ρ) QV E := by with_unfolding_all exact (k)
theorem w_vval {own : Bool} (k : Wp (f ρ) (fun a ρ1 => Wp (vs ρ1) (fun l ρ2 => QV (.val (frzB own a) :: l) ρ2) E) E) : Wp (vVal own f vs ρ) QV E := by with_unfolding_all exact (wp_bind (wp_mono k (fun _ _ k => wp_bind (wp_mono k (fun _ _ k => k) fun _ _ z => z)) fun _ _ z => z))
theorem w_vref {i : Nat} {a : A} (e : ρ[i]? = some (some a)) (k : Wp (vs ρ) (fun l ρ2 => QV (.ref i :: l) ρ2) E) : Wp (vRef i vs ρ) QV E := by
  with_unfolding_all
    unfold vRef
    rw [e]
    exact wp_bind k
theorem w_call {Fu : Fn} {ds : List D} (k : Wp (vs ρ) (fun l ρ1 => Wo (gath l ρ1) fun q => Wc (Fu (q.1 ++ ds.map .v)) (fun r l' => Q r (back l l' q.2)) (fun e l' => E e (back l l' q.2))) E) : Wp (dCall Fu vs ds ρ) Q E := by
  refine wp_bind (wp_mono k (fun l ρ1 ⟨q, e, k⟩ => ?_) fun _ _ z => z)
  rw [e]
  dsimp only
  dsimp only at k
  unfold Wc at k
  cases e2 : Fu (q.1 ++ ds.map .v) with
  | ok a l => rw [e2] at k; exact Wp.mk k
  | exc a l => rw [e2] at k; exact Wp.mk k
  | bad => rw [e2] at k; exact k.elim
theorem wc_fn {n N : Nat} {pn : List Nat} {body : M Flow} {as : List A} {QC : A → List A → Prop} {EC : Ex → List A → Prop} (h1 : as.length = n) (h2 : okArgs pn 0 as = true)
    (k : Wp (body (as.map some ++ List.replicate (N - n) none)) (fun fl ρ => Wr fl fun a => Wo (lentL pn 0 as ρ) fun l => QC a l) fun e ρ => Wo (lentL pn 0 as ρ) fun l => EC e l) : Wc (dFn n N pn body as) QC EC := by
  with_unfolding_all
    unfold dFn
    rw [if_pos ⟨h1, h2⟩]
    unfold Wp R.sat at k
    split at k <;> rename_i e2
    · rw [e2]
      rename_i fl ρ1
      dsimp only
      cases fl with
      | nx => obtain ⟨l, e, k⟩ := k; rw [e]; exact k
      | ret a => obtain ⟨l, e, k⟩ := k; rw [e]; exact k
      | bk => exact k.elim
      | ct => exact k.elim
    · rw [e2]
      obtain ⟨l, e, k⟩ := k
      dsimp only
      rw [e]
      exact k
    · exact k.elim
theorem wc_mono {r : FR} {QC QC' : A → List A → Prop} {EC EC' : Ex → List A → Prop} (h : Wc r QC EC) (k : ∀ a l, QC a l → QC' a l) (x : ∀ e l, EC e l → EC' e l) : Wc r QC' EC' := by
  cases r with
  | ok a l => exact Wc.ok (k _ _ h.out)
  | exc e l => exact Wc.exc (x _ _ h.out)
  | bad => exact h.out.elim
theorem wc_eq {r : FR} {a : A} {l : List A} {QC : A → List A → Prop} {EC : Ex → List A → Prop} (e : r = .ok a l) (k : QC a l) : Wc r QC EC := by rw [e]; exact Wc.ok k
theorem ex_wc {r : FR} {QC : A → List A → Prop} (h : Wc r QC fun _ _ => False) : ∃ a l, r = .ok a l ∧ QC a l := by
  cases r with
  | ok b k => exact ⟨b, k, rfl, h.out⟩
  | exc e l => exact h.out.elim
  | bad => exact h.out.elim
theorem w_no {Q : Option Int → DEnv → Prop} (k : Q none ρ) : Wp (pNo ρ) Q E := by with_unfolding_all exact (k)
theorem w_so {Q : Option Int → DEnv → Prop} (k : Wp (f ρ) (fun a ρ1 => Win a fun i => Q (some i) ρ1) E) : Wp (pSo f ρ) Q E := by with_unfolding_all exact (wp_bind (wp_mono k (fun _ _ ⟨i, e, k⟩ => by subst e; exact k) fun _ _ z => z))
theorem w_sl {lo hi : M (Option Int)} (k : Wp (f ρ) (fun a ρ1 => Wp (lo ρ1) (fun l ρ2 => Wp (hi ρ2) (fun h ρ3 => Wo (opSl a l h) fun r => Q r ρ3) E) E) E) : Wp (dSl f lo hi ρ) Q E := by with_unfolding_all exact (wp_bind (wp_mono k (fun _ _ k => wp_bind (wp_mono k (fun _ _ k => wp_bind (wp_mono k (fun _ _ k => wp_ofO k) fun _ _ z => z)) fun _ _ z => z)) fun _ _ z => z))
theorem w_rev (k : Wp (f ρ) (fun a ρ1 => Wo (lstD a.frz) fun ds => Q (.m (ds.reverse.map .v)) ρ1) E) : Wp (dRev f ρ) Q E := by with_unfolding_all exact (wp_bind (wp_mono k (fun _ _ ⟨ds, e, k⟩ => by rw [e]; exact k) fun _ _ z => z))
theorem w_append {i : Nat} {o : Bool} {l0 : List A} (e0 : ρ[i]? = some (some (.m l0))) (k : Wp (f ρ) (fun a ρ1 => Wap ρ1[i]? fun l => Q (.v .non) (ρ1.set i (some (.m (l ++ [frzB o a]))))) E) : Wp (dAppend i o f ρ) Q E := by
  with_unfolding_all
    unfold dAppend
    rw [e0]
    exact wp_bind (wp_mono k (fun _ _ ⟨l, e, h, k⟩ => by rw [e]; dsimp only; rw [if_pos h]; exact k) fun _ _ z => z)
theorem w_extend {i : Nat} {l0 : List A} (e0 : ρ[i]? = some (some (.m l0))) (k : Wp (f ρ) (fun a ρ1 => Wxt ρ1[i]? a fun l => Q (.v .non) (ρ1.set i (some (.m l)))) E) : Wp (dExtend i f ρ) Q E := by
  with_unfolding_all
    unfold dExtend
    rw [e0]
    exact wp_bind (wp_mono k (fun _ _ ⟨l, ds, e, e2, h, k⟩ => by rw [e, e2]; dsimp only; rw [if_pos h]; exact k) fun _ _ z => z)
theorem w_setitem {i : Nat} {o : Bool} (k : Wp (f ρ) (fun a ρ1 => Wmm ρ1[i]? (Wp (g ρ1) (fun c ρ2 => Wst ρ2[i]? (frzB o a) c fun l => QF .nx (ρ2.set i (some (.m l)))) E)) E) : Wp (dSetItem i o f g ρ) QF E := by
  with_unfolding_all
    refine wp_bind (wp_mono k (fun _ _ ⟨l0, e0, k⟩ => ?_) fun _ _ z => z)
    rw [e0]
    exact wp_bind (wp_mono k (fun _ _ ⟨l, n, j, e, e2, h, k⟩ => by subst e2; rw [e]; dsimp only; rw [h]; exact k) fun _ _ z => z)
theorem w_ixOwn {i : Nat} {l0 : List A} (e0 : ρ[i]? = some (some (.m l0))) (k : Wp (f ρ) (fun a ρ1 => Wix ρ1[i]? a fun d => Q (.v d) ρ1) E) : Wp (dIxOwn i f ρ) Q E := by
  with_unfolding_all
    unfold dIxOwn
    rw [e0]
    exact wp_bind (wp_mono k (fun _ _ ⟨l, n, d, e, e2, h, k⟩ => by subst e2; rw [e]; dsimp only; rw [h]; exact k) fun _ _ z => z)
theorem w_lenOwn {i : Nat} {l : List A} (e : ρ[i]? = some (some (.m l))) (k : Q (.v (.int l.length)) ρ) : Wp (dLenOwn i ρ) Q E := by
  with_unfolding_all
    unfold dLenOwn
    rw [e]
    exact k
theorem w_wipe {ρ : DEnv} {E : Ex → DEnv → Prop} {sl : List Nat} {Q : Unit → DEnv → Prop} (h : Q () (wipeE ρ sl)) : Wp (wipeM sl ρ) Q E := Wp.mk h
theorem w_compL {sl : List Nat} {gg : D → M Unit} {p : M Bool} {elt : M A} (I : List A → List D → DEnv → Prop) : ∀ {ds : List D} {ρ : DEnv} {l : List A} {QL : List A → DEnv → Prop}, I l ds ρ →
    (∀ l d ds ρ, I l (d :: ds) ρ → Wp (gg d ρ) (fun _ ρ1 => Wp (p ρ1) (fun k ρ2 => Wk k (Wp (elt ρ2) (fun a ρ3 => I (l ++ [a]) ds (wipeE ρ3 sl)) E) (I l ds (wipeE ρ2 sl))) E) E) →
    (∀ l' ρ, I (l ++ l') [] ρ → QL l' ρ) → Wp (compL sl gg p elt ds ρ) QL E
  | [], ρ, l, QL, h, _, fin => Wp.mk (fin [] ρ (by rwa [List.append_nil]))
  | d :: ds, ρ, l, QL, h, step, fin => by
    unfold compL
    refine wp_bind (wp_mono (step l d ds ρ h) (fun _ _ k => wp_bind (wp_mono k (fun k ρ2 k1 => wk_ite ⟨fun e => ?_, fun e => ?_⟩) fun _ _ z => z)) fun _ _ z => z)
    · refine wp_bind (wp_mono (k1.1 e) (fun a ρ3 k2 => ?_) fun _ _ z => z)
      refine wp_bind (f := wipeM sl) (w_wipe ?_)
      refine wp_bind ?_
      refine wp_mono (w_compL I (QL := fun l' ρ4 => QL (a :: l') ρ4) k2 step fun l' ρ' q => fin (a :: l') ρ' (by rwa [List.append_assoc] at q)) (fun _ _ q => wp_pure q) fun _ _ z => z
    · refine wp_bind (f := wipeM sl) (w_wipe ?_)
      exact w_compL I (k1.2 e) step fin
theorem w_comp {sl : List Nat} {src : M (List D)} {gg : D → M Unit} {p : M Bool} {elt : M A} (k : Wp (src ρ) (fun ds ρ1 => ds.length ≤ sizeLine ∧ Wp (compL sl gg p elt ds (wipeE ρ1 sl)) (fun l ρ2 => Q (.m l) (putL (parkL ρ1 sl) (wipeF ρ2 sl))) fun _ _ => False) E) : Wp (dComp sl src gg p elt ρ) Q E := by
  with_unfolding_all
    refine wp_bind (wp_mono k (fun ds ρ1 ⟨h, k⟩ => ?_) fun _ _ z => z)
    rw [if_pos h]
    unfold Wp R.sat at k
    split at k <;> rename_i e2
    · rw [e2]; exact k
    · exact k.elim
    · exact k.elim
theorem w_chain {p q : Int → Int → Bool} (k : Wp (f ρ) (fun a ρ1 => Wp (g ρ1) (fun c ρ2 => Win a fun i => Win c fun j => Wk (p i j) (Wp (h ρ2) (fun d ρ3 => Win d fun m => Q (.v (.bl (q j m))) ρ3) E) (Q (.v (.bl false)) ρ2)) E) E) : Wp (dChain p q f g h ρ) Q E := by
  with_unfolding_all
    refine wp_bind (wp_mono k (fun a ρ1 k0 => wp_bind (wp_mono k0 (fun c ρ2 ⟨i, e1, j, e2, k2⟩ => ?_) fun _ _ z => z)) fun _ _ z => z)
    subst e1 e2
    refine wp_bind (wp_ofO (o := some (i, j)) ⟨_, rfl, ?_⟩)
    refine wk_ite (g := M.pure _) ⟨fun e => ?_, fun e => k2.2 e⟩
    exact wp_bind (wp_mono (k2.1 e) (fun d ρ3 ⟨m, e3, k3⟩ => by subst e3; exact k3) fun _ _ z => z)
end
section
variable {P : A → Prop} {i j : Int}
theorem wo_some {α : Type} {P : α → Prop} {a : α} (h : P a) : Wo (some a) P := ⟨a, rfl, h⟩
theorem wo_eq {α : Type} {P : α → Prop} {o : Option α} {a : α} (e : o = some a) (h : P a) : Wo o P := ⟨a, e, h⟩
theorem wo_add (h : P (.v (.int (i + j)))) : Wo (opAdd (.v (.int i)) (.v (.int j))) P := ⟨_, rfl, h⟩
theorem wo_sub (h : P (.v (.int (i - j)))) : Wo (opSub (.v (.int i)) (.v (.int j))) P := ⟨_, rfl, h⟩
theorem wo_mul (c : MulC i j) (h : P (.v (.int (i * j)))) : Wo (opMul (.v (.int i)) (.v (.int j))) P := ⟨_, if_pos c, h⟩
theorem wo_div (c : DivC i j) (h : P (.v (.int (i.fdiv j)))) : Wo (opDiv (.v (.int i)) (.v (.int j))) P := ⟨.v (.int (i.fdiv j)), by unfold opDiv ii; dsimp only; rw [if_pos c]; rfl, h⟩
theorem wo_mod (c : j ≠ 0) (h : P (.v (.int (i.fmod j)))) : Wo (opMod (.v (.int i)) (.v (.int j))) P := ⟨.v (.int (i.fmod j)), by unfold opMod ii; dsimp only; rw [if_pos c]; rfl, h⟩
theorem wo_pow (c : PowC i j) (h : P (.v (.int (i ^ j.toNat)))) : Wo (opPow (.v (.int i)) (.v (.int j))) P := ⟨.v (.int (i ^ j.toNat)), by unfold opPow ii; dsimp only; rw [if_pos c]; rfl, h⟩
theorem wo_neg (h : P (.v (.int (-i)))) : Wo (opNeg (.v (.int i))) P := ⟨_, rfl, h⟩
theorem wo_lt (h : P (.v (.bl (decide (i < j))))) : Wo (opLt (.v (.int i)) (.v (.int j))) P := ⟨_, rfl, h⟩
theorem wo_le (h : P (.v (.bl (decide (i ≤ j))))) : Wo (opLe (.v (.int i)) (.v (.int j))) P := ⟨_, rfl, h⟩
theorem wo_gt (h : P (.v (.bl (decide (j < i))))) : Wo (opGt (.v (.int i)) (.v (.int j))) P := ⟨_, rfl, h⟩
theorem wo_ge (h : P (.v (.bl (decide (j ≤ i))))) : Wo (opGe (.v (.int i)) (.v (.int j))) P := ⟨_, rfl, h⟩
theorem eqv_int : PyData.eqv (.int i) (.int j) = decide (i = j) := by
  have : PyData.eqv (.int i) (.int j) = (i == j) := by simp [PyData.eqv]
  rw [this]
  by_cases h : i = j <;> simp [h]
theorem wo_eqI (h : P (.v (.bl (decide (i = j))))) : Wo (opEq (.v (.int i)) (.v (.int j))) P := ⟨_, rfl, by
  show P (.v (.bl (PyData.eqv (.int i) (.int j)))); rw [eqv_int]; exact h⟩
theorem wo_neI (h : P (.v (.bl (!decide (i = j))))) : Wo (opNe (.v (.int i)) (.v (.int j))) P := ⟨_, rfl, by
  show P (.v (.bl (!PyData.eqv (.int i) (.int j)))); rw [eqv_int]; exact h⟩
theorem wo_notB {a b : Bool} (h : P (.v (.bl (!decide (a = b))))) : Wo (opNotB (.v (.bl a)) (.v (.bl b))) P := ⟨_, rfl, h⟩
theorem wo_isB {a b : Bool} (h : P (.v (.bl (decide (a = b))))) : Wo (opIsB (.v (.bl a)) (.v (.bl b))) P := ⟨_, rfl, h⟩
theorem wo_abs (h : P (.v (.int i.natAbs))) : Wo (opAbs [.v (.int i)]) P := ⟨_, rfl, by
  have e : (if i < 0 then -i else i) = (i.natAbs : Int) := by split <;> omega
  rw [e]; exact h⟩
theorem wo_lenT {l : List D} (h : P (.v (.int l.length))) : Wo (opLen [.v (.tup l)]) P := ⟨_, rfl, h⟩
theorem wo_lenL {l : List D} (h : P (.v (.int l.length))) : Wo (opLen [.v (.lst l)]) P := ⟨_, rfl, h⟩
theorem wo_lenF {l : List D} (h : P (.v (.int l.length))) : Wo (opLen [.v (.fz l)]) P := ⟨_, rfl, h⟩
theorem wo_lenM {l : List A} (h : P (.v (.int l.length))) : Wo (opLen [.m l]) P := ⟨_, rfl, h⟩
end
def Bd (n : Nat) (i : Int) : Prop := i.natAbs < 2 ^ n
theorem Bd.log {n : Nat} {i : Int} (h : Bd n i) : i.natAbs.log2 ≤ n := by
  by_cases z : i.natAbs = 0
  · rw [z]; exact Nat.zero_le _
  · exact Nat.le_of_lt ((Nat.log2_lt z).mpr h)
theorem Bd.mulC {n m : Nat} {i j : Int} (h : Bd n i) (g : Bd m j) (q : n + m < 134217000) : MulC i j := Nat.lt_of_le_of_lt (Nat.add_le_add h.log g.log) q
theorem Bd.mono {n m : Nat} {i : Int} (h : Bd n i) (q : n ≤ m) : Bd m i := Nat.lt_of_lt_of_le h (Nat.pow_le_pow_right (by decide) q)
theorem Bd.mul {n m : Nat} {i j : Int} (h : Bd n i) (g : Bd m j) : Bd (n + m) (i * j) := by
  unfold Bd at *
  rw [Int.natAbs_mul, Nat.pow_add]
  exact Nat.mul_lt_mul_of_lt_of_lt h g
theorem Bd.add {n : Nat} {i j : Int} (h : Bd n i) (g : Bd n j) : Bd (n + 1) (i + j) := by
  unfold Bd at *
  rw [Nat.pow_succ]
  omega
theorem Bd.sub {n : Nat} {i j : Int} (h : Bd n i) (g : Bd n j) : Bd (n + 1) (i - j) := by
  unfold Bd at *
  rw [Nat.pow_succ]
  omega
theorem Bd.neg {n : Nat} {i : Int} (h : Bd n i) : Bd n (-i) := by
  unfold Bd at *
  rwa [Int.natAbs_neg]
theorem Bd.le {n : Nat} {i j : Int} (h : Bd n i) (g : j.natAbs ≤ i.natAbs) : Bd n j := Nat.lt_of_le_of_lt g h
theorem bd64 {i : Int} (h : -18446744073709551616 < i) (g : i < 18446744073709551616) : Bd 64 i := by
  unfold Bd
  have : (2:Nat) ^ 64 = 18446744073709551616 := by decide
  omega
theorem mulc64 {i j : Int} (h1 : -18446744073709551616 < i) (h2 : i < 18446744073709551616) (h3 : -18446744073709551616 < j) (h4 : j < 18446744073709551616) : MulC i j := (bd64 h1 h2).mulC (bd64 h3 h4) (by decide)
theorem divc64 {i j : Int} (h0 : j ≠ 0) (h3 : -18446744073709551616 < j) (h4 : j < 18446744073709551616) : DivC i j := ⟨h0, .inl (Nat.lt_of_le_of_lt (bd64 h3 h4).log (by decide))⟩
theorem Bd.divC {n : Nat} {i j : Int} (h0 : j ≠ 0) (h : Bd n j) (q : n < 9000) : DivC i j := ⟨h0, .inl (Nat.lt_of_le_of_lt h.log q)⟩
theorem cpow64 {i j : Int} (h0 : 0 ≤ j) (h1 : j ≤ 1000000) (h2 : -18446744073709551616 < i) (h3 : i < 18446744073709551616) : PowC i j := ⟨h0, by
  have := Int.mul_le_mul (show (Builtin.Int.intBits i : Int) ≤ 64 by exact_mod_cast intBits_le_64 (by omega) (by omega)) h1 h0 (by decide)
  omega⟩
theorem Bd.pow2 {n : Nat} {i : Int} (h : Bd n i) (q : n < 60000000) : PowC i 2 := ⟨by decide, by
  have : Builtin.Int.intBits i ≤ n + 1 := by
    have := h.log
    unfold Builtin.Int.intBits
    split <;> omega
  omega⟩
theorem fmod_range {i j : Int} (h : 0 < j) : 0 ≤ i.fmod j ∧ i.fmod j < j := ⟨Int.fmod_nonneg_of_pos _ h, Int.fmod_lt_of_pos _ h⟩
theorem fdiv_range {i j : Int} (h0 : 0 ≤ i) (h : 0 < j) : 0 ≤ i.fdiv j ∧ i.fdiv j ≤ i := by
  rw [Int.fdiv_eq_ediv_of_nonneg _ (Int.le_of_lt h)]
  exact ⟨Int.ediv_nonneg h0 (Int.le_of_lt h), Int.ediv_le_self _ h0⟩
theorem ix_at {a : A} {ds : List D} {n : Int} {d : D} {P : A → Prop} (e : seqD a.frz = some ds) (h : atI ds n = some d) (k : P (.v d)) : Wo (opIx a (.v (.int n))) P := by
  refine ⟨.v d, ?_, k⟩
  unfold opIx
  dsimp only
  split
  · rename_i z ez; rw [ez] at e; cases e
  · rw [e]; dsimp only; rw [h]
end DD

namespace DD
open PySem PySem.Spec L2
open PyProof.Rows hiding St
variable [LamN]
section
variable {α : Type} {ρ : DEnv} {E : Ex → DEnv → Prop} {f g : M A} {vs : M (List AV)} {QF : Flow → DEnv → Prop} {QV : List AV → DEnv → Prop} {Q : A → DEnv → Prop}
theorem w_setF {i : Nat} (k : Wp (f ρ) (fun a ρ1 => i < ρ1.length ∧ QF .nx (ρ1.set i (some (.v a.frz)))) E) : Wp (dSet false i f ρ) QF E := w_set k
theorem w_setT {i : Nat} (k : Wp (f ρ) (fun a ρ1 => i < ρ1.length ∧ QF .nx (ρ1.set i (some a))) E) : Wp (dSet true i f ρ) QF E := w_set k
theorem w_parF {i j : Nat} (k : Wp (f ρ) (fun a ρ1 => Wp (g ρ1) (fun c ρ2 => (i < ρ2.length ∧ j < ρ2.length ∧ i ≠ j) ∧ QF .nx ((ρ2.set i (some (.v a.frz))).set j (some (.v c.frz)))) E) E) : Wp (dPar false false i j f g ρ) QF E := w_par k
theorem w_vvalF (k : Wp (f ρ) (fun a ρ1 => Wp (vs ρ1) (fun l ρ2 => QV (.val (.v a.frz) :: l) ρ2) E) E) : Wp (vVal false f vs ρ) QV E := w_vval k
theorem w_vvalT (k : Wp (f ρ) (fun a ρ1 => Wp (vs ρ1) (fun l ρ2 => QV (.val a :: l) ρ2) E) E) : Wp (vVal true f vs ρ) QV E := w_vval k
theorem w_appendF {i : Nat} {l0 : List A} (e0 : ρ[i]? = some (some (.m l0))) (k : Wp (f ρ) (fun a ρ1 => Wap ρ1[i]? fun l => Q (.v .non) (ρ1.set i (some (.m (l ++ [.v a.frz]))))) E) : Wp (dAppend i false f ρ) Q E := w_append e0 k
theorem w_setitemF {i : Nat} (k : Wp (f ρ) (fun a ρ1 => Wmm ρ1[i]? (Wp (g ρ1) (fun c ρ2 => Wst ρ2[i]? (.v a.frz) c fun l => QF .nx (ρ2.set i (some (.m l)))) E)) E) : Wp (dSetItem i false f g ρ) QF E := w_setitem k
theorem lt_lit {i n : Nat} (h : decide (i < n) = true) : i < n := of_decide_eq_true h
theorem sz_of {n : Nat} (h : n ≤ 1000000) : n ≤ sizeLine := Nat.le_trans h (by decide)
theorem szl_of {n : Nat} (h : n ≤ 1000000) : n < sizeLine := Nat.lt_of_le_of_lt h (by decide)
theorem sz_lit {n : Nat} (h : decide (n ≤ sizeLine) = true) : n ≤ sizeLine := of_decide_eq_true h
end
theorem ixN_nat {n : Nat} {i : Int} (h0 : 0 ≤ i) (h : i < n) : ixN n i = some i.toNat := by
  unfold ixN
  simp only [h0, h, and_self, if_true]
theorem atI_get {α : Type} {l : List α} {i : Int} (h0 : 0 ≤ i) (h : i < l.length) : atI l i = l[i.toNat]? := by
  unfold atI
  rw [ixN_nat h0 h]
  rfl
theorem w_seqJ {ρ : DEnv} {E : Ex → DEnv → Prop} {F G : M Flow} {QF : Flow → DEnv → Prop} (P : DEnv → Prop) (h : Wp (F ρ) (fun fl ρ1 => Wf fl (P ρ1) (QF fl ρ1)) E) (k : ∀ ρ1, P ρ1 → Wp (G ρ1) QF E) : Wp (dSeq F G ρ) QF E :=
  w_seq (wp_mono h (fun fl ρ1 h1 => by cases fl <;> first | exact k _ h1 | exact h1) fun _ _ z => z)
theorem atI_ex {α : Type} {l : List α} {i : Int} (h0 : 0 ≤ i) (h : i < l.length) : ∃ d ∈ l, atI l i = some d := by
  rw [atI_get h0 h]
  have hi : i.toNat < l.length := by omega
  exact ⟨l[i.toNat], List.getElem_mem hi, List.getElem?_eq_getElem hi⟩
theorem wo_ix {a : A} {ds : List D} {n : Int} {P : A → Prop} (e : seqD a.frz = some ds) (h0 : 0 ≤ n) (h : n < ds.length) (k : ∀ d ∈ ds, P (.v d)) : Wo (opIx a (.v (.int n))) P := by
  obtain ⟨d, hd, e2⟩ := atI_ex h0 h
  exact ix_at e e2 (k d hd)
theorem wo_ixI {a : A} {ds : List D} {n : Int} {P : A → Prop} (R : Int → Prop) (e : seqD a.frz = some ds) (h0 : 0 ≤ n) (h : n < ds.length) (hr : ∀ d ∈ ds, ∃ i, d = .int i ∧ R i) (k : ∀ i, R i → P (.v (.int i))) : Wo (opIx a (.v (.int n))) P :=
  wo_ix e h0 h fun d hd => by
    obtain ⟨i, rfl, h⟩ := hr d hd
    exact k i h
section
variable {ρ : DEnv} {E : Ex → DEnv → Prop} {sl : List Nat} {gg : D → M Unit} {p : M Bool} {elt : M A} {QL : List A → DEnv → Prop}
theorem w_compnil (k : QL [] ρ) : Wp (compL sl gg p elt [] ρ) QL E := wp_pure k
theorem w_compcons {d : D} {ds : List D} (k : Wp (gg d ρ) (fun _ ρ1 => Wp (p ρ1) (fun b ρ2 => Wk b (Wp (elt ρ2) (fun a ρ3 => Wp (compL sl gg p elt ds (wipeE ρ3 sl)) (fun l ρ4 => QL (a :: l) ρ4) E) E) (Wp (compL sl gg p elt ds (wipeE ρ2 sl)) QL E)) E) E) : Wp (compL sl gg p elt (d :: ds) ρ) QL E := by
  unfold compL
  refine wp_bind (wp_mono k (fun _ ρ1 k1 => wp_bind (wp_mono k1 (fun b ρ2 k2 => wk_ite ⟨fun e => ?_, fun e => ?_⟩) fun _ _ z => z)) fun _ _ z => z)
  · refine wp_bind (wp_mono (k2.1 e) (fun a ρ3 k3 => ?_) fun _ _ z => z)
    exact wp_bind (f := wipeM sl) (w_wipe (wp_bind (wp_mono k3 (fun _ _ q => wp_pure q) fun _ _ z => z)))
  · exact wp_bind (f := wipeM sl) (w_wipe (k2.2 e))
end
theorem frzs_ints {l : List A} {R : Int → Prop} (hr : ∀ a ∈ l, ∃ i, a = A.v (.int i) ∧ R i) : ∀ d ∈ frzs l, ∃ i, d = D.int i ∧ R i := by
  rw [frzs_eq]
  intro d hd
  obtain ⟨a, ha, rfl⟩ := List.mem_map.mp hd
  obtain ⟨i, rfl, h⟩ := hr a ha
  exact ⟨i, rfl, h⟩
theorem wo_ixM {l : List A} {n : Int} {P : A → Prop} (R : Int → Prop) (h0 : 0 ≤ n) (h : n < l.length) (hr : ∀ a ∈ l, ∃ i, a = A.v (.int i) ∧ R i) (k : ∀ i, R i → P (.v (.int i))) : Wo (opIx (.m l) (.v (.int n))) P :=
  wo_ixI (a := .m l) R rfl h0 (by rw [frzs_eq, List.length_map]; exact h) (frzs_ints hr) k
theorem Bd.one {n : Nat} (h : 0 < n) : Bd n 1 := Nat.one_lt_two_pow (by omega)
theorem Bd.zero {n : Nat} : Bd n 0 := Nat.two_pow_pos n
theorem bd20 {i : Int} (h : -1048576 < i) (g : i < 1048576) : Bd 20 i := by
  unfold Bd
  have : (2:Nat) ^ 20 = 1048576 := by decide
  omega
theorem sgn_bd {s : Int} (h : s = 1 ∨ s = -1) : Bd 1 s := by
  unfold Bd; rcases h with rfl | rfl <;> decide
theorem wo_ixA {l : List A} {n : Int} {P : A → Prop} (R : D → Prop) (h0 : 0 ≤ n) (h : n < l.length) (hr : ∀ a ∈ l, R a.frz) (k : ∀ d, R d → P (.v d)) : Wo (opIx (.m l) (.v (.int n))) P :=
  wo_ix (a := .m l) rfl h0 (by rw [frzs_eq, List.length_map]; exact h) fun d hd => by
    rw [frzs_eq] at hd
    obtain ⟨a, ha, rfl⟩ := List.mem_map.mp hd
    exact k _ (hr a ha)
theorem wo_str {i : Int} {P : A → Prop} (h : i.natAbs.log2 < 1920) (k : P (.v (.str (toString i)))) : Wo (opStr [.v (.int i)]) P := ⟨_, by unfold opStr; dsimp only; rw [if_pos h], k⟩
def kindOk : D → Bool
  | .ins _ _ _ => false
  | _ => true
theorem kind_of {d : D} (h : kindOk d = true) : kindD d ≠ "" := by cases d <;> simp [kindOk, kindD] at h ⊢
def iInt : D → Bool
  | .int _ => true
  | .bl _ => true
  | _ => false
def iBool : D → Bool
  | .bl _ => true
  | _ => false
def iTup : D → Bool
  | .tup _ => true
  | _ => false
def iLst : D → Bool
  | .lst _ => true
  | .fz _ => true
  | _ => false
def iStr : D → Bool
  | .str _ => true
  | _ => false
section
variable {d : D} {P : A → Prop}
theorem wo_isInt (h : kindD d ≠ "") (k : P (.v (.bl (iInt d)))) : Wo (opIs "int" [.v d]) P := by
  cases d <;> first | exact absurd rfl h | exact wo_eq rfl k
theorem wo_isBool (h : kindD d ≠ "") (k : P (.v (.bl (iBool d)))) : Wo (opIs "bool" [.v d]) P := by
  cases d <;> first | exact absurd rfl h | exact wo_eq rfl k
theorem wo_isTup (h : kindD d ≠ "") (k : P (.v (.bl (iTup d)))) : Wo (opIs "tuple" [.v d]) P := by
  cases d <;> first | exact absurd rfl h | exact wo_eq rfl k
theorem wo_isLst (h : kindD d ≠ "") (k : P (.v (.bl (iLst d)))) : Wo (opIs "list" [.v d]) P := by
  cases d <;> first | exact absurd rfl h | exact wo_eq rfl k
theorem wo_isStr (h : kindD d ≠ "") (k : P (.v (.bl (iStr d)))) : Wo (opIs "str" [.v d]) P := by
  cases d <;> first | exact absurd rfl h | exact wo_eq rfl k
end
def isI : D → Bool
  | .int _ => true
  | _ => false
theorem iBool_bl {b : Bool} : iBool (.bl b) = true := rfl
theorem iBool_int {i : Int} : iBool (.int i) = false := rfl
theorem iInt_bl {b : Bool} : iInt (.bl b) = true := rfl
theorem iInt_int {i : Int} : iInt (.int i) = true := rfl
theorem isI_int {i : Int} : isI (.int i) = true := rfl
theorem isI_bl {b : Bool} : isI (.bl b) = false := rfl
theorem iTup_tup {l : List D} : iTup (.tup l) = true := rfl
theorem iTup_lst {l : List D} : iTup (.lst l) = false := rfl
theorem iTup_int {i : Int} : iTup (.int i) = false := rfl
theorem isI_eq {d : D} (h : iInt d = true) : (!iBool d) = isI d := by cases d <;> first | rfl | cases h
theorem isI_f {d : D} (h : iInt d = false) : false = isI d := by cases d <;> first | rfl | cases h
end DD

namespace DD
open PySem PySem.Spec L2
open PyProof.Rows hiding St
variable [LamN]

def fmtA (a : A) : Option Str := match a with
  | .v (.str y) => if y.length ≤ sizeLine then some y else none
  | .v (.int i) => if i.natAbs.log2 < 1920 then some (toString i) else none
  | _ => none
def dFmt (f : M A) : M A := f.bind fun a => ofO ((fmtA a).map fun y => .v (.str y))
def dJs : List (M A) → Str → M A
  | [], acc => M.pure (.v (.str acc))
  | f :: fs, acc => f.bind fun a ρ => match a with
    | .v (.str y) => if (acc ++ y).length ≤ sizeLine then dJs fs (acc ++ y) ρ else .bad
    | _ => .bad
section
variable {X : Cx} {C : SC} {e : Expr} {f : M A} {pos : Pos}
theorem de_fmt (he : PE X e (tE C f)) : PE X (.FormattedValue e (-1) none pos) (tE C (dFmt f)) := by
  refine PE.w (pe_fmt he) fun σ H Q k => ?_
  refine (Go.bindE k).mono fun x H1 ⟨a, k1⟩ => ?_
  obtain ⟨res, e1, b, Z, ρ, vs, as, hb, _, S, k2⟩ := go_ofO k1
  unfold fmtA at e1
  split at e1
  · split at e1
    · rename_i y hz
      cases e1
      have t := Sta.top (vs := vs) (as := as) S
      cases t
      exact .inl ⟨_, rfl, hz, k2 _ _ _ ((Sta.pop (vs := vs) (as := as) S).push (.str _))⟩
    · cases e1
  · split at e1
    · rename_i i hz
      cases e1
      have t := Sta.top (vs := vs) (as := as) S
      cases t
      exact .inr ⟨_, rfl, hz, k2 _ _ _ ((Sta.pop (vs := vs) (as := as) S).push (.str _))⟩
    · cases e1
  · cases e1
inductive PJD (X : Cx) (C : SC) : List Expr → List (M A) → Prop where
  | nil : PJD X C [] []
  | cons {e : Expr} {f : M A} {es : List Expr} {fs : List (M A)} (h : PE X e (tE C f)) (r : PJD X C es fs) : PJD X C (e :: es) (f :: fs)
theorem PJD.pj {es : List Expr} {fs : List (M A)} (h : PJD X C es fs) : PJ X es (fs.map (tE C)) := by
  induction h with
  | nil => exact .nil
  | cons h r ih => exact .cons h ih
theorem go_js {σ : St} {Q : VK} : ∀ {fs : List (M A)} {acc : Str} {H : Hp}, Go C (finE C σ Q) [] [] (dJs fs acc) σ H → tJs (fs.map (tE C)) acc σ H fun out H1 => Q (.str out) H1
  | [], acc, H, k => by
    obtain ⟨b, Z, ρ, vs, as, hb, S, k⟩ := go_mpure k
    exact k _ _ _ (S.push (.str _))
  | f :: fs, acc, H, k => by
    show tE C f σ H _
    refine (Go.bindE k).mono fun x H1 ⟨a, b, Z, ρ, vs, as, hb, _, S, k1⟩ => ?_
    dsimp only at k1
    split at k1
    · rename_i y
      split at k1
      · rename_i hz
        have t := Sta.top (vs := vs) (as := as) S
        cases t
        exact ⟨_, rfl, hz, go_js ⟨b, Z, ρ, vs, as, hb, rfl, Sta.pop (vs := vs) (as := as) S, k1⟩⟩
      · exact k1.elim
    · exact k1.elim
theorem de_joined {v1 v2 : Expr} {rest : List Expr} {fs : List (M A)} (h : PJD X C (v1 :: v2 :: rest) fs) : PE X (.JoinedStr (v1 :: v2 :: rest) pos) (tE C (dJs fs Str.empty)) :=
  PE.w (pe_joined h.pj) fun σ H Q k => go_js k
end

def strsD : List D → Option (List Str)
  | [] => some []
  | .str y :: l => (strsD l).map (y :: ·)
  | _ => none
theorem strsD_rep {K : PySem.W.Frag} {mg : Str → Option Value} {Z : Hp} : ∀ {xs : List V} {ds : List D} {ys : List Str}, RepDs K mg Z xs ds → strsD ds = some ys → xs = ys.map V.str
  | _, [], ys, h, e => by cases h; cases e; rfl
  | _, d :: ds, ys, h, e => by
    cases h with
    | @cons x xs _ _ h1 h2 =>
      cases h1 with
      | str y =>
        unfold strsD at e
        cases e2 : strsD ds with
        | none => rw [e2] at e; cases e
        | some zs =>
          rw [e2] at e
          cases e
          rw [strsD_rep h2 e2]
          rfl
      | _ => cases e
def opJoin (s : Str) (a : A) : Option A := match (seqD a.frz).bind strsD with
  | some ys => if (ys.map (·.length)).sum + ys.length * s.length ≤ 16777216 then some (.v (.str (Txt.join s ys))) else none
  | none => none
def dJoin (s : Str) (f : M A) : M A := f.bind fun a => ofO (opJoin s a)
section
variable {X : Cx} {C : SC} {e : Expr} {f : M A} {pos apos p0 : Pos} {s : Str} {j : Option Str}
theorem de_join {j} (hK : X.K = C.K) (he : PE X e (tE C f)) (hs : starEach [e] X.env = [(false, eval e X.env)] := by rfl) (hbase : attributeBase (.Constant (.str s) j p0) "join" X.env (eval (.Constant (.str s) j p0) X.env) = eval (.Constant (.str s) j p0) X.env := by rfl) (hline : (apos.endLine == pos.line) = true := by rfl) :
    PE X (.Call (.Attribute (.Constant (.str s) j p0) "join" apos) [e] [] pos) (tE C (dJoin s f)) := by
  refine PE.w (pe_join pe_str he hs hbase hline) fun σ H Q k => ?_
  refine ⟨⟨_, rfl⟩, (Go.bindE k).mono fun x H1 ⟨a, k1⟩ => ?_⟩
  obtain ⟨res, e1, b, Z, ρ, vs, as, hb, _, S, k2⟩ := go_ofO k1
  rw [hK]
  obtain ⟨Z', _, S'⟩ := Sta.freeze (vs := vs) (as := as) S
  unfold opJoin at e1
  split at e1
  · rename_i ys hy
    split at e1
    · rename_i hz
      cases e1
      cases hd : seqD a.frz with
      | none => rw [hd] at hy; cases hy
      | some ds =>
        rw [hd] at hy
        obtain ⟨p, xs, rfl, hs, r⟩ := (Sta.top S').seq S'.zh hd
        have ex := strsD_rep r hy
        subst ex
        exact ⟨s, p, ys, rfl, rfl, hs, hz, k2 _ _ _ ((Sta.pop S').push (.str _))⟩
    · cases e1
  · cases e1
end

def tupD : D → Option (List D)
  | .tup l => some l
  | _ => none
def zipD (l k : List D) : List D := (l.zip k).map fun q => .tup [q.1, q.2]
def zipO (a c : A) : Option (List D) := match lstD a.frz, lstD c.frz with
  | some l, some k => some (zipD l k)
  | _, _ => match tupD a.frz, tupD c.frz with
    | some l, some k => some (zipD l k)
    | _, _ => none
def dZip (f g : M A) : M (List D) := f.bind fun a => g.bind fun c => ofO (zipO a c)
def enumD (l : List D) : List D := l.zipIdx.map fun q => .tup [.int (q.2 : Nat), q.1]
def dEnum (f : M A) : M (List D) := f.bind fun a => ofO ((lstD a.frz).map enumD)
section
variable {C : SC} {X : Cx} {e e2 : Expr} {f g : M A} {pos p tpos : Pos} {elts : List Expr} {kk : Nat}
theorem zipD_get {l k : List D} {i : Nat} {d : D} (h : (zipD l k)[i]? = some d) : ∃ x y, l[i]? = some x ∧ k[i]? = some y ∧ d = .tup [x, y] := by
  unfold zipD at h
  rw [List.getElem?_map] at h
  cases e : (l.zip k)[i]? with
  | none => rw [e] at h; cases h
  | some q =>
    rw [e] at h
    cases h
    rw [List.getElem?_zip_eq_some] at e
    exact ⟨_, _, e.1, e.2, rfl⟩
theorem zipD_len {l k : List D} : (zipD l k).length = min l.length k.length := by
  unfold zipD
  rw [List.length_map, List.length_zip]
theorem isIt_zip {a c : Addr} {d d2 : D} {l k : List D} (hd : lstD d = some l) (hd2 : lstD d2 = some k) : IsIt C (Itz C.K a c) [.ref c, .ref a] [.v d2, .v d] (zipD l k) := by
  intro b Z H σ ρ vs as S
  obtain ⟨q, xs, e, hs, r⟩ := (Sta.top2 S).lsq S.zh hd
  cases e
  obtain ⟨q2, ys, e, hs2, r2⟩ := (Sta.top S).lsq S.zh hd2
  cases e
  refine ⟨fun i d hi => ?_, xs, ys, hs, hs2, ?_⟩
  · obtain ⟨u, w, hu, hw, rfl⟩ := zipD_get hi
    obtain ⟨x, hx, rx⟩ := r.get hu
    obtain ⟨y, hy, ry⟩ := r2.get hw
    refine ⟨⟨xs, ys, x, y, hs, hs2, hx, hy⟩, fun z H' ⟨T, x', y', e1, hT, e2, f1, f2⟩ => ?_⟩
    subst e1 e2
    have q1 := f1 xs hs
    have q2 := f2 ys hs2
    rw [hx] at q1
    rw [hy] at q2
    cases q1
    cases q2
    exact ⟨_, S.newF (o := .tup [x, y]) hT (.tup (SqT.of upd_same) (RepDs.mono (same_upd (S.zh.free hT)) _ _ (.cons rx (.cons ry .nil))))⟩
  · rw [zipD_len, r.length, r2.length]
    omega
theorem isIt_zipT {a c : Addr} {l k : List D} : IsIt C (RZ.ItzT C.K a c) [.ref c, .ref a] [.v (.tup k), .v (.tup l)] (zipD l k) := by
  intro b Z H σ ρ vs as S
  have t := Sta.top2 S
  have t2 := Sta.top S
  cases t with
  | @tup _ xs _ h1 r =>
    cases t2 with
    | @tup _ ys _ h2 r2 =>
      have hs := sameT S.zh h1
      have hs2 := sameT S.zh h2
      refine ⟨fun i d hi => ?_, xs, ys, hs, hs2, ?_⟩
      · obtain ⟨u, w, hu, hw, rfl⟩ := zipD_get hi
        obtain ⟨x, hx, rx⟩ := r.get hu
        obtain ⟨y, hy, ry⟩ := r2.get hw
        refine ⟨⟨xs, ys, x, y, hs, hs2, hx, hy⟩, fun z H' ⟨T, x', y', e1, hT, e2, f1, f2⟩ => ?_⟩
        subst e1 e2
        have q1 := f1 xs hs
        have q2 := f2 ys hs2
        rw [hx] at q1
        rw [hy] at q2
        cases q1
        cases q2
        exact ⟨_, S.newF (o := .tup [x, y]) hT (.tup (SqT.of upd_same) (RepDs.mono (same_upd (S.zh.free hT)) _ _ (.cons rx (.cons ry .nil))))⟩
      · rw [zipD_len, r.length, r2.length]
        omega
theorem di_zip (hK : X.K = C.K) (hg : Gl X "zip") (hm : X.mg "zip" = none) (ha : PE X e (tE C f)) (hb : PE X e2 (tE C g)) (hs : starEach [e, e2] X.env = (false, eval e X.env) :: starEach [e2] X.env := by rfl) (hpl : (backTo pos (starEach [e2] X.env)).any (·.1) = false := by rfl)
    (ht2 : starEach (e2 :: []) X.env = (false, eval e2 X.env) :: starEach [] X.env := by rfl) : PI X (.Tuple elts kk tpos) (.Call (.Name "zip" p) [e, e2] [] pos) (tI C (dZip f g)) := by
  refine PI.w (RZ.pi_zipA hg hm (pa_cons ha (pa_cons hb pa_nil ht2) hs) hs hpl) fun σ H R k => ?_
  refine (Go.bindE k).mono fun x H1 ⟨a, k1⟩ => (Go.bindE k1).mono fun y H2 ⟨c, k2⟩ => ?_
  obtain ⟨ds, e1, b, Z, ρ, vs, as, hb, _, S, k3⟩ := go_ofO k2
  rw [hK]
  obtain ⟨Z', S'⟩ := Sta.freeze2 (vs := vs) (as := as) S
  have t := Sta.top2 S'
  have t2 := Sta.top S'
  unfold zipO at e1
  split at e1
  · rename_i l k h1 h2
    cases e1
    obtain ⟨q, xs, rfl, hs, r⟩ := t.lsq S'.zh h1
    obtain ⟨q2, ys, rfl, hs2, r2⟩ := t2.lsq S'.zh h2
    exact ⟨q, q2, xs, ys, rfl, .inl ⟨hs, hs2, k3 _ _ [.ref q2, .ref q] [.v _, .v _] _ rfl S' (isIt_zip h1 h2)⟩⟩
  · split at e1
    · rename_i l k h1 h2
      cases e1
      generalize a.frz = d at h1 t S'
      generalize c.frz = d2 at h2 t2 S'
      cases t with
      | @tup q xs l' h3 r =>
        cases h1
        cases t2 with
        | @tup q2 ys k' h4 r2 =>
          cases h2
          exact ⟨q, q2, xs, ys, rfl, .inr ⟨sameT S'.zh h3, sameT S'.zh h4, k3 _ _ [.ref q2, .ref q] [.v (.tup _), .v (.tup _)] _ rfl S' isIt_zipT⟩⟩
        | _ => cases h2
      | _ => cases h1
    · cases e1
theorem enumD_get {l : List D} {i : Nat} {d : D} (h : (enumD l)[i]? = some d) : ∃ x, l[i]? = some x ∧ d = .tup [.int (i : Nat), x] := by
  unfold enumD at h
  rw [List.getElem?_map, List.getElem?_zipIdx] at h
  cases e : l[i]? with
  | none => rw [e] at h; cases h
  | some q =>
    rw [e] at h
    refine ⟨q, rfl, ?_⟩
    have h : some (D.tup [.int ((0 + i : Nat) : Int), q]) = some d := h
    rw [Nat.zero_add] at h
    cases h
    rfl
theorem isIt_enum {a : Addr} {d : D} {l : List D} (hd : lstD d = some l) : IsIt C (Ite C.K a) [.ref a] [.v d] (enumD l) := by
  intro b Z H σ ρ vs as S
  obtain ⟨q, xs, e, hs, r⟩ := (Sta.top S).lsq S.zh hd
  cases e
  refine ⟨fun i d hi => ?_, xs, hs, ?_⟩
  · obtain ⟨u, hu, rfl⟩ := enumD_get hi
    obtain ⟨x, hx, rx⟩ := r.get hu
    refine ⟨⟨xs, x, hs, hx⟩, fun z H' ⟨T, x', e1, hT, e2, f1⟩ => ?_⟩
    subst e1 e2
    have q1 := f1 xs hs
    rw [hx] at q1
    cases q1
    exact ⟨_, S.newF (o := .tup [.int (i : Nat), x]) hT (.tup (SqT.of upd_same) (RepDs.mono (same_upd (S.zh.free hT)) _ _ (.cons (.int _) (.cons rx .nil))))⟩
  · unfold enumD
    rw [List.length_map, List.length_zipIdx, r.length]
    exact Nat.le_refl _
theorem di_enum (hK : X.K = C.K) (hg : Gl X "enumerate") (hm : X.mg "enumerate" = none) (ha : PE X e (tE C f)) (hs : starEach [e] X.env = [(false, eval e X.env)] := by rfl) (hs' : starEach (e :: []) X.env = (false, eval e X.env) :: starEach [] X.env := by rfl) :
    PI X (.Tuple elts kk tpos) (.Call (.Name "enumerate" p) [e] [] pos) (tI C (dEnum f)) := by
  refine PI.w (pi_enum hg hm (pa_cons ha pa_nil hs') hs) fun σ H R k => ?_
  refine (Go.bindE k).mono fun x H1 ⟨a, k1⟩ => ?_
  obtain ⟨ds, e1, b, Z, ρ, vs, as, hb, _, S, k3⟩ := go_ofO k1
  rw [hK]
  obtain ⟨Z', _, S'⟩ := Sta.freeze (vs := vs) (as := as) S
  cases h1 : lstD a.frz with
  | none => rw [h1] at e1; cases e1
  | some l =>
    rw [h1] at e1
    cases e1
    obtain ⟨q, xs, rfl, hs, r⟩ := (Sta.top S').lsq S'.zh h1
    exact ⟨q, xs, rfl, hs, k3 _ _ [.ref q] [.v _] _ rfl S' (isIt_enum h1)⟩
end

def ipC (cd : Int → Int → Prop) (g : Int → Int → Int) : TIp := fun x y H Q => ∃ i j, x = .int i ∧ y = .int j ∧ cd i j ∧ Q (.int (g i j)) H
theorem ip_mulC {X : Cx} : PIp X .Mult (ipC MulC fun i j => i * j) := by
  intro pins s σ H x y v u Q I r1 r2 h
  obtain ⟨i, j, e1, e2, hc, q⟩ := h
  subst e1; subst e2
  obtain ⟨t, rfl⟩ := r1
  obtain ⟨t', rfl⟩ := r2
  exact PyProof.Rows.imul_int ⟨.int _, H, I.tok _, ⟨_, rfl⟩, q⟩ (mulOk hc)
theorem ip_addC {X : Cx} : PIp X .Add (ipC (fun _ _ => True) fun i j => i + j) := fun pins s σ H x y v u Q I r1 r2 h => by
  obtain ⟨i, j, e1, e2, _, q⟩ := h
  exact ip_add pins s σ H x y v u Q I r1 r2 ⟨i, j, e1, e2, q⟩
theorem ip_subC {X : Cx} : PIp X .Sub (ipC (fun _ _ => True) fun i j => i - j) := fun pins s σ H x y v u Q I r1 r2 h => by
  obtain ⟨i, j, e1, e2, _, q⟩ := h
  exact ip_sub pins s σ H x y v u Q I r1 r2 ⟨i, j, e1, e2, q⟩
open Classical in
noncomputable def dAug (cd : Int → Int → Prop) (g : Int → Int → Int) (i : Nat) (f : M A) : M Flow := fun ρ => match ρ[i]? with
  | some (some (.v (.int x))) => (f.bind fun a ρ1 => match a with
    | .v (.int y) => if cd x y ∧ i < ρ1.length then .ok .nx (ρ1.set i (some (.v (.int (g x y))))) else .bad
    | _ => .bad) ρ
  | _ => .bad
section
variable {C : SC} {X : Cx} {e : Expr} {f : M A} {i : Nat} {x : Str} {op : Operator} {pos pos' : Pos} {cd : Int → Int → Prop} {g : Int → Int → Int}
open Classical in
theorem ds_aug (ho : PIp X op (ipC cd g)) (hN : X.N.Nodup) (hi : X.N[i]? = some x) (hx : Loc X.env.scope x) (hn : i ∉ C.pn) (he : PE X e (tE C f)) (hf : X.fn x = true ∨ X.env.scope.names.lookup x = some .local := by first | exact .inl rfl | exact .inr rfl | assumption) :
    PS X (.AugAssign (.Name x pos') op e pos) (tS C (dAug cd g i f)) := by
  refine PS.w (ps_aug hN hi hx he ho hf) fun D σ H ⟨b, Z, ρ, vs, as, hb, hl, S, k⟩ => ?_
  unfold dAug at k
  split at k
  · rename_i n hn0
    obtain ⟨y, e, r⟩ := Sta.slot (vs := vs) (as := as) S hn0
    cases r
    refine ⟨_, e, ?_⟩
    have k' : Go C (finS C D) [] [] (f.bind fun a ρ1 => match a with
      | .v (.int y) => if cd n y ∧ i < ρ1.length then .ok .nx (ρ1.set i (some (.v (.int (g n y))))) else .bad
      | _ => .bad) σ H := ⟨b, Z, ρ, vs, as, hb, rfl, S, k⟩
    refine (Go.bindE k').mono fun y H1 ⟨a, b, Z, ρ1, vs, as, hb, _, S, k1⟩ => ?_
    dsimp only at k1
    split at k1
    · rename_i m
      split at k1
      · rename_i hz
        have t := Sta.top (vs := vs) (as := as) S
        cases t
        exact ⟨_, _, rfl, rfl, hz.1, k1 _ _ _ (((Sta.pop (vs := vs) (as := as) S).push (.int _)).store hz.2 (by rw [hb.pn]; exact hn))⟩
      · exact k1.elim
    · exact k1.elim
  · exact k.elim
end

def frzE : DEnv → DEnv
  | [] => []
  | none :: ρ => none :: frzE ρ
  | some a :: ρ => some (.v a.frz) :: frzE ρ
def dBor (f : M A) : M A := fun ρ => match f (frzE ρ) with
  | .ok (.v d) _ => if d.flat = true then .ok (.v d) ρ else .bad
  | _ => .bad
def dBorT (f : M Bool) : M Bool := fun ρ => match f (frzE ρ) with
  | .ok d _ => .ok d ρ
  | _ => .bad
section
variable {K : PySem.W.Frag} {mg : Str → Option Value} {b : Base} {Z H : Hp} {σ : St} {ρ : DEnv} {vs : List V} {as : List A}
theorem same_noT {Z H : Hp} (z : Same Z H) (nt : ∀ a ps, Z a ≠ some (.tbl ps)) : Same Z (noT H) := fun a o e => noT_of (z a o e) fun ps q => nt a ps (by rw [e, q])
theorem same_ext {Z H H' : Hp} (z : Same Z H) (nt : ∀ a ps, Z a ≠ some (.tbl ps)) (x : LamX.ExtN H H') : Same Z H' := fun a o e => x a o (z a o e) fun ps q => nt a ps (by rw [e, q])
theorem SRep.frzE {P P' : Nat → Addr → Prop} (z : Same Z (noT H)) : ∀ {σ : St} {n : Nat} {ρ : DEnv} {f : List Addr}, SRep K mg P Z H n σ ρ f → SRep K mg P' (noT H) H n σ (DD.frzE ρ) []
  | [], _, _, _, h => by cases h; exact .nil
  | _ :: σ, _, _, _, h => by
    cases h with
    | no h => exact .no (SRep.frzE z h)
    | so h1 h2 h3 =>
      have q := SRep.so (P := P') (f := []) (g := []) (.v (RepA.freeze z _ _ _ (fun b hb => by
        obtain ⟨o, e, m⟩ := RepA.thereM _ _ _ h1 b hb
        rw [e]; exact noT_of e m.nt) h1)) (fun b hb => by cases hb) (SRep.frzE z h3)
      exact q
def Base.bor (H : Hp) (pn : List Nat) (kn : List (Nat × V)) (σ : St) : Base := ⟨noT H, H, fun _ _ => False, pn, σ, kn⟩
theorem Sta.bor (S : Sta K mg b Z H σ ρ vs as) : Sta K mg (Base.bor H b.pn b.kn σ) (noT H) H σ (DD.frzE ρ) [] [] := by
  obtain ⟨f, g, h1, h2, h3, h4, h5⟩ := S.rep
  exact ⟨Same.refl _, noT_same, fun _ _ => rfl, fun _ _ e _ _ => e, fun _ h => h, ⟨S.sd.tabs, noT_nt, fun p hp => ⟨(S.sd.kn p hp).1, (S.pin _ (S.sd.kn p hp).1).trans (S.sd.kn p hp).2⟩⟩, fun _ _ => rfl, fun _ _ h => h.elim, [], [], SRep.frzE (same_noT S.zh S.sd.nt) h1, .nil, fun _ => by simp, fun _ h => by simp at h, fun _ h => by cases h⟩
theorem Sta.unbor {pn : List Nat} {kn : List (Nat × V)} {σ' : St} {Z' H' : Hp} {ρ' : DEnv} {ws : List V} {l : List A} (S : Sta K mg b Z H σ ρ vs as) (S' : Sta K mg (Base.bor H pn kn σ) Z' H' σ' ρ' ws l) : Sta K mg b Z H' σ ρ vs as := by
  have hh : LamX.ExtN H H' := fun q o e n => S'.kh q o e (fun _ h => h) n
  exact S.grow (Same.refl Z) (same_ext S.zh S.sd.nt hh) hh S'.sd.tabs S.sd.nt (fun _ _ => rfl)
theorem RepD.flatAny {Z Z' : Hp} {x : V} {d : D} (f : d.flat = true) (r : RepD K mg Z x d) : RepD K mg Z' x d := by
  cases r with
  | non => exact .non
  | bl b => exact .bl b
  | int b => exact .int b
  | str b => exact .str b
  | _ => cases f
variable {X : Cx} {C : SC} {e : Expr} {f : M A} {p : M Bool}
theorem de_bor (he : PE X e (tE C f)) : PE X e (tE C (dBor f)) := by
  refine PE.w he fun σ H Q ⟨b, Z, ρ, vs, as, hb, hl, S, k⟩ => ?_
  refine ⟨Base.bor H b.pn b.kn σ, noT H, DD.frzE ρ, [], [], ⟨hb.pn, hb.kn⟩, rfl, Sta.bor (vs := vs) (as := as) S, ?_⟩
  unfold dBor at k
  revert k
  cases e0 : f (DD.frzE ρ) with
  | ok a ρ' =>
    intro k
    split at k
    · rename_i d ρ2 e1
      cases e1
      split at k
      · rename_i hf
        intro Z' H' v S'
        exact k _ _ _ (Sta.push (Sta.unbor (vs := vs) (as := as) S S') (RepD.flatAny hf S'.top))
      · exact k.elim
    · exact k.elim
  | exc e ρ' => intro k; exact k.elim
  | bad => intro k; exact k.elim
theorem dt_bor (he : PT X e (tT C p)) : PT X e (tT C (dBorT p)) := by
  refine PT.w he fun σ H Q ⟨b, Z, ρ, vs, as, hb, hl, S, k⟩ => ?_
  refine ⟨Base.bor H b.pn b.kn σ, noT H, DD.frzE ρ, [], [], ⟨hb.pn, hb.kn⟩, rfl, Sta.bor (vs := vs) (as := as) S, ?_⟩
  unfold dBorT at k
  revert k
  cases e0 : p (DD.frzE ρ) with
  | ok a ρ' =>
    intro k Z' H' S'
    exact k _ _ (Sta.unbor (vs := vs) (as := as) S S')
  | exc e ρ' => intro k; exact k.elim
  | bad => intro k; exact k.elim
end

section
variable {ρ : DEnv} {E : Ex → DEnv → Prop} {f g : M A} {p : M Bool} {Q : A → DEnv → Prop} {QB : Bool → DEnv → Prop} {QD : List D → DEnv → Prop} {QF : Flow → DEnv → Prop}
theorem w_fmt (k : Wp (f ρ) (fun a ρ1 => Wo (fmtA a) fun y => Q (.v (.str y)) ρ1) E) : Wp (dFmt f ρ) Q E := wp_bind (wp_mono k (fun _ _ ⟨y, e, k⟩ => by rw [e]; exact wp_ofO ⟨_, rfl, k⟩) fun _ _ z => z)
def Wjs (a : A) (P : Str → Prop) : Prop := ∃ y, a = .v (.str y) ∧ P y
theorem wjs {y : Str} {P : Str → Prop} (h : P y) : Wjs (.v (.str y)) P := ⟨y, rfl, h⟩
theorem w_jsnil {acc : Str} (k : Q (.v (.str acc)) ρ) : Wp (dJs [] acc ρ) Q E := wp_pure k
theorem w_jscons {fs : List (M A)} {acc : Str} (k : Wp (f ρ) (fun a ρ1 => Wjs a fun y => (acc ++ y).length ≤ sizeLine ∧ Wp (dJs fs (acc ++ y) ρ1) Q E) E) : Wp (dJs (f :: fs) acc ρ) Q E :=
  wp_bind (wp_mono k (fun _ _ ⟨y, e, h, k⟩ => by subst e; dsimp only; rw [if_pos h]; exact k) fun _ _ z => z)
theorem w_join {s : Str} (k : Wp (f ρ) (fun a ρ1 => Wo (opJoin s a) fun r => Q r ρ1) E) : Wp (dJoin s f ρ) Q E := wp_bind (wp_mono k (fun _ _ k => wp_ofO k) fun _ _ z => z)
theorem w_zip (k : Wp (f ρ) (fun a ρ1 => Wp (g ρ1) (fun c ρ2 => Wo (zipO a c) fun ds => QD ds ρ2) E) E) : Wp (dZip f g ρ) QD E := wp_bind (wp_mono k (fun _ _ k => wp_bind (wp_mono k (fun _ _ k => wp_ofO k) fun _ _ z => z)) fun _ _ z => z)
theorem w_enum (k : Wp (f ρ) (fun a ρ1 => Wo (lstD a.frz) fun ds => QD (enumD ds) ρ1) E) : Wp (dEnum f ρ) QD E := wp_bind (wp_mono k (fun _ _ ⟨ds, e, k⟩ => by rw [e]; exact wp_ofO ⟨_, rfl, k⟩) fun _ _ z => z)
theorem w_aug {cd : Int → Int → Prop} {gg : Int → Int → Int} {i : Nat} {x : Int} (e : ρ[i]? = some (some (.v (.int x)))) (k : Wp (f ρ) (fun a ρ1 => Win a fun y => (cd x y ∧ i < ρ1.length) ∧ QF .nx (ρ1.set i (some (.v (.int (gg x y)))))) E) : Wp (dAug cd gg i f ρ) QF E := by
  unfold dAug
  rw [e]
  exact wp_bind (wp_mono k (fun _ _ ⟨y, e, h, k⟩ => by subst e; dsimp only; rw [if_pos h]; exact Wp.mk k) fun _ _ z => z)
def Wfl (a : A) (P : D → Prop) : Prop := ∃ d, a = .v d ∧ d.flat = true ∧ P d
theorem wfl_bl {b : Bool} {P : D → Prop} (h : P (.bl b)) : Wfl (.v (.bl b)) P := ⟨_, rfl, rfl, h⟩
theorem wfl_int {b : Int} {P : D → Prop} (h : P (.int b)) : Wfl (.v (.int b)) P := ⟨_, rfl, rfl, h⟩
theorem w_bor (k : Wp (f (frzE ρ)) (fun a _ => Wfl a fun d => Q (.v d) ρ) fun _ _ => False) : Wp (dBor f ρ) Q E := by
  unfold dBor
  revert k
  cases e0 : f (frzE ρ) with
  | ok a ρ' =>
    intro k
    obtain ⟨d, rfl, h, k⟩ := k.out
    dsimp only
    rw [if_pos h]
    exact Wp.mk k
  | exc e ρ' => intro k; exact k.out.elim
  | bad => intro k; exact k.out.elim
theorem w_borT (k : Wp (p (frzE ρ)) (fun a _ => QB a ρ) fun _ _ => False) : Wp (dBorT p ρ) QB E := by
  unfold dBorT
  revert k
  cases e0 : p (frzE ρ) with
  | ok a ρ' =>
    intro k
    exact Wp.mk k.out
  | exc e ρ' => intro k; exact k.out.elim
  | bad => intro k; exact k.out.elim
end
end DD

namespace DD
open PySem PySem.Spec L2
open PyProof.Rows hiding St
variable [LamN]
open TL

structure TOk (n : Nat) (x : Str) : Prop where
  len : x.length ≤ n
  ok : PyData.strOk x = true
theorem strOk_tl {x : Str} : PyData.strOk x = true ↔ ∀ c ∈ tl x, c < 0x110000 := by
  unfold PyData.strOk tl
  rw [Array.all_eq_true']
  constructor
  · intro h c hc
    have := h c (Array.mem_toList_iff.mp hc)
    simpa using this
  · intro h c hc
    simpa using h c (Array.mem_toList_iff.mpr hc)
theorem TOk.mono {n m : Nat} {x : Str} (h : TOk n x) (k : n ≤ m) : TOk m x := ⟨Nat.le_trans h.len k, h.ok⟩
theorem TOk.app {n m : Nat} {x y : Str} (h : TOk n x) (g : TOk m y) : TOk (n + m) (x ++ y) := by
  refine ⟨?_, ?_⟩
  · rw [len_tl, tl_append, List.length_append, ← len_tl, ← len_tl]
    exact Nat.add_le_add h.len g.len
  · rw [strOk_tl, tl_append]
    intro c hc
    rcases List.mem_append.mp hc with hc | hc
    · exact strOk_tl.mp h.ok c hc
    · exact strOk_tl.mp g.ok c hc
theorem TOk.ofS (s : String) : PyData.strOk (Str.ofString s) = true := by
  rw [strOk_tl, tl_ofString]
  intro c hc
  obtain ⟨ch, _, rfl⟩ := List.mem_map.mp hc
  have := ch.valid
  rcases this with h | ⟨_, h⟩
  · exact Nat.lt_trans h (by decide)
  · exact h
theorem TOk.int {i : Int} (h : i.natAbs.log2 < 1920) : TOk 1921 (Str.ofString (toString i)) := ⟨int_text_len_1921 h, TOk.ofS _⟩
theorem joinL_len {n k : Nat} {S : List Nat} (hS : S.length ≤ k) : ∀ {l : List (List Nat)}, (∀ x ∈ l, x.length ≤ n) → (joinL S l).length ≤ l.length * (n + k)
  | [], _ => Nat.zero_le _
  | [x], h => by
    have h1 := h x (by simp)
    simp only [joinL, List.length_cons, List.length_nil]
    omega
  | x :: y :: l, h => by
    have h1 := h x (by simp)
    have h2 := joinL_len hS (l := y :: l) fun z hz => h z (List.mem_cons_of_mem _ hz)
    simp only [joinL, List.length_cons, List.length_append] at h2 ⊢
    rw [Nat.add_mul (l.length + 1) 1 (n + k)]
    omega
theorem joinL_mem {S : List Nat} {c : Nat} : ∀ {l : List (List Nat)}, c ∈ joinL S l → c ∈ S ∨ ∃ x ∈ l, c ∈ x
  | [], h => by cases h
  | [x], h => .inr ⟨x, by simp, h⟩
  | x :: y :: l, h => by
    simp only [joinL, List.mem_append] at h
    rcases h with h | h | h
    · exact .inr ⟨x, by simp, h⟩
    · exact .inl h
    · rcases joinL_mem h with h | ⟨z, hz, h⟩
      · exact .inl h
      · exact .inr ⟨z, List.mem_cons_of_mem _ hz, h⟩
theorem TOk.join {n k : Nat} {s : Str} {ys : List Str} (hs : TOk k s) (h : ∀ y ∈ ys, TOk n y) : TOk (ys.length * (n + k)) (Txt.join s ys) := by
  rw [join_eq]
  refine ⟨?_, ?_⟩
  · rw [len_tl, tl_join]
    have := joinL_len (n := n) (k := k) (S := tl s) (by rw [← len_tl]; exact hs.len) (l := ys.map tl) fun x hx => by
      obtain ⟨y, hy, rfl⟩ := List.mem_map.mp hx
      rw [← len_tl]
      exact (h y hy).len
    simpa using this
  · rw [strOk_tl, tl_join]
    intro c hc
    rcases joinL_mem hc with hc | ⟨x, hx, hc⟩
    · exact strOk_tl.mp hs.ok c hc
    · obtain ⟨y, hy, rfl⟩ := List.mem_map.mp hx
      exact strOk_tl.mp (h y hy).ok c hc
theorem TOk.sum {n k : Nat} {s : Str} (hs : TOk k s) : ∀ {ys : List Str}, (∀ y ∈ ys, TOk n y) → (ys.map (·.length)).sum + ys.length * s.length ≤ ys.length * (n + k)
  | [], _ => by simp
  | y :: ys, h => by
    have h1 := (h y (by simp)).len
    have h2 := TOk.sum hs (ys := ys) fun z hz => h z (List.mem_cons_of_mem _ hz)
    have h3 := hs.len
    simp only [List.map_cons, List.sum_cons, List.length_cons]
    rw [Nat.add_mul, Nat.add_mul]
    omega

mutual
def okc : Nat → D → Bool
  | _, .non => true
  | _, .bl _ => true
  | _, .int _ => true
  | _, .str x => PyData.strOk x
  | k + 1, .tup l => okcs k l
  | k + 1, .lst l => okcs k l
  | k + 1, .fz l => okcs k l
  | _, _ => false
def okcs : Nat → List D → Bool
  | _, [] => true
  | k, d :: l => okc k d && okcs k l
end
mutual
theorem okc_plain : ∀ (d : D) (k : Nat), okc k d = true → d.plain = true ∧ d.py.canLay0 = true ∧ d.py.depth ≤ k
  | .non, k, _ => ⟨by simp [D.plain], by simp [D.py, PyData.canLay0], by simp [D.py, PyData.depth]⟩
  | .bl _, k, _ => ⟨by simp [D.plain], by simp [D.py, PyData.canLay0], by simp [D.py, PyData.depth]⟩
  | .int _, k, _ => ⟨by simp [D.plain], by simp [D.py, PyData.canLay0], by simp [D.py, PyData.depth]⟩
  | .str x, k, h => ⟨by simp [D.plain], by simpa [D.py, PyData.canLay0, okc] using h, by simp [D.py, PyData.depth]⟩
  | .tup l, k + 1, h => by
    obtain ⟨h1, h2, h3⟩ := okcs_plain l k (by simpa [okc] using h)
    exact ⟨by simpa [D.plain] using h1, by simpa [D.py, PyData.canLay0] using h2, by simpa [D.py, PyData.depth] using h3⟩
  | .lst l, k + 1, h => by
    obtain ⟨h1, h2, h3⟩ := okcs_plain l k (by simpa [okc] using h)
    exact ⟨by simpa [D.plain] using h1, by simpa [D.py, PyData.canLay0] using h2, by simpa [D.py, PyData.depth] using h3⟩
  | .fz l, k + 1, h => by
    obtain ⟨h1, h2, h3⟩ := okcs_plain l k (by simpa [okc] using h)
    exact ⟨by simpa [D.plain] using h1, by simpa [D.py, PyData.canLay0] using h2, by simpa [D.py, PyData.depth] using h3⟩
  | .tup _, 0, h => by simp [okc] at h
  | .lst _, 0, h => by simp [okc] at h
  | .fz _, 0, h => by simp [okc] at h
  | .ins _ _ _, k, h => by cases k <;> simp [okc] at h
theorem okcs_plain : ∀ (l : List D) (k : Nat), okcs k l = true → plains l = true ∧ PyData.canLayAll0 (pys l) = true ∧ PyData.depthAll (pys l) ≤ k
  | [], k, _ => ⟨by simp [plains], by simp [pys, PyData.canLayAll0], by simp [pys, PyData.depthAll]⟩
  | d :: l, k, h => by
    have h' : okc k d = true ∧ okcs k l = true := by simpa [okcs] using h
    obtain ⟨h1, h2, h3⟩ := okc_plain d k h'.1
    obtain ⟨g1, g2, g3⟩ := okcs_plain l k h'.2
    exact ⟨by simp [plains, h1, g1], by simp [pys, PyData.canLayAll0, h2, g2], by simp [pys, PyData.depthAll]; omega⟩
end
theorem okc_cmp {k : Nat} {d : D} (h : okc k d = true) (hk : k ≤ 64) : d.cmp = true := by
  obtain ⟨h1, h2, h3⟩ := okc_plain d k h
  have : SeqAt.shaped d.py = true := by
    unfold SeqAt.shaped
    rw [h2, decide_eq_true (Nat.le_trans h3 hk)]
    rfl
  simp [D.cmp, h1, this]
theorem okcs_all {k : Nat} : ∀ {l : List D}, (∀ d ∈ l, okc k d = true) → okcs k l = true
  | [], _ => by simp [okcs]
  | d :: l, h => by simp [okcs, h d (by simp), okcs_all (l := l) fun e he => h e (List.mem_cons_of_mem _ he)]
theorem okc_tup {k : Nat} {l : List D} (h : ∀ d ∈ l, okc k d = true) : okc (k + 1) (.tup l) = true := by unfold okc; exact okcs_all h
theorem okc_lst {k : Nat} {l : List D} (h : ∀ d ∈ l, okc k d = true) : okc (k + 1) (.lst l) = true := by unfold okc; exact okcs_all h
theorem okc_int {k : Nat} {i : Int} : okc k (.int i) = true := by cases k <;> simp [okc]
theorem okc_str {k n : Nat} {x : Str} (h : TOk n x) : okc k (.str x) = true := by cases k <;> simpa [okc] using h.ok
section
variable {P : A → Prop} {a c : A} {k j : Nat}
theorem wo_eqD (h : okc k a.frz = true) (g : okc j c.frz = true) (hk : k ≤ 64) (hj : j ≤ 64) (q : P (.v (.bl (PyData.eqv a.frz.py c.frz.py)))) : Wo (opEq a c) P := by
  refine wo_eq ?_ q
  unfold opEq opEqv
  rw [okc_cmp h hk, okc_cmp g hj]
  rfl
theorem wo_neD (h : okc k a.frz = true) (g : okc j c.frz = true) (hk : k ≤ 64) (hj : j ≤ 64) (q : P (.v (.bl (!PyData.eqv a.frz.py c.frz.py)))) : Wo (opNe a c) P := by
  refine wo_eq ?_ q
  unfold opNe opEqv
  rw [okc_cmp h hk, okc_cmp g hj]
  rfl
theorem eqv_self {d : D} (h : okc k d = true) : PyData.eqv d.py d.py = true := SeqAt.eqv_refl _ (okc_plain d k h).2.1
/-- both sides the same -/
theorem wo_eqS (e : c.frz = a.frz) (h : okc k a.frz = true) (hk : k ≤ 64) (q : P (.v (.bl true))) : Wo (opEq a c) P :=
  wo_eqD h (by rw [e]; exact h) hk hk (by rw [e, eqv_self h]; exact q)
theorem wo_neS (e : c.frz = a.frz) (h : okc k a.frz = true) (hk : k ≤ 64) (q : P (.v (.bl false))) : Wo (opNe a c) P :=
  wo_neD h (by rw [e]; exact h) hk hk (by rw [e, eqv_self h]; exact q)
/-- a list against the empty one -/
theorem wo_neNil {l : List D} (h : okc k (.lst l) = true) (hk : k ≤ 64) (q : P (.v (.bl (!l.isEmpty)))) : Wo (opNe (.v (.lst l)) (.m [])) P := by
  refine wo_neD (k := k) (j := k) h ?_ hk hk ?_
  · cases k with
    | zero => simp [okc] at h
    | succ k => simp [A.frz, frzs, okc, okcs]
  · have : PyData.eqv (A.v (.lst l)).frz.py (A.m []).frz.py = l.isEmpty := by
      cases l <;> simp [A.frz, frzs, D.py, pys, PyData.eqv, PyData.eqvAll]
    rw [this]
    exact q
theorem wo_eqNil {l : List D} (h : okc k (.lst l) = true) (hk : k ≤ 64) (q : P (.v (.bl l.isEmpty))) : Wo (opEq (.v (.lst l)) (.m [])) P := by
  refine wo_eqD (k := k) (j := k) h ?_ hk hk ?_
  · cases k with
    | zero => simp [okc] at h
    | succ k => simp [A.frz, frzs, okc, okcs]
  · have : PyData.eqv (A.v (.lst l)).frz.py (A.m []).frz.py = l.isEmpty := by
      cases l <;> simp [A.frz, frzs, D.py, pys, PyData.eqv, PyData.eqvAll]
    rw [this]
    exact q
end
/-- a list of values by their data -/
def AllV (P : D → Prop) (l : List A) : Prop := ∀ e ∈ l, ∃ d, e = .v d ∧ P d
theorem AllV.nil {P : D → Prop} : AllV P [] := fun e h => by cases h
theorem AllV.snoc {P : D → Prop} {l : List A} {d : D} (h : AllV P l) (g : P d) : AllV P (l ++ [.v d]) := fun e he => by
  rcases List.mem_append.mp he with he | he
  · exact h e he
  · simp at he; exact ⟨d, he, g⟩
theorem AllV.frz {P : D → Prop} {l : List A} (h : AllV P l) : ∀ d ∈ frzs l, P d := fun d hd => by
  rw [frzs_eq] at hd
  obtain ⟨e, he, rfl⟩ := List.mem_map.mp hd
  obtain ⟨d, rfl, g⟩ := h e he
  exact g
theorem AllV.mono {P P' : D → Prop} {l : List A} (h : AllV P l) (k : ∀ d, P d → P' d) : AllV P' l := fun e he => let ⟨d, q, g⟩ := h e he; ⟨d, q, k d g⟩
end DD

namespace DD
open PySem PySem.Spec L2
open PyProof.Rows hiding St
variable [LamN]
def gLstD (n : Nat) (gs : List D → M Unit) : D → M Unit := fun d => match lstD d with
  | some ds => if ds.length = n then gs ds else fun _ => .bad
  | none => fun _ => .bad
section
variable {C : SC} {X : Cx} {es : List Expr} {gs : List D → M Unit} {sl : List Nat} {pos : Pos} {n k : Nat}
theorem dg_lst (hK : X.K = C.K) (hc : X.calm = true) (h : PGs X es (tGs C sl gs)) (hn : (assignEach es X.env).length = n := by rfl) (hst : (assignEach es X.env).findIdx? (·.1) = none := by rfl) : PG X (.Tuple es k pos) (tG C sl (gLstD n gs)) := by
  refine PG.w (pg_unl hc h hn hst) fun v σ H Q ⟨b, Z, ρ, vs, as, d, hb, S, k⟩ => ?_
  unfold gLstD at k
  cases hd : lstD d with
  | none => rw [hd] at k; exact k.elim
  | some ds =>
    rw [hd] at k
    dsimp only at k
    by_cases hz : ds.length = n
    · rw [if_pos hz] at k
      rw [hK]
      obtain ⟨q, xs, rfl, hs, r⟩ := (Sta.top S).lsq S.zh hd
      exact ⟨q, xs, rfl, hs, by rw [r.length]; exact hz, b, Z, ρ, vs, as, _, hb, r.length, (Sta.pop S).pushes r, k⟩
    · rw [if_neg hz] at k; exact k.elim
end
mutual
inductive KD (K : PySem.W.Frag) : Value → D → Prop
  | int (i : Int) (t : Nat) : KD K (.int i t) (.int i)
  | tup {a : Addr} {o : Obj} {its : Array Value} {n : Nat} {ds : List D} (l : K.lookup a = some o) (c : o.cls = .type "tuple") (d : o.data = .seq its n) (z : its.size ≤ sizeLine) (r : KDs K its.toList ds) : KD K (.ref a) (.tup ds)
inductive KDs (K : PySem.W.Frag) : List Value → List D → Prop
  | nil : KDs K [] []
  | cons {u : Value} {us : List Value} {d : D} {ds : List D} (h : KD K u d) (r : KDs K us ds) : KDs K (u :: us) (d :: ds)
end
mutual
theorem KD.rep {K : PySem.W.Frag} {mg : Str → Option Value} : ∀ {u : Value} {d : D}, KD K u d → ∃ v, RelV v u ∧ ∀ Z, RepD K mg Z v d
  | _, _, .int i t => ⟨.int i, ⟨t, rfl⟩, fun _ => .int i⟩
  | _, _, .tup (a := a) (o := o) (its := its) (n := n) l c d z r =>
    let ⟨vs, h, k⟩ := KDs.rep (mg := mg) r
    ⟨.ref a, rfl, fun Z => .tup (.inr ⟨o, its, n, l, c, d, z, h⟩) (k Z)⟩
theorem KDs.rep {K : PySem.W.Frag} {mg : Str → Option Value} : ∀ {us : List Value} {ds : List D}, KDs K us ds → ∃ vs, Vals vs us ∧ ∀ Z, RepDs K mg Z vs ds
  | _, _, .nil => ⟨[], .nil, fun _ => .nil⟩
  | _, _, .cons h r =>
    let ⟨v, h1, k1⟩ := KD.rep (mg := mg) h
    let ⟨vs, h2, k2⟩ := KDs.rep (mg := mg) r
    ⟨v :: vs, .cons h1 h2, fun Z => .cons (k1 Z) (k2 Z)⟩
end
theorem glob_kd {K : PySem.W.Frag} {h : Heap} {mg : Str → Option Value} {x : Str} {a : Addr} {d : D} (X : K.In h) (G : h.Ns mainGlobals mg) (e : PySem.W.nsIn K mainGlobals x = some (some (.ref a))) (k : KD K (.ref a) d) : Glob K mg x d :=
  let ⟨v, h1, k1⟩ := k.rep (mg := mg)
  ⟨v, .ref a, PySem.W.mg_of X G e, h1, k1⟩
theorem w_glst {ρ : DEnv} {E : Ex → DEnv → Prop} {n : Nat} {gs : List D → M Unit} {d : D} {ds : List D} {Q : Unit → DEnv → Prop} (e : lstD d = some ds) (e2 : ds.length = n) (k : Wp (gs ds ρ) Q E) : Wp (gLstD n gs d ρ) Q E := by
  unfold gLstD
  rw [e]
  dsimp only
  rw [if_pos e2]
  exact k
end DD

namespace DD
open PySem PySem.Spec L2
open PyProof.Rows hiding St
variable [LamN]
def dN (p q : Int) : D := .tup [.int p, .int q]
def cmn (u d : Int) : Int := (Int.gcd u d : Int) * (if d < 0 then -1 else 1)
def canon (g u d : Int) : D := if 0 < g then dN (u.fmod g) 1 else dN (u.fdiv (cmn u d)) (d.fdiv (cmn u d))
def okd (g d : Int) : Prop := if 0 < g then d = 1 else d ≠ 0
def numB (g : Int) (d : D) : Bool := match d with
  | .tup [.int a, .int b] => if 0 < g then decide (0 ≤ a) && (decide (a < g) && decide (b = 1)) else decide (1 ≤ b) && decide (((Int.gcd a b : Nat) : Int) = 1)
  | _ => false
structure Num (g : Int) (R : Type) [Lean.Grind.CommRing R] where
  p : R → Int
  q : R → Int
  okp : ∀ r s, okd g (q r * q s)
  ok1 : ∀ r, okd g (q r)
  add : ∀ r s, canon g (p r * q s + p s * q r) (q r * q s) = dN (p (r + s)) (q (r + s))
  mul : ∀ r s, canon g (p r * p s) (q r * q s) = dN (p (r * s)) (q (r * s))
  neg : ∀ r, canon g (0 - p r) (q r) = dN (p (-r)) (q (-r))
  zero : dN (p 0) (q 0) = dN 0 1
  one : dN (p 1) (q 1) = dN 1 1
  mone : canon g (-1) 1 = dN (p (-1)) (q (-1))
  ex : ∀ u d, 0 < d → okd g d → ∃ r, canon g u d = dN (p r) (q r)
  good : ∀ r, numB g (dN (p r) (q r)) = true
section
variable {g : Int} {R : Type} [Lean.Grind.CommRing R] (N : Num g R)
def Num.nm (r : R) : D := dN (N.p r) (N.q r)
structure Num.B (n : Nat) (r : R) : Prop where
  p : Bd n (N.p r)
  q : Bd n (N.q r)
end
theorem dN_inj {a b c d : Int} (h : dN a b = dN c d) : a = c ∧ b = d := by
  unfold dN at h
  simp at h
  exact h
theorem cmn_ne {u d : Int} (h : d ≠ 0) : cmn u d ≠ 0 := by
  have hg : Int.gcd u d ≠ 0 := fun z => h (Int.gcd_eq_zero_iff.mp z).2
  unfold cmn
  split <;> omega
theorem canon_bd {g u d : Int} {n : Nat} (h4 : 4 ≤ n) (hg : g ≤ 13) (hu : Bd n u) (hd : Bd n d) : ∃ x y, canon g u d = dN x y ∧ Bd n x ∧ Bd n y := by
  unfold canon
  split
  · rename_i h
    have := fmod_range (i := u) h
    refine ⟨_, _, rfl, Bd.mono (n := 4) ?_ h4, Bd.one (by omega)⟩
    unfold Bd
    have : (2:Nat) ^ 4 = 16 := by decide
    omega
  · exact ⟨_, _, rfl, hu.le (Int.natAbs_fdiv_le_natAbs _ _), hd.le (Int.natAbs_fdiv_le_natAbs _ _)⟩
theorem Bd.addx {a b : Nat} {i j : Int} (h : Bd a i) (k : Bd b j) : Bd (max a b + 1) (i + j) := (h.mono (Nat.le_max_left _ _)).add (k.mono (Nat.le_max_right _ _))
section
variable {g : Int} {R : Type} [Lean.Grind.CommRing R] {N : Num g R} {a b : Nat} {r s : R}
theorem Num.B.mono (h : N.B a r) (k : a ≤ b) : N.B b r := ⟨h.p.mono k, h.q.mono k⟩
theorem Num.B.of {x y : Int} (e : dN x y = N.nm r) (h1 : Bd a x) (h2 : Bd a y) : N.B a r := by
  obtain ⟨e1, e2⟩ := dN_inj e
  exact ⟨e1 ▸ h1, e2 ▸ h2⟩
theorem Num.B.sums (h : N.B a r) (k : N.B b s) : Bd (a + b + 1) (N.p r * N.q s + N.p s * N.q r) := (h.p.mul k.q).add ((k.p.mul h.q).mono (by omega))
theorem Num.B.dens (h : N.B a r) (k : N.B b s) : Bd (a + b + 1) (N.q r * N.q s) := (h.q.mul k.q).mono (by omega)
theorem Num.B.add (h4 : 4 ≤ a) (hg : g ≤ 13) (h : N.B a r) (k : N.B b s) : N.B (a + b + 1) (r + s) := by
  obtain ⟨x, y, e, h1, h2⟩ := canon_bd (g := g) (n := a + b + 1) (by omega) hg (h.sums k) (h.dens k)
  exact Num.B.of (e.symm.trans (N.add r s)) h1 h2
theorem Num.B.mul (h4 : 4 ≤ a) (hg : g ≤ 13) (h : N.B a r) (k : N.B b s) : N.B (a + b) (r * s) := by
  obtain ⟨x, y, e, h1, h2⟩ := canon_bd (g := g) (n := a + b) (by omega) hg (h.p.mul k.p) (h.q.mul k.q)
  exact Num.B.of (e.symm.trans (N.mul r s)) h1 h2
theorem Num.B.neg (h4 : 4 ≤ a) (hg : g ≤ 13) (h : N.B a r) : N.B a (-r) := by
  obtain ⟨x, y, e, h1, h2⟩ := canon_bd (g := g) (n := a) (by omega) hg (u := 0 - N.p r) (by rw [Int.zero_sub]; exact h.p.neg) h.q
  exact Num.B.of (e.symm.trans (N.neg r)) h1 h2
theorem Num.B.zero (h4 : 1 ≤ a) : N.B a 0 := Num.B.of N.zero.symm Bd.zero (Bd.one h4)
theorem Num.B.one (h4 : 1 ≤ a) : N.B a 1 := Num.B.of N.one.symm (Bd.one h4) (Bd.one h4)
end

theorem canon_nat {u : Int} {d : Nat} (h : d ≠ 0) : canon 0 u d = dN (mkRat u d).num (mkRat u d).den := by
  unfold canon cmn
  rw [if_neg (by decide), if_neg (by omega), Int.mul_one, Rat.mkRat_def, dif_neg h, Rat.normalize_eq]
  have e : (Int.gcd u d : Int) = ((u.natAbs.gcd d : Nat) : Int) := by rw [Int.gcd, Int.natAbs_natCast]
  have e1 : u.fdiv (u.natAbs.gcd d : Nat) = u / (u.natAbs.gcd d : Nat) := Int.fdiv_eq_ediv_of_nonneg _ (by omega)
  have e2 : (d : Int).fdiv (u.natAbs.gcd d : Nat) = ((d / u.natAbs.gcd d : Nat) : Int) := by
    rw [Int.fdiv_eq_ediv_of_nonneg _ (by omega), Int.natCast_ediv]
  rw [e, e1, e2]
theorem rat_pos (r : Rat) : 0 < (r.den : Int) := by have := r.den_nz; omega
theorem rat_canon {u d : Int} (h : 0 < d) : canon 0 u d = dN (mkRat u d.toNat).num (mkRat u d.toNat).den := by
  have := canon_nat (u := u) (d := d.toNat) (by omega)
  rwa [Int.toNat_of_nonneg (by omega)] at this
def num0 : Num 0 Rat where
  p r := r.num
  q r := r.den
  okp r s := by
    unfold okd
    rw [if_neg (by decide)]
    have := Int.mul_pos (rat_pos r) (rat_pos s)
    omega
  ok1 r := by
    unfold okd
    rw [if_neg (by decide)]
    have := rat_pos r
    omega
  add r s := by
    rw [Rat.add_def', ← Int.natCast_mul, canon_nat (Nat.mul_ne_zero r.den_nz s.den_nz)]
  mul r s := by
    rw [Rat.mul_def', ← Int.natCast_mul, canon_nat (Nat.mul_ne_zero r.den_nz s.den_nz)]
  neg r := by
    rw [canon_nat r.den_nz, Int.zero_sub, ← Rat.neg_num]
    have e : mkRat (-r).num r.den = -r := by
      have := Rat.mkRat_self (-r)
      rwa [Rat.neg_den] at this
    rw [e]
  zero := rfl
  one := rfl
  mone := by
    have e : mkRat (-1) 1 = -1 := by decide +kernel
    have := canon_nat (u := -1) (d := 1) (by decide)
    rw [e] at this
    exact this
  ex u d h _ := ⟨_, rat_canon h⟩
  good r := by
    unfold numB dN
    dsimp only
    have h := rat_pos r
    have h2 := r.reduced
    rw [if_neg (by decide), decide_eq_true (by omega : 1 ≤ (r.den : Int)), Bool.true_and, decide_eq_true]
    rw [Int.gcd, Int.natAbs_natCast, h2]
    rfl

def numG (g : Int) (hg : 2 ≤ g) : Num g Int where
  p n := n.fmod g
  q _ := 1
  okp r s := by unfold okd; rw [if_pos (by omega)]; rfl
  ok1 r := by unfold okd; rw [if_pos (by omega)]
  add r s := by
    unfold canon
    rw [if_pos (by omega), Int.mul_one, Int.mul_one, ← Int.add_fmod]
  mul r s := by
    unfold canon
    rw [if_pos (by omega), ← Int.mul_fmod]
  neg r := by
    unfold canon
    rw [if_pos (by omega)]
    have e : (0 - r.fmod g).fmod g = (-r).fmod g := by
      rw [Int.fmod_eq_emod_of_nonneg _ (by omega), Int.fmod_eq_emod_of_nonneg _ (by omega), Int.fmod_eq_emod_of_nonneg _ (by omega), Int.emod_eq_emod_iff_emod_sub_eq_zero]
      have : 0 - r % g - -r = g * (r / g) := by have := Int.mul_ediv_add_emod r g; omega
      rw [this, Int.mul_emod_right]
    rw [e]
  zero := by rw [Int.zero_fmod]
  one := by rw [Int.fmod_eq_of_lt (by decide) (by omega)]
  mone := by unfold canon; rw [if_pos (by omega)]
  ex u d _ h := by
    unfold okd at h
    rw [if_pos (by omega)] at h
    subst h
    unfold canon
    rw [if_pos (by omega)]
    exact ⟨_, rfl⟩
  good r := by
    unfold numB dN
    have := fmod_range (i := r) (j := g) (by omega)
    dsimp only
    rw [if_pos (by omega), decide_eq_true this.1, decide_eq_true this.2]
    rfl
theorem num_of {g : Int} (h : g = 0 ∨ 2 ≤ g) : ∃ (R : Type) (_ : Lean.Grind.CommRing R), Nonempty (Num g R) := by
  rcases h with rfl | h
  · exact ⟨Rat, inferInstance, ⟨num0⟩⟩
  · exact ⟨Int, inferInstance, ⟨numG g h⟩⟩
end DD

set_option maxHeartbeats 1000000
namespace ZS
open PySem
open PySem.Sem (wp)
abbrev kwS : List (Str × Value) := [(Str.ofString "strict", .bool true)]
abbrev IsZipS (h : Heap) (z TI TO : Addr) (f0 : Value) : Prop :=
  h.get? z = some { cls := .type "zip", dict := none, data := .fields #[f0, .bool false, .bool true, .ref TI, .ref TO], slots := #[] }
section
variable {prog : Program} {w : World} {A : Around} {E : Value → Shared → Prop} {s : Shared}
theorem callType_meets_kw {T newId initId : String} {Bn Bi : Builtin} {args : List Value} {kw : List (Str × Value)} {S : Spec} {Q Q₁ : Value → Shared → Prop} (ft : TypeCalled T newId initId)
    (hct : checkTypeCall T ⟨args, kw⟩ = pure ()) (hcn : checkBuiltinCall newId ⟨.type T :: args, kw⟩ = pure ())
    (entryN : entryFor table newId = some Bn) (entryI : entryFor table initId = some Bi) (g : Meets (Bn ⟨.type T :: args, kw⟩) S)
    (h : S A.in1 (wants Q₁ E) s)
    (hnext : ∀ obj s₁, Q₁ obj s₁ → s₁.TypeIs obj T ∧ argsOk initId ⟨obj :: args, kw⟩ ∧ ∃ Si, Meets (Bi ⟨obj :: args, kw⟩) Si ∧ Si A.in1 (wants (fun r s₂ => r = .none ∧ Q obj s₂) E) s₁) :
    wpAny (model prog w) A (call (.type T) args kw) Q E s := by
  obtain ⟨c, tl, hmro⟩ := ft.mro
  have hmade := ft.made
  have hsub := ft.sub
  refine wpAny_call (codeAny_of_tree ?_)
  show wpAny _ _ (callAny (.type T) _) _ _ _
  refine wpAny_pure ⟨Code.quiet_builtin _ (by decide +kernel), codeAny_builtin F.entry_type_call ?_⟩
  rw [Around.under_plain (weight_type_call_type T args kw) (units_type_call_type T args kw)]
  have h1 := ft.notType
  have h2 := ft.canCreate
  repeat (any_goals (first | assumption | wp_step))
  refine codeAny_mono (codeAny_call_builtin ft.plain entryN (wpAny_of_eq hcn (g prog w A.in1 _ s h))) fun r s₁ hr => ?_
  cases r with
  | error e => exact hr
  | ok fl =>
    cases fl with
    | ret obj =>
      obtain ⟨hT, hok, Si, gi, hsi⟩ := hnext _ _ hr
      have hli := ft.init.lookup
      have hbi := ft.init.bind obj
      repeat (any_goals (first | assumption | wp_step))
      refine codeAny_mono (codeAny_call_builtin ft.init.plain entryI (ft.init.check _ _ _ _ _ _ _ _ hT hok (gi prog w A.in1 _ s₁ hsi))) fun r₂ s₂ hr₂ => ?_
      cases r₂ with
      | error e => exact hr₂
      | ok fl₂ =>
        cases fl₂ with
        | ret r =>
          obtain ⟨rfl, hq⟩ := hr₂
          repeat (any_goals (first | assumption | wp_step))
        | _ => exact hr₂.elim
    | _ => exact hr.elim
theorem object_init_meets_kw {T newId : String} {self a : Value} {rest : List Value} (hl : typeLookup (.type T) "__init__" = pure (some (.builtin "object.__init__")))
    (hm : Bind.madeBy (.type T) = pure (some newId)) (hne : (some newId != some "object.__new__") = true) :
    Meets (Builtin.«object.__init__» ⟨self :: a :: rest, kwS⟩) (fun _ R s => s.TypeIs self T ∧ R (.ok (.ret .none)) s) := by
  refine Meets.of_wp fun prog w A R s hs => ?_
  obtain ⟨hT, hq⟩ := hs
  repeat (any_goals (first | assumption | wp_step))
  exact ⟨_, rfl, hq⟩
theorem typeCall_zip_S (a b : Value) : checkTypeCall "zip" ⟨[a, b], kwS⟩ = pure () := by kernel_rfl
theorem newCall_zip_S (a b : Value) : checkBuiltinCall "zip.__new__" ⟨[.type "zip", a, b], kwS⟩ = pure () := by kernel_rfl
theorem args_object_init_S (a b c : Value) : argsOk "object.__init__" ⟨[a, b, c], kwS⟩ := by
  unfold argsOk; rw [signature?_of (id := "object.__init__") (n := ['_', '_', 't', 'i', 'n', 'i', '_', '_']) (o := ['t', 'c', 'e', 'j', 'b', 'o']) (by kernel_rfl) F.owner_object]; kernel_rfl
end
abbrev zH5 (h : Heap) (l1 l2 : Addr) : Heap := (RZ.zipTH4 h l1 l2).push { cls := .type "zip", data := .fields #[.none, .bool false, .bool true, .ref (RZ.zipTH2 h l1 l2).objs.size, .ref (RZ.zipTH3 h l1 l2).objs.size] }
theorem meets_zipS_new (l1 l2 : Addr) (xs ys : Array Value) :
    Meets (Builtin.«zip.__new__» ⟨[.type "zip", .ref l1, .ref l2], kwS⟩) (fun _ R s => s.heap.IsTuple l1 xs ∧ s.heap.IsTuple l2 ys ∧
      R (.ok (.ret (.ref (RZ.zipTH4 s.heap l1 l2).objs.size))) { s with heap := zH5 s.heap l1 l2 }) :=
  .of_wp fun prog w A R s h => by
    obtain ⟨hp, g, d, tk, os⟩ := s; obtain ⟨hl1, hl2, h⟩ := h
    have hsub := sub_zip
    have hL1 : Heap.IsTuple (Shared.heap ⟨hp, g, d, tk, os⟩) l1 xs := hl1
    have hL2 : Heap.IsTuple (Shared.heap ⟨hp.push { cls := .type "tuple_iterator", data := .fields #[.ref l1, .int 0 0] }, g, d, tk, os⟩) l2 ys := Heap.IsTuple.push hl2 _
    wp_walk using wpAny_pyIter_tuple hL1, wpAny_pyIter_tuple hL2
    exact ⟨_, rfl, h⟩
end ZS

set_option maxHeartbeats 1000000
namespace ZS
open PySem
open PySem.Sem (wp)
section
variable {prog : Program} {w : World} {A : Around} {E : Value → Shared → Prop} {s : Shared}
theorem orEnd_item {it l : Addr} {i : Nat} {items} {x : Value} {Q : Option Value → Shared → Prop} (hit : s.heap.IsTupleIter it l i)
    (hl : s.heap.IsTuple l items) (hx : items[i]? = some x)
    (hQ : ∀ h', h'.IsTupleIter it l (i + 1) → Heap.SameBut it s.heap h' → Q (some x) { s with heap := h' }) :
    wpAny (model prog w) A (Builtin.SmallTypes.nextOrEnd (.ref it)) Q E s := by
  unfold Builtin.SmallTypes.nextOrEnd
  exact wpAny_bind (wpAny_attempt (RZ.nextOf_tuple_item hit hl hx fun h' a b => wpAny_pure (hQ h' a b)))
theorem orEnd_end {it l : Addr} {i : Nat} {items} {Q : Option Value → Shared → Prop} (hh : A.handled = none)
    (hit : s.heap.IsTupleIter it l i) (hl : s.heap.IsTuple l items) (hx : items[i]? = none)
    (hQ : ∀ h', Heap.ExtBut it s.heap h' → Q none { s with heap := h' }) :
    wpAny (model prog w) A (Builtin.SmallTypes.nextOrEnd (.ref it)) Q E s := by
  unfold Builtin.SmallTypes.nextOrEnd
  refine wpAny_bind (wpAny_attempt (RZ.nextOf_tuple_end hh hit hl hx fun h' e hk he => ?_))
  obtain ⟨o, ho, hc⟩ := he
  refine wpAny_bind (wpAny_isInstance (T := "StopIteration") (b := true) ⟨o, ho, hc⟩ isSubtype_stop ?_)
  exact wpAny_pure (hQ _ hk)
theorem next_item {z TI TO i1 i2 l1 l2 : Addr} {k1 k2 : Nat} {xs ys : Array Value} {x y a b : Value} {Q : Value → Shared → Prop} (D : ZipApart z TI TO i1 i2 l1 l2)
    (hz : IsZipS s.heap z TI TO .none) (hTI : IsPair s.heap TI (.ref i1) (.ref i2)) (hTO : IsPair s.heap TO a b)
    (h1 : s.heap.IsTupleIter i1 l1 k1) (h2 : s.heap.IsTupleIter i2 l2 k2) (hl1 : s.heap.IsTuple l1 xs) (hl2 : s.heap.IsTuple l2 ys) (hx : xs[k1]? = some x) (hy : ys[k2]? = some y)
    (hQ : ∀ h', IsZipS h' z TI TO (rawInt s.heap.objs.size) → IsPair h' TO x y → h'.IsTupleIter i1 l1 (k1 + 1) → h'.IsTupleIter i2 l2 (k2 + 1) → IsPair h' s.heap.objs.size x y → h'.objs.size = s.heap.objs.size + 1 →
      (∀ c o, c ≠ z → c ≠ TO → c ≠ i1 → c ≠ i2 → s.heap.get? c = some o → h'.get? c = some o) → Q (.ref s.heap.objs.size) { s with heap := h' }) :
    wpAny (model prog w) A (Builtin.«zip.__next__» ⟨[.ref z], []⟩) (fun fin s' => ∃ v, fin = .done (.ret v) ∧ Q v s') E s := by
  show wpAny _ _ (field (.ref z) 2 >>= _) _ _ _
  refine wpAny_bind (wpAny_field hz rfl (x := .bool true) rfl ?_)
  show wpAny _ _ (field (.ref z) 3 >>= _) _ _ _
  refine wpAny_bind (wpAny_field hz rfl (x := .ref TI) rfl ?_)
  refine wpAny_bind (wpAny_seqItems hTI rfl ?_)
  show wpAny _ _ (Builtin.SmallTypes.ownedTupleIsFree (.ref z) >>= _) _ _ _
  refine wpAny_bind ?_
  unfold Builtin.SmallTypes.ownedTupleIsFree
  refine wpAny_bind (wpAny_field hz rfl (x := .none) rfl (wpAny_pure ?_))
  simp only [if_true]
  refine wpAny_bind (wpAny_rule ?_)
  refine wpAny_bind (wpAny_field hz rfl (x := .ref TO) rfl ?_)
  refine wpAny_bind (wpAny_setField_rec hz (by simp) fun h₁ hz₁ hs₁ => ?_)
  replace hz₁ : IsZipS h₁ z TI TO .ellipsis := hz₁
  refine wpAny_bind ?_
  simp only [List.zipIdx_cons, List.zipIdx_nil, List.forIn_cons, List.forIn_nil]

  refine wpAny_bind (wpAny_bind (wpAny_onRaise ?_))
  show wpAny _ _ (Builtin.SmallTypes.nextOrEnd (.ref i1)) _ _ _
  refine orEnd_item (h1.extBut hs₁.extBut D.i1z) (hl1.extBut hs₁.extBut D.l1z) hx fun h₂ h1₂ hs₂ => ?_
  have hTO₂ : IsPair h₂ TO a b := hs₂.extBut _ _ D.TOi1 (hs₁.extBut _ _ D.TOz hTO)
  refine wpAny_bind (wpAny_seqItems hTO₂ rfl ?_)
  refine wpAny_bind (wpAny_updateSeq_pair hTO₂ fun h₃ hTO₃ hs₃ => ?_)
  replace hTO₃ : IsPair h₃ TO x b := hTO₃
  refine wpAny_bind (wpAny_letGo (wpAny_pure ?_))

  refine wpAny_bind (wpAny_bind (wpAny_onRaise ?_))
  show wpAny _ _ (Builtin.SmallTypes.nextOrEnd (.ref i2)) _ _ _
  refine orEnd_item (((h2.extBut hs₁.extBut D.i2z).extBut hs₂.extBut D.i12.symm).extBut hs₃.extBut D.TOi2.symm)
    (((hl2.extBut hs₁.extBut D.l2z).extBut hs₂.extBut D.l2i1).extBut hs₃.extBut D.l2TO) hy fun h₄ h2₄ hs₄ => ?_
  have hTO₄ : IsPair h₄ TO x b := hs₄.extBut _ _ D.TOi2 hTO₃
  refine wpAny_bind (wpAny_seqItems hTO₄ rfl ?_)
  refine wpAny_bind (wpAny_updateSeq_pair hTO₄ fun h₅ hTO₅ hs₅ => ?_)
  replace hTO₅ : IsPair h₅ TO x y := hTO₅
  refine wpAny_bind (wpAny_letGo (wpAny_pure (wpAny_pure ?_)))

  refine wpAny_bind (wpAny_seqItems hTO₅ rfl ?_)
  refine wpAny_bind (wpAny_newTuple ?_)
  have hsz : h₅.objs.size = s.heap.objs.size := by rw [hs₅.1, hs₄.1, hs₃.1, hs₂.1, hs₁.1]
  have hz₅ : IsZipS h₅ z TI TO .ellipsis := hs₅.extBut _ _ D.TOz.symm (hs₄.extBut _ _ D.i2z.symm (hs₃.extBut _ _ D.TOz.symm (hs₂.extBut _ _ D.i1z.symm hz₁)))
  have hk₅ : ∀ c o, c ≠ z → c ≠ TO → c ≠ i1 → c ≠ i2 → s.heap.get? c = some o → h₅.get? c = some o := fun c o c1 c2 c3 c4 e =>
    hs₅.extBut _ _ c2 (hs₄.extBut _ _ c4 (hs₃.extBut _ _ c2 (hs₂.extBut _ _ c3 (hs₁.extBut _ _ c1 e))))
  have h1₅ : h₅.IsTupleIter i1 l1 (k1 + 1) := ((h1₂.extBut hs₃.extBut D.TOi1.symm).extBut hs₄.extBut D.i12).extBut hs₅.extBut D.TOi1.symm
  have h2₅ : h₅.IsTupleIter i2 l2 (k2 + 1) := h2₄.extBut hs₅.extBut D.TOi2.symm
  have hzlt : z < h₅.objs.size := Heap.lt_size hz₅
  have hTOlt : TO < h₅.objs.size := Heap.lt_size hTO₅
  have hi1lt : i1 < h₅.objs.size := by obtain ⟨_, e, _⟩ := h1₅; exact Heap.lt_size e
  have hi2lt : i2 < h₅.objs.size := by obtain ⟨_, e, _⟩ := h2₅; exact Heap.lt_size e
  show wpAny _ _ (Builtin.SmallTypes.ownedTupleHandOut (.ref z) (.ref h₅.objs.size) >>= _) _ _ _
  refine wpAny_bind ?_
  unfold Builtin.SmallTypes.ownedTupleHandOut
  have hz₆ : IsZipS (h₅.push { cls := .type "tuple", data := .seq #[x, y] }) z TI TO .ellipsis := Heap.get?_push_of_some _ hz₅
  refine wpAny_bind (wpAny_setField_rec hz₆ (by simp) fun h₇ hz₇ hs₇ => ?_)
  replace hz₇ : IsZipS h₇ z TI TO (rawInt h₅.objs.size) := hz₇
  refine wpAny_setField_rec hz₇ (by simp) fun h₈ hz₈ hs₈ => ?_
  replace hz₈ : IsZipS h₈ z TI TO (rawInt h₅.objs.size) := hz₈
  have up : ∀ c o, c ≠ z → h₅.get? c = some o → h₈.get? c = some o := fun c o c1 e => hs₈.extBut _ _ c1 (hs₇.extBut _ _ c1 (Heap.get?_push_of_some _ e))
  have hT₈ : IsPair h₈ h₅.objs.size x y := hs₈.extBut _ _ (Nat.ne_of_gt hzlt) (hs₇.extBut _ _ (Nat.ne_of_gt hzlt) (Heap.get?_push_size _ rfl))
  have hz8 : h₈.objs.size = h₅.objs.size + 1 := by rw [hs₈.1, hs₇.1, Heap.size_push]
  rw [hsz] at hz₈ hT₈ hz8
  refine wpAny_pure ⟨_, rfl, ?_⟩
  show Q (.ref h₅.objs.size) _
  rw [hsz]
  exact hQ h₈ hz₈ (up _ _ D.TOz hTO₅) (h1₅.at fun o e => up _ o D.i1z e) (h2₅.at fun o e => up _ o D.i2z e) hT₈ hz8 fun c o c1 c2 c3 c4 e => up c o c1 (hk₅ c o c1 c2 c3 c4 e)
theorem next_end {z TI TO i1 i2 l1 l2 : Addr} {k1 k2 : Nat} {xs ys : Array Value} {a b : Value} {Q : Fin → Shared → Prop} (hh : A.handled = none) (D : ZipApart z TI TO i1 i2 l1 l2)
    (hz : IsZipS s.heap z TI TO .none) (hTI : IsPair s.heap TI (.ref i1) (.ref i2)) (hTO : IsPair s.heap TO a b)
    (h1 : s.heap.IsTupleIter i1 l1 k1) (h2 : s.heap.IsTupleIter i2 l2 k2) (hl1 : s.heap.IsTuple l1 xs) (hl2 : s.heap.IsTuple l2 ys) (hx : xs[k1]? = none) (hy : ys[k2]? = none)
    (hE : ∀ h' e, (∀ c o, c ≠ z → c ≠ TO → c ≠ i1 → c ≠ i2 → s.heap.get? c = some o → h'.get? c = some o) → (∃ o, h'.get? e = some o ∧ o.cls = .type "StopIteration") → E (.ref e) { s with heap := h' }) :
    wpAny (model prog w) A (Builtin.«zip.__next__» ⟨[.ref z], []⟩) Q E s := by
  show wpAny _ _ (field (.ref z) 2 >>= _) _ _ _
  refine wpAny_bind (wpAny_field hz rfl (x := .bool true) rfl ?_)
  show wpAny _ _ (field (.ref z) 3 >>= _) _ _ _
  refine wpAny_bind (wpAny_field hz rfl (x := .ref TI) rfl ?_)
  refine wpAny_bind (wpAny_seqItems hTI rfl ?_)
  show wpAny _ _ (Builtin.SmallTypes.ownedTupleIsFree (.ref z) >>= _) _ _ _
  refine wpAny_bind ?_
  unfold Builtin.SmallTypes.ownedTupleIsFree
  refine wpAny_bind (wpAny_field hz rfl (x := .none) rfl (wpAny_pure ?_))
  simp only [if_true]
  refine wpAny_bind (wpAny_rule ?_)
  refine wpAny_bind (wpAny_field hz rfl (x := .ref TO) rfl ?_)
  refine wpAny_bind (wpAny_setField_rec hz (by simp) fun h₁ hz₁ hs₁ => ?_)
  replace hz₁ : IsZipS h₁ z TI TO .ellipsis := hz₁
  refine wpAny_bind ?_
  simp only [List.zipIdx_cons, List.zipIdx_nil, List.forIn_cons, List.forIn_nil]
  refine wpAny_bind (wpAny_bind (wpAny_onRaise ?_))
  show wpAny _ _ (Builtin.SmallTypes.nextOrEnd (.ref i1)) _ _ _
  refine orEnd_end hh (h1.extBut hs₁.extBut D.i1z) (hl1.extBut hs₁.extBut D.l1z) hx fun h₂ hs₂ => ?_
  have hz₂ : IsZipS h₂ z TI TO .ellipsis := hs₂ _ _ D.i1z.symm hz₁
  dsimp only
  refine wpAny_bind (wpAny_setField_rec hz₂ (by simp) fun h₃ _ hs₃ => ?_)
  refine wpAny_bind ?_
  refine wpAny_bind ?_
  simp only [List.drop_succ_cons, List.drop_zero, List.zipIdx_cons, List.zipIdx_nil, List.forIn_cons, List.forIn_nil]
  have e3 : ∀ c o, c ≠ z → c ≠ i1 → s.heap.get? c = some o → h₃.get? c = some o := fun c o c1 c3 x => hs₃.extBut _ _ c1 (hs₂ _ _ c3 (hs₁.extBut _ _ c1 x))
  refine wpAny_bind (wpAny_bind (orEnd_end hh (h2.at fun o x => e3 _ o D.i2z D.i12.symm x) (hl2.at fun o x => e3 _ o D.l2z D.l2i1 x) hy fun h₄ hs₄ => ?_))
  have e4 : ∀ c o, c ≠ z → c ≠ i1 → c ≠ i2 → s.heap.get? c = some o → h₄.get? c = some o := fun c o c1 c3 c4 x => hs₄ _ _ c4 (e3 c o c1 c3 x)
  refine wpAny_pure ?_
  refine wpAny_pure ?_
  refine wpAny_bind (wpAny_rule ?_)
  unfold Builtin.SmallTypes.stopIteration
  show wpAny _ _ (newExc (.type "StopIteration") [] >>= _) _ _ _
  refine wpAny_bind ?_
  simp only [newExc, newTuple]
  refine wpAny_bind (wpAny_newObj_type ?_ (by size_fits))
  refine wpAny_bind (m := firstArgMember _ _) (wpAny_of_eq (a := Value.none) (by first | rfl | (simp only [firstArgMember]; rfl)) ?_)
  refine wpAny_newObj_type ?_ (by size_fits)
  simp only [raiseNew]
  refine wpAny_bind (wpAny_handled ?_)
  first | rw [show A.in1.handled = none from hh] | rw [hh]
  refine wpAny_bind (wpAny_pure (wpAny_throw ?_))
  exact hE _ _ (fun c o c1 c2 c3 c4 x => Heap.get?_push_of_some _ (Heap.get?_push_of_some _ (e4 c o c1 c3 c4 x))) ⟨_, Heap.get?_push_size _ rfl, rfl⟩
theorem pyNext_item {z TI TO i1 i2 l1 l2 : Addr} {k1 k2 : Nat} {xs ys : Array Value} {x y a b : Value} {Q : Option Value → Shared → Prop} (D : ZipApart z TI TO i1 i2 l1 l2)
    (hz : IsZipS s.heap z TI TO .none) (hTI : IsPair s.heap TI (.ref i1) (.ref i2)) (hTO : IsPair s.heap TO a b)
    (h1 : s.heap.IsTupleIter i1 l1 k1) (h2 : s.heap.IsTupleIter i2 l2 k2) (hl1 : s.heap.IsTuple l1 xs) (hl2 : s.heap.IsTuple l2 ys) (hx : xs[k1]? = some x) (hy : ys[k2]? = some y)
    (hQ : ∀ h', IsZipS h' z TI TO (rawInt s.heap.objs.size) → IsPair h' TO x y → h'.IsTupleIter i1 l1 (k1 + 1) → h'.IsTupleIter i2 l2 (k2 + 1) → IsPair h' s.heap.objs.size x y → h'.objs.size = s.heap.objs.size + 1 →
      (∀ c o, c ≠ z → c ≠ TO → c ≠ i1 → c ≠ i2 → s.heap.get? c = some o → h'.get? c = some o) → Q (some (.ref s.heap.objs.size)) { s with heap := h' }) :
    wpAny (model prog w) A (pyNext (.ref z)) Q E s := by
  have hT : s.TypeIs (.ref z) "zip" := ⟨_, hz, rfl⟩
  unfold pyNext
  exact wpAny_bind (wpAny_attempt (wpAny_callSpecial?_slot (name := Str.ofString "__next__") hT F.slot_zip_next
    (wpAny_call_entry F.slot_zip_next hT F.entry_zip_next
      (next_item D hz hTI hTO h1 h2 hl1 hl2 hx hy fun h' a1 a2 a3 a4 a5 a6 a7 => wpAny_pure (hQ h' a1 a2 a3 a4 a5 a6 a7)) (F.args_zip_next_1 _))))
theorem pyNext_end {z TI TO i1 i2 l1 l2 : Addr} {k1 k2 : Nat} {xs ys : Array Value} {a b : Value} {Q : Option Value → Shared → Prop} (hh : A.handled = none) (D : ZipApart z TI TO i1 i2 l1 l2)
    (hz : IsZipS s.heap z TI TO .none) (hTI : IsPair s.heap TI (.ref i1) (.ref i2)) (hTO : IsPair s.heap TO a b)
    (h1 : s.heap.IsTupleIter i1 l1 k1) (h2 : s.heap.IsTupleIter i2 l2 k2) (hl1 : s.heap.IsTuple l1 xs) (hl2 : s.heap.IsTuple l2 ys) (hx : xs[k1]? = none) (hy : ys[k2]? = none)
    (hQ : ∀ h', (∀ c o, c ≠ z → c ≠ TO → c ≠ i1 → c ≠ i2 → s.heap.get? c = some o → h'.get? c = some o) → Q none { s with heap := h' }) : wpAny (model prog w) A (pyNext (.ref z)) Q E s := by
  have hT : s.TypeIs (.ref z) "zip" := ⟨_, hz, rfl⟩
  unfold pyNext
  refine wpAny_bind (wpAny_attempt (wpAny_callSpecial?_slot (name := Str.ofString "__next__") hT F.slot_zip_next
    (wpAny_call_entry F.slot_zip_next hT F.entry_zip_next (next_end hh D hz hTI hTO h1 h2 hl1 hl2 hx hy fun h' e hk he => ?_) (F.args_zip_next_1 _))))
  obtain ⟨o, ho, hc⟩ := he
  refine wpAny_bind (wpAny_isInstance (T := "StopIteration") (b := true) ⟨o, ho, hc⟩ isSubtype_stop ?_)
  exact wpAny_pure (hQ _ hk)
theorem letGo_zipS {elts : List Expr} {x1} {pos : Pos} {z TI TO T : Addr} {Q : Unit → Shared → Prop} (hz : IsZipS s.heap z TI TO (rawInt T))
    (hQ : ∀ h', IsZipS h' z TI TO .none → Heap.SameBut z s.heap h' → Q () { s with heap := h' }) :
    wpAny (model prog w) A (letOwnedTupleGo (.Tuple elts x1 pos) (.ref z) (.ref T)) Q E s := by
  unfold letOwnedTupleGo
  refine wpAny_bind (wpAny_load hz ?_)
  show wpAny _ _ (if (["enumerate", "zip", "dict_itemiterator", "dict_reverseitemiterator", "odict_iterator", "itertools.zip_longest", "itertools.pairwise"].contains "zip" &&
      (#[rawInt T, .bool false, .bool true, .ref TI, .ref TO] : Array Value)[0]? == some (rawInt T)) = true then _ else _) Q E s
  rw [if_pos (by simp)]
  refine wpAny_bind (wpAny_rule ?_)
  show wpAny _ _ (setField (.ref z) 0 .none) Q E s
  exact wpAny_setField_rec hz (by simp) fun h' hz' hs' => hQ h' hz' hs'
theorem pyIter_zipS {z TI TO : Addr} {f0 : Value} {Q : Value → Shared → Prop} (hz : IsZipS s.heap z TI TO f0) (h : Q (.ref z) s) : wpAny (model prog w) A (pyIter (.ref z)) Q E s := by
  have hT : s.TypeIs (.ref z) "zip" := ⟨_, hz, rfl⟩
  refine wpAny_pyIter_slot hT F.slot_zip_iter (wpAny_call_entry F.slot_zip_iter hT F.entry_zip_iter ?_ (F.args_zip_iter_1 _))
  show wpAny _ _ (ret (.ref z)) _ _ s
  exact wpAny_pure ⟨_, rfl, "zip", _, hT, F.slot_zip_next.lookup, h⟩
open RZ in
theorem call_zipS {l1 l2 : Addr} {xs ys : Array Value} {Q : Value → Shared → Prop} (hl1 : s.heap.IsTuple l1 xs) (hl2 : s.heap.IsTuple l2 ys)
    (h : ∀ h', IsZipS h' (s.heap.objs.size + 4) (s.heap.objs.size + 2) (s.heap.objs.size + 3) .none → IsPair h' (s.heap.objs.size + 2) (.ref s.heap.objs.size) (.ref (s.heap.objs.size + 1)) →
      IsPair h' (s.heap.objs.size + 3) .none .none → h'.IsTupleIter s.heap.objs.size l1 0 → h'.IsTupleIter (s.heap.objs.size + 1) l2 0 → h'.objs.size = s.heap.objs.size + 5 →
      (∀ c o, s.heap.get? c = some o → h'.get? c = some o) → Q (.ref (s.heap.objs.size + 4)) { s with heap := h' }) :
    wpAny (model prog w) A (call (.type "zip") [.ref l1, .ref l2] kwS) Q E s := by
  refine callType_meets_kw (Q₁ := fun obj s₁ => s₁.TypeIs obj "zip" ∧ Q obj s₁) F.called_zip (typeCall_zip_S _ _) (newCall_zip_S _ _) F.entry_zip_new F.entry_object_init (meets_zipS_new l1 l2 xs ys) ⟨hl1, hl2, ?_⟩ fun obj _ hq =>
    ⟨hq.1, args_object_init_S _ _ _, _, object_init_meets_kw F.called_zip.init.lookup F.called_zip.made (by decide), hq.1, rfl, hq.2⟩
  have z1 : (zipTH1 s.heap l1).objs.size = s.heap.objs.size + 1 := Heap.size_push ..
  have z2 : (zipTH2 s.heap l1 l2).objs.size = s.heap.objs.size + 2 := by rw [Heap.size_push, z1]
  have z3 : (zipTH3 s.heap l1 l2).objs.size = s.heap.objs.size + 3 := by rw [Heap.size_push, z2]
  have z4 : (zipTH4 s.heap l1 l2).objs.size = s.heap.objs.size + 4 := by rw [Heap.size_push, z3]
  have z5 : (zH5 s.heap l1 l2).objs.size = s.heap.objs.size + 5 := by rw [Heap.size_push, z4]
  have g5 : (zH5 s.heap l1 l2).get? (zipTH4 s.heap l1 l2).objs.size = some _ := Heap.get?_push_size _ rfl
  have g4 : (zH5 s.heap l1 l2).get? (zipTH3 s.heap l1 l2).objs.size = some _ := Heap.get?_push_of_some _ (Heap.get?_push_size _ rfl)
  have g3 : (zH5 s.heap l1 l2).get? (zipTH2 s.heap l1 l2).objs.size = some _ := Heap.get?_push_of_some _ (Heap.get?_push_of_some _ (Heap.get?_push_size _ rfl))
  have g2 : (zH5 s.heap l1 l2).get? (zipTH1 s.heap l1).objs.size = some _ := Heap.get?_push_of_some _ (Heap.get?_push_of_some _ (Heap.get?_push_of_some _ (Heap.get?_push_size _ rfl)))
  have g1 : (zH5 s.heap l1 l2).get? s.heap.objs.size = some _ := Heap.get?_push_of_some _ (Heap.get?_push_of_some _ (Heap.get?_push_of_some _ (Heap.get?_push_of_some _ (Heap.get?_push_size _ rfl))))
  show _ ∧ _
  rw [z2, z3, z4] at g5
  rw [z1, z2] at g3
  rw [z3] at g4
  rw [z1] at g2
  rw [z4]
  exact ⟨⟨_, g5, rfl⟩, h _ g5 g3 g4 ⟨_, g1, rfl, rfl⟩ ⟨_, g2, rfl, rfl⟩ z5 fun c o x =>
    Heap.get?_push_of_some _ (Heap.get?_push_of_some _ (Heap.get?_push_of_some _ (Heap.get?_push_of_some _ (Heap.get?_push_of_some _ x))))⟩
end
end ZS

namespace ZS
open PySem PySem.Spec PyProof.Rows L2
/-- the tuples at a and b, of one length, as they stand at each turn -/
def ItzS (K : PySem.W.Frag) (a b : Addr) : It :=
  ⟨fun i H => ∃ (xs ys : List V) (x y : V), SqT K H a xs ∧ SqT K H b ys ∧ xs[i]? = some x ∧ ys[i]? = some y,
    fun i H v H' => ∃ T x y, v = .ref T ∧ H T = none ∧ H' = upd H T (.tup [x, y]) ∧ (∀ xs, SqT K H a xs → xs[i]? = some x) ∧ ∀ ys, SqT K H b ys → ys[i]? = some y,
    fun i H => ∃ xs ys : List V, SqT K H a xs ∧ SqT K H b ys ∧ xs.length ≤ i ∧ ys.length ≤ i⟩
theorem turn_zipS {P : Program} {w : World} {K : PySem.W.Frag} {elts : List Expr} {kk : Nat} {tpos : Pos} {a b z TI TO i1 i2 : Addr} (D : ZipApart z TI TO i1 i2 a b) :
    Turn P w K (.Tuple elts kk tpos) (ItzS K a b) [z, TI, TO, i1, i2] z (fun i h => IsZipS h z TI TO .none ∧ IsPair h TI (.ref i1) (.ref i2) ∧ (∃ x y, IsPair h TO x y) ∧ h.IsTupleIter i1 a i ∧ h.IsTupleIter i2 b i) where
  mem := by simp
  obj := fun i h st c hc => by
    obtain ⟨hz, hTI, ⟨x, y, hTO⟩, ⟨o1, e1, _, d1⟩, ⟨o2, e2, _, d2⟩⟩ := st
    have e' : c = z ∨ c = TI ∨ c = TO ∨ c = i1 ∨ c = i2 := by simpa using hc
    rcases e' with q | q | q | q | q
    · rw [q]; exact ⟨_, hz, fun v q => nomatch q⟩
    · rw [q]; exact ⟨_, hTI, fun v q => nomatch q⟩
    · rw [q]; exact ⟨_, hTO, fun v q => nomatch q⟩
    · rw [q]; exact ⟨o1, e1, fun v q => by rw [d1] at q; cases q⟩
    · rw [q]; exact ⟨o2, e2, fun v q => by rw [d2] at q; cases q⟩
  keep := fun i h h' st k => by
    obtain ⟨hz, hTI, ⟨x, y, hTO⟩, h1, h2⟩ := st
    exact ⟨k z (by simp) _ hz, k TI (by simp) _ hTI, ⟨x, y, k TO (by simp) _ hTO⟩, h1.at fun o q => k i1 (by simp) o q, h2.at fun o q => k i2 (by simp) o q⟩
  item := by
    intro X hP hw hK hc i pins s σ H E I hf st hg
    subst hP hw hK
    obtain ⟨hz, hTI, ⟨x0, y0, hTO⟩, h1, h2⟩ := st
    obtain ⟨xs, ys, x, y, hqx, hqy, hx, hy⟩ := hg
    obtain ⟨its, rv, p, _⟩ := I.tuple hqx
    obtain ⟨its2, rv2, p2, _⟩ := I.tuple hqy
    obtain ⟨u, hu, ru⟩ := rv.get hx
    obtain ⟨u2, hu2, ru2⟩ := rv2.get hy
    have hzl : z < s.heap.objs.size := Heap.lt_size hz
    refine pyNext_item D hz hTI hTO h1 h2 p p2 (x := u) (y := u2) (by simpa using hu) (by simpa using hu2) fun h' z' TO' h1' h2' hT hsz hk => ?_
    refine ⟨_, rfl, letGo_zipS (s := { s with heap := h' }) z' fun h'' z'' sb => ?_⟩
    have hT2 : h''.get? s.heap.objs.size = some { cls := .type "tuple", data := .seq #[u, u2] } := (sb.2 _ (Nat.ne_of_gt hzl)).trans hT
    have new : ObjOk X.prog X.w (upd H s.heap.objs.size (.tup [x, y])) h'' s.heap.objs.size (.tup [x, y]) :=
      ⟨by show 2 ≤ sizeLine; decide, [u, u2], .cons ru (.cons ru2 .nil), ⟨_, hT2, rfl, _, rfl⟩⟩
    have I1 : Inv X pins σ (upd H s.heap.objs.size (.tup [x, y])) { s with heap := h'' } :=
      I.turnedNew (t' := s.toks) (ch := [z, TI, TO, i1, i2]) (fun c o hb q => (sb.2 c (fun q' => hb (by simp [q']))).trans (hk c o (fun q' => hb (by simp [q'])) (fun q' => hb (by simp [q'])) (fun q' => hb (by simp [q'])) (fun q' => hb (by simp [q'])) q)) hf (Nat.le_refl _) new
    refine ⟨.ref s.heap.objs.size, _, I1, rfl, ⟨_, x, y, rfl, I.hok.fresh (Nat.le_refl _), rfl, fun l hl => by rw [I.tuple_inj hl hqx]; exact hx, fun l hl => by rw [I.tuple_inj hl hqy]; exact hy⟩, ⟨z'', ?_, ⟨u, u2, ?_⟩, ?_, ?_⟩, fun c hcm => ?_⟩
    · exact (sb.2 _ D.TIz).trans (hk _ _ D.TIz D.TITO D.TIi1 D.TIi2 hTI)
    · exact (sb.2 _ D.TOz).trans TO'
    · exact h1'.at fun o q => (sb.2 _ D.i1z).trans q
    · exact h2'.at fun o q => (sb.2 _ D.i2z).trans q
    · have hlt : c < s.heap.objs.size := by
        have e' : c = z ∨ c = TI ∨ c = TO ∨ c = i1 ∨ c = i2 := by simpa using hcm
        rcases e' with q | q | q | q | q
        · rw [q]; exact hzl
        · rw [q]; exact Heap.lt_size hTI
        · rw [q]; exact Heap.lt_size hTO
        · rw [q]; obtain ⟨_, e1, _⟩ := h1; exact Heap.lt_size e1
        · rw [q]; obtain ⟨_, e2, _⟩ := h2; exact Heap.lt_size e2
      rw [upd_ne (Nat.ne_of_lt hlt)]
      exact (hf c hcm).1
  done := by
    intro X hP hw hK hc i pins s σ H E I hf st hg
    subst hP hw hK
    obtain ⟨hz, hTI, ⟨x0, y0, hTO⟩, h1, h2⟩ := st
    obtain ⟨xs, ys, hqx, hqy, hex, hey⟩ := hg
    obtain ⟨its, rv, p, _⟩ := I.tuple hqx
    obtain ⟨its2, rv2, p2, _⟩ := I.tuple hqy
    have l1 := rv.length
    have l2 := rv2.length
    exact pyNext_end (I.ok.hd hc) D hz hTI hTO h1 h2 p p2 (by simp; omega) (by simp; omega) fun h' hk => ⟨rfl, I.turnedL (t' := s.toks) (ch := [z, TI, TO, i1, i2]) (fun c o hb q =>
      hk c o (fun q' => hb (by simp [q'])) (fun q' => hb (by simp [q'])) (fun q' => hb (by simp [q'])) (fun q' => hb (by simp [q'])) q) hf⟩
  self := fun A i s Q E st h => pyIter_zipS st.1 h
theorem callWith_type_kw {M : Model} {A : Around} {E : Value → Shared → Prop} {s : Shared} {pos : Pos} {T : String} {first : List Value} {args : List (Bool × Sem Value)} {keywords : List (Option Str × Sem Value)} {Q : Value → Shared → Prop}
    (hplain : args.any (·.1) = false) (hkw : keywords.any (·.1.isNone) = false)
    (h : wpAny M A (evalArgs (.type T) true args keywords) (fun a s₁ => wpAny M A (call (.type T) (first ++ a.pos) a.kw) Q E s₁) E s) :
    wpAny M A (callWith pos (.type T) first args keywords) Q E s := by
  unfold callWith
  refine wpAny_bind (wpAny_holding (wpAny_mono h (fun a s₁ h₁ => wpAny_bind (wpAny_standAt ?_)) fun _ _ x => x))
  simp only [hplain, hkw, Bool.or_false]
  refine wpAny_bind (wpAny_pure ?_)
  exact wpAny_bind (wpAny_mono h₁ (fun r s₂ hr => wpAny_bind (wpAny_holding (wpAny_point (wpAny_pure hr)))) fun _ _ x => x)
def iZipS (K : PySem.W.Frag) (ta : TA) : TI := fun σ H R => ta σ H fun vs H1 => ∃ a b xs ys, vs = [.ref a, .ref b] ∧ SqT K H1 a xs ∧ SqT K H1 b ys ∧ R (ItzS K a b) H1
theorem pi_zipS {X : Cx} {e e2 : Expr} {ta : TA} {j} {p pos tpos kpos cpos : Pos} {elts : List Expr} {kk : Nat} (hg : Gl X "zip") (hm : X.mg "zip" = none) (ha : PA X [e, e2] ta)
    (hs : starEach [e, e2] X.env = (false, eval e X.env) :: starEach [e2] X.env := by rfl) (hpl : (backTo pos (starEach [e2] X.env)).any (·.1) = false := by rfl)
    (he : backTo pos (starEach [e, e2] X.env) = (false, eval e X.env) :: backTo pos (starEach [e2] X.env) := by rfl)
    (hall : (backToKw pos (keywordEach [⟨some "strict", .Constant (.bool true) j cpos, kpos⟩] X.env)).all (·.1.isSome) = true := by rfl) (hnone : (backToKw pos (keywordEach [⟨some "strict", .Constant (.bool true) j cpos, kpos⟩] X.env)).any (·.1.isNone) = false := by rfl)
    (hks : (backToKw pos (keywordEach [⟨some "strict", .Constant (.bool true) j cpos, kpos⟩] X.env)).filterMap (·.1) = [Str.ofString "strict"] := by rfl) :
    PI X (.Tuple elts kk tpos) (.Call (.Name "zip" p) [e, e2] [⟨some "strict", .Constant (.bool true) j cpos, kpos⟩] pos) (iZipS X.K ta) := by
  refine ⟨fun pins s σ H R I h => ?_⟩
  have hk : PK X [⟨some "strict", .Constant (.bool true) j cpos, kpos⟩] _ := pk_cons pe_bl pk_nil
  have hplain : (backTo pos (starEach [e, e2] X.env)).any (·.1) = false := by rw [he]; show (false || (backTo pos (starEach [e2] X.env)).any (·.1)) = false; rw [hpl]; rfl
  refine wpAny_Call_Name_kw (ld_blt I hg hm PyProof.Rows.boot_zip (callWith_type_kw hplain hnone ?_))
  rw [he]
  refine evalArgs_kwB hall ?_
  rw [← he]
  refine thn (ha.run pos pins s σ H _ I h) fun us s1 ⟨vs, H1, I1, r1, q1⟩ => thn (hk.run pos pins s1 σ H1 (fun zs H2 => zs = [V.bl true] ∧ H2 = H1) I1 ⟨rfl, rfl⟩) fun ws s2 ⟨zs, H2, I2, r2, q2⟩ => ?_
  obtain ⟨rfl, rfl⟩ := q2
  obtain ⟨w1, rfl, e1⟩ := vals1 r2
  obtain rfl : w1 = Value.bool true := e1
  rw [hks]
  obtain ⟨a, b, xs, ys, ex, hqx, hqy, q⟩ := q1
  subst ex
  cases r1 with
  | cons r rr =>
    cases rr with
    | cons r' rr =>
      cases rr
      cases r
      cases r'
      have fresh5 : ∀ c, c ∈ [s2.heap.objs.size + 4, s2.heap.objs.size + 2, s2.heap.objs.size + 3, s2.heap.objs.size, s2.heap.objs.size + 1] → FpOk X pins H2 c := fun c hcm => by
        have e' : c = s2.heap.objs.size + 4 ∨ c = s2.heap.objs.size + 2 ∨ c = s2.heap.objs.size + 3 ∨ c = s2.heap.objs.size ∨ c = s2.heap.objs.size + 1 := by simpa using hcm
        have hle : s2.heap.objs.size ≤ c := by
          rcases e' with z | z | z | z | z
          · rw [z]; exact Nat.le_add_right _ _
          · rw [z]; exact Nat.le_add_right _ _
          · rw [z]; exact Nat.le_add_right _ _
          · rw [z]; exact Nat.le_refl _
          · rw [z]; exact Nat.le_add_right _ _
        exact I2.fpOk hle (I2.hok.fresh hle)
      obtain ⟨its, rv, p1, _⟩ := I2.tuple hqx
      obtain ⟨its2, rv2, p2, _⟩ := I2.tuple hqy
      obtain ⟨o1, ho1, _⟩ := id p1
      obtain ⟨o2, ho2, _⟩ := id p2
      refine call_zipS (show s2.heap.IsTuple a its.toArray from p1) (show s2.heap.IsTuple b its2.toArray from p2) fun h' hz hTI hTO h1 h2 hsz hk => pyIter_zipS hz ?_
      have I3 : Inv X pins σ H2 { s2 with heap := h' } := I2.kept (t' := s2.toks) hk
      exact ⟨s2.heap.objs.size + 4, [s2.heap.objs.size + 4, s2.heap.objs.size + 2, s2.heap.objs.size + 3, s2.heap.objs.size, s2.heap.objs.size + 1], _, _, H2, rfl, I3, turn_zipS (PySem.W.ktu_apart s2.heap.objs.size a b (Heap.lt_size ho1) (Heap.lt_size ho2)), ⟨hz, hTI, ⟨_, _, hTO⟩, h1, h2⟩, fresh5, q⟩
end ZS
namespace DD
open PySem PySem.Spec L2
open PyProof.Rows hiding St
variable [LamN]
def zipS (a c : A) : Option (List D) := match tupD a.frz, tupD c.frz with
  | some l, some k => if l.length = k.length then some (zipD l k) else none
  | _, _ => none
def dZipS (f g : M A) : M (List D) := f.bind fun a => g.bind fun c => ofO (zipS a c)
section
variable {C : SC} {X : Cx} {e e2 : Expr} {f g : M A} {pos p tpos kpos cpos : Pos} {elts : List Expr} {kk : Nat}
theorem isIt_zipS {a c : Addr} {l k : List D} (hl : l.length = k.length) : IsIt C (ZS.ItzS C.K a c) [.ref c, .ref a] [.v (.tup k), .v (.tup l)] (zipD l k) := by
  intro b Z H σ ρ vs as S
  have t := Sta.top2 S
  have t2 := Sta.top S
  cases t with
  | @tup _ xs _ h1 r =>
    cases t2 with
    | @tup _ ys _ h2 r2 =>
      have hs := sameT S.zh h1
      have hs2 := sameT S.zh h2
      refine ⟨fun i d hi => ?_, xs, ys, hs, hs2, ?_, ?_⟩
      · obtain ⟨u, w, hu, hw, rfl⟩ := zipD_get hi
        obtain ⟨x, hx, rx⟩ := r.get hu
        obtain ⟨y, hy, ry⟩ := r2.get hw
        refine ⟨⟨xs, ys, x, y, hs, hs2, hx, hy⟩, fun z H' ⟨T, x', y', e1, hT, e2, f1, f2⟩ => ?_⟩
        subst e1 e2
        have q1 := f1 xs hs
        have q2 := f2 ys hs2
        rw [hx] at q1
        rw [hy] at q2
        cases q1
        cases q2
        exact ⟨_, S.newF (o := .tup [x, y]) hT (.tup (SqT.of upd_same) (RepDs.mono (same_upd (S.zh.free hT)) _ _ (.cons rx (.cons ry .nil))))⟩
      · rw [zipD_len, r.length]
        omega
      · rw [zipD_len, r2.length]
        omega
theorem di_zipS {j} (hK : X.K = C.K) (hg : Gl X "zip") (hm : X.mg "zip" = none) (ha : PE X e (tE C f)) (hb : PE X e2 (tE C g)) (hs : starEach [e, e2] X.env = (false, eval e X.env) :: starEach [e2] X.env := by rfl) (hpl : (backTo pos (starEach [e2] X.env)).any (·.1) = false := by rfl)
    (ht2 : starEach (e2 :: []) X.env = (false, eval e2 X.env) :: starEach [] X.env := by rfl) (he : backTo pos (starEach [e, e2] X.env) = (false, eval e X.env) :: backTo pos (starEach [e2] X.env) := by rfl)
    (hall : (backToKw pos (keywordEach [⟨some "strict", .Constant (.bool true) j cpos, kpos⟩] X.env)).all (·.1.isSome) = true := by rfl) (hnone : (backToKw pos (keywordEach [⟨some "strict", .Constant (.bool true) j cpos, kpos⟩] X.env)).any (·.1.isNone) = false := by rfl)
    (hks : (backToKw pos (keywordEach [⟨some "strict", .Constant (.bool true) j cpos, kpos⟩] X.env)).filterMap (·.1) = [Str.ofString "strict"] := by rfl) :
    PI X (.Tuple elts kk tpos) (.Call (.Name "zip" p) [e, e2] [⟨some "strict", .Constant (.bool true) j cpos, kpos⟩] pos) (tI C (dZipS f g)) := by
  refine PI.w (ZS.pi_zipS hg hm (pa_cons ha (pa_cons hb pa_nil ht2) hs) hs hpl he hall hnone hks) fun σ H R k => ?_
  refine (Go.bindE k).mono fun x H1 ⟨a, k1⟩ => (Go.bindE k1).mono fun y H2 ⟨c, k2⟩ => ?_
  obtain ⟨ds, e1, b, Z, ρ, vs, as, hb, _, S, k3⟩ := go_ofO k2
  rw [hK]
  obtain ⟨Z', S'⟩ := Sta.freeze2 (vs := vs) (as := as) S
  have t := Sta.top2 S'
  have t2 := Sta.top S'
  unfold zipS at e1
  split at e1
  · rename_i l k h1 h2
    split at e1
    · rename_i hl
      cases e1
      generalize a.frz = d at h1 t S'
      generalize c.frz = d2 at h2 t2 S'
      cases t with
      | @tup q xs l' h3 r =>
        cases h1
        cases t2 with
        | @tup q2 ys k' h4 r2 =>
          cases h2
          exact ⟨q, q2, xs, ys, rfl, sameT S'.zh h3, sameT S'.zh h4, k3 _ _ [.ref q2, .ref q] [.v (.tup _), .v (.tup _)] _ rfl S' (isIt_zipS hl)⟩
        | _ => cases h2
      | _ => cases h1
    · cases e1
  · cases e1
end
section
variable {ρ : DEnv} {E : Ex → DEnv → Prop} {f g : M A} {QD : List D → DEnv → Prop}
theorem w_zipS (k : Wp (f ρ) (fun a ρ1 => Wp (g ρ1) (fun c ρ2 => Wo (zipS a c) fun ds => QD ds ρ2) E) E) : Wp (dZipS f g ρ) QD E := wp_bind (wp_mono k (fun _ _ k => wp_bind (wp_mono k (fun _ _ k => wp_ofO k) fun _ _ z => z)) fun _ _ z => z)
theorem wo_zipS {l k : List D} {P : List D → Prop} (h : l.length = k.length) (q : P (zipD l k)) : Wo (zipS (.v (.tup l)) (.v (.tup k))) P := wo_eq (if_pos h) q
end
/-- a statement that is not reached -/
def dBad : M Flow := fun _ => .bad
theorem ds_bad {X : Cx} {C : SC} {st : Stmt} {t : TS} (h : PS X st t) : PS X st (tS C dBad) := PS.w h fun D σ H ⟨_, _, _, _, _, _, _, _, k⟩ => k.elim
theorem ds_bad0 {X : Cx} {C : SC} {st : Stmt} : PS X st (tS C dBad) := ⟨fun _ _ _ _ _ _ ⟨_, _, _, _, _, _, _, _, k⟩ => k.elim⟩
end DD

namespace DD
open PySem PySem.Spec L2
open PyProof.Rows hiding St
variable [LamN]
structure NumX (g : Int) (R : Type) [Lean.Grind.CommRing R] extends Num g R where
  inj : ∀ r s, dN (p r) (q r) = dN (p s) (q s) → r = s
  S : Nat → Nat → R → Prop
  SB : ∀ {L n k : Nat} {r : R}, 0 < L → S L n r → Bd k (L : Int) → n ≤ k → 4 ≤ k → Bd k (p r) ∧ Bd k (q r)
  Sadd : ∀ {L n m : Nat} {r s : R}, S L n r → S L m s → S L (max n m + 1) (r + s)
  Smul : ∀ {L K n m : Nat} {r s : R}, S L n r → S K m s → S (L * K) (n + m) (r * s)
  Szero : ∀ L n : Nat, S L n 0
  Sone : ∀ {L n : Nat}, Bd n (L : Int) → S L n 1
  Sex : ∀ {L n : Nat} {u d : Int} {r : R}, canon g u d = dN (p r) (q r) → 0 < d → d.toNat ∣ L → 0 < L → Bd n (u * (L / d.toNat : Nat)) → S L n r
section
variable {g : Int} {R : Type} [Lean.Grind.CommRing R] (N : NumX g R)
abbrev NumX.nm (r : R) : D := N.toNum.nm r
abbrev NumX.B (n : Nat) (r : R) : Prop := N.toNum.B n r
variable {N} {L n m k : Nat} {r s : R}
theorem NumX.S_B (hL : 0 < L) (h : N.S L n r) (hk : Bd k (L : Int)) (hn : n ≤ k) (h4 : 4 ≤ k) : N.B k r := let ⟨a, b⟩ := N.SB hL h hk hn h4; ⟨a, b⟩
theorem NumX.nm_inj (h : N.nm r = N.nm s) : r = s := N.inj r s h
end
/-- over 0 -/
def S0 (L n : Nat) (r : Rat) : Prop := ∃ m : Int, Bd n m ∧ r * (L : Rat) = (m : Rat)
theorem ratL {L : Nat} (hL : 0 < L) : (L : Rat) ≠ 0 := fun h => by
  have := congrArg Rat.num h
  have e : ((L : Rat)).num = (L : Int) := Rat.num_natCast L
  rw [e] at this
  have : (L : Int) = 0 := this
  omega
theorem S0.mk {L n : Nat} {r : Rat} (hL : 0 < L) (h : S0 L n r) : ∃ m : Int, Bd n m ∧ mkRat m L = r := by
  obtain ⟨m, hm, e⟩ := h
  refine ⟨m, hm, ?_⟩
  have hL' := ratL hL
  rw [Rat.mkRat_eq_div, ← e, Rat.div_def, Rat.mul_assoc, Rat.mul_inv_cancel _ hL', Rat.mul_one]
theorem S0.SB {L n k : Nat} {r : Rat} (hL : 0 < L) (h : S0 L n r) (hk : Bd k (L : Int)) (hn : n ≤ k) (h4 : 4 ≤ k) : Bd k r.num ∧ Bd k (r.den : Int) := by
  obtain ⟨m, hm, rfl⟩ := h.mk hL
  obtain ⟨x, y, e, h1, h2⟩ := canon_bd (g := 0) (u := m) (d := L) h4 (by decide) (hm.mono hn) hk
  have := (canon_nat (u := m) (d := L) (by omega)).symm.trans e
  obtain ⟨e1, e2⟩ := dN_inj this
  exact ⟨e1 ▸ h1, e2 ▸ h2⟩
theorem S0.ex {L n : Nat} {u d : Int} {r : Rat} (h : canon 0 u d = dN r.num r.den) (hd : 0 < d) (hdiv : d.toNat ∣ L) (hL : 0 < L) (hu : Bd n (u * (L / d.toNat : Nat))) : S0 L n r := by
  refine ⟨_, hu, ?_⟩
  have e := (rat_canon (u := u) hd).symm.trans h
  obtain ⟨e1, e2⟩ := dN_inj e
  have er : mkRat u d.toNat = r := Rat.ext e1 (by exact_mod_cast e2)
  obtain ⟨c, hc⟩ := hdiv
  have hd0 : 0 < d.toNat := by omega
  have hc0 : L / d.toNat = c := by rw [hc, Nat.mul_div_cancel_left _ hd0]
  have hdr := ratL hd0
  rw [hc0, ← er, Rat.mkRat_eq_div, hc, Rat.natCast_mul, Rat.intCast_mul]
  generalize ((d.toNat : Nat) : Rat) = D at hdr
  have : ((c : Int) : Rat) = (c : Rat) := rfl
  rw [this]
  grind
def numX0 : NumX 0 Rat where
  toNum := num0
  inj r s h := by
    obtain ⟨e1, e2⟩ := dN_inj h
    have e2 : (r.den : Int) = s.den := e2
    exact Rat.ext e1 (by exact_mod_cast e2)
  S := S0
  SB := S0.SB
  Sadd := by
    rintro L n m r s ⟨a, ha, e1⟩ ⟨b, hb, e2⟩
    exact ⟨a + b, ha.addx hb, by rw [Rat.intCast_add]; grind⟩
  Smul := by
    rintro L K n m r s ⟨a, ha, e1⟩ ⟨b, hb, e2⟩
    exact ⟨a * b, ha.mul hb, by rw [Rat.intCast_mul, Rat.natCast_mul]; grind⟩
  Szero L n := ⟨0, Bd.zero, by grind⟩
  Sone := fun {L n} h => ⟨L, h, by rw [Rat.one_mul]; rfl⟩
  Sex := fun h h1 h2 h3 h4 => S0.ex h h1 h2 h3 h4
/-- over g -/
theorem fin_canon {g : Int} {u : Int} (hg : 2 ≤ g) : canon g u 1 = dN (u.fmod g) 1 := by unfold canon; rw [if_pos (by omega)]
def numXF (n : Nat) [NeZero n] (hn : 2 ≤ n) (h13 : n ≤ 13) : NumX (n : Int) (_root_.Fin n) where
  p r := (r.val : Int)
  q _ := 1
  okp r s := by unfold okd; rw [if_pos (by omega)]; rfl
  ok1 r := by unfold okd; rw [if_pos (by omega)]
  add r s := by
    rw [Int.mul_one, Int.mul_one, Int.mul_one, fin_canon (by omega), Fin.val_add, Int.fmod_eq_emod_of_nonneg _ (by omega), Int.natCast_emod, Int.natCast_add]
  mul r s := by
    rw [Int.mul_one, fin_canon (by omega), Fin.val_mul, Int.fmod_eq_emod_of_nonneg _ (by omega), Int.natCast_emod, Int.natCast_mul]
  neg r := by
    rw [fin_canon (by omega), Fin.neg_def, Int.fmod_eq_emod_of_nonneg _ (by omega)]
    have hr := r.isLt
    show dN _ _ = dN (((n - r.val) % n : Nat) : Int) 1
    rw [Int.natCast_emod, Int.natCast_sub (by omega)]
    have : (0 - (r.val : Int)) % (n : Int) = ((n : Int) - (r.val : Int)) % (n : Int) := by
      rw [Int.sub_eq_add_neg (a := (n : Int)), Int.add_comm (n : Int), Int.add_emod_right, Int.zero_sub]
    rw [this]
  zero := rfl
  one := by
    show dN (((1 % n : Nat) : Int)) 1 = _
    rw [Nat.mod_eq_of_lt (by omega)]
    rfl
  mone := by
    rw [fin_canon (by omega), Fin.neg_def, Int.fmod_eq_emod_of_nonneg _ (by omega)]
    show dN _ _ = dN (((n - (1 % n)) % n : Nat) : Int) 1
    rw [Nat.mod_eq_of_lt (show 1 < n by omega), Int.natCast_emod, Int.natCast_sub (by omega)]
    have : (-1 : Int) % (n : Int) = ((n : Int) - ((1 : Nat) : Int)) % (n : Int) := by
      rw [Int.sub_eq_add_neg (a := (n : Int)), Int.add_comm (n : Int), Int.add_emod_right]
      rfl
    rw [this]
  ex u d _ h := by
    unfold okd at h
    rw [if_pos (by omega)] at h
    subst h
    rw [fin_canon (by omega)]
    have hr := fmod_range (i := u) (j := (n : Int)) (by omega)
    refine ⟨⟨(u.fmod n).toNat, by omega⟩, ?_⟩
    show dN _ _ = dN (((u.fmod n).toNat : Nat) : Int) 1
    rw [Int.toNat_of_nonneg hr.1]
  good r := by
    unfold numB dN
    have := r.isLt
    dsimp only
    rw [if_pos (by omega), decide_eq_true (by omega), decide_eq_true (by omega)]
    rfl
  inj r s h := by
    obtain ⟨e1, _⟩ := dN_inj h
    exact Fin.ext (by exact_mod_cast e1)
  S _ _ _ := True
  SB := fun {L m k r} _ h _ _ h4 => by
    have := r.isLt
    refine ⟨Bd.mono (n := 4) ?_ h4, Bd.one (by omega)⟩
    unfold Bd
    have e : (2:Nat) ^ 4 = 16 := by decide
    rw [Int.natAbs_natCast]
    omega
  Sadd := fun _ _ => trivial
  Smul := fun _ _ => trivial
  Szero _ _ := trivial
  Sone := fun _ => trivial
  Sex := fun _ _ _ _ _ => trivial
theorem numX_of {g : Int} (h : g = 0 ∨ 2 ≤ g) (h13 : g ≤ 13) : ∃ (R : Type) (_ : Lean.Grind.CommRing R), Nonempty (NumX g R) := by
  rcases h with rfl | h
  · exact ⟨Rat, inferInstance, ⟨numX0⟩⟩
  · have e : ((g.toNat : Nat) : Int) = g := Int.toNat_of_nonneg (by omega)
    have : NeZero g.toNat := ⟨by omega⟩
    have k : NumX ((g.toNat : Nat) : Int) (_root_.Fin g.toNat) := numXF g.toNat (by omega) (by omega)
    rw [e] at k
    exact ⟨_root_.Fin g.toNat, inferInstance, ⟨k⟩⟩
end DD

namespace DD
open PySem PySem.Spec L2
open PyProof.Rows hiding St
variable [LamN]
theorem w_compMap {α : Type} {sl : List Nat} {gg : D → M Unit} {elt : M A} {E : Ex → DEnv → Prop} (f : α → D) (h : α → A) {ρ0 : DEnv} : ∀ {xs : List α} {ds : List D} {QL : List A → DEnv → Prop}, ds = xs.map f →
    (∀ x ∈ xs, Wp (gg (f x) ρ0) (fun _ ρ1 => Wp (elt ρ1) (fun a ρ3 => a = h x ∧ wipeE ρ3 sl = ρ0) E) E) → QL (xs.map h) ρ0 → Wp (compL sl gg (M.pure true) elt ds ρ0) QL E
  | [], _, QL, rfl, _, k => w_compnil k
  | x :: xs, _, QL, rfl, st, k => by
    refine w_compcons (wp_mono (st x (by simp)) (fun _ ρ1 k1 => wp_pure (wk_t (wp_mono k1 (fun a ρ3 ⟨e1, e2⟩ => ?_) fun _ _ z => z))) fun _ _ z => z)
    subst e1
    rw [e2]
    exact w_compMap f h (xs := xs) (QL := fun l ρ4 => QL (h x :: l) ρ4) rfl (fun y hy => st y (List.mem_cons_of_mem _ hy)) k
mutual
def Pl (n : Nat) : D → Prop
  | .int i => Bd n i
  | .tup l => Pls n l
  | .lst l => Pls n l
  | .fz l => Pls n l
  | .ins _ _ _ => False
  | _ => True
def Pls (n : Nat) : List D → Prop
  | [] => True
  | d :: l => Pl n d ∧ Pls n l
end
theorem pls_iff {n : Nat} : ∀ {l : List D}, Pls n l ↔ ∀ d ∈ l, Pl n d
  | [] => by simp [Pls]
  | d :: l => by simp [Pls, pls_iff (l := l)]
theorem Pl.kind {n : Nat} {d : D} (h : Pl n d) : kindD d ≠ "" := by
  cases d with
  | ins _ _ _ => exact absurd h (by simp [Pl])
  | _ => simp [kindD]
theorem pl_tup {n : Nat} {l : List D} : Pl n (.tup l) ↔ ∀ d ∈ l, Pl n d := by rw [← pls_iff]; simp [Pl]
theorem pl_lst {n : Nat} {l : List D} : Pl n (.lst l) ↔ ∀ d ∈ l, Pl n d := by rw [← pls_iff]; simp [Pl]
theorem pl_int {n : Nat} {i : Int} : Pl n (.int i) ↔ Bd n i := by simp [Pl]
theorem pl_bl {n : Nat} {b : Bool} : Pl n (.bl b) := by simp [Pl]
theorem pl_str {n : Nat} {b : Str} : Pl n (.str b) := by simp [Pl]
theorem pl_non {n : Nat} : Pl n .non := by simp [Pl]
mutual
theorem Pl.mono {n m : Nat} (k : n ≤ m) : ∀ (d : D), Pl n d → Pl m d
  | .int i, h => by simp only [Pl] at h ⊢; exact h.mono k
  | .tup l, h => by simp only [Pl] at h ⊢; exact Pls.mono k l h
  | .lst l, h => by simp only [Pl] at h ⊢; exact Pls.mono k l h
  | .fz l, h => by simp only [Pl] at h ⊢; exact Pls.mono k l h
  | .ins _ _ _, h => by simp [Pl] at h
  | .non, _ => by simp [Pl]
  | .bl _, _ => by simp [Pl]
  | .str _, _ => by simp [Pl]
theorem Pls.mono {n m : Nat} (k : n ≤ m) : ∀ (l : List D), Pls n l → Pls m l
  | [], _ => by simp [Pls]
  | d :: l, h => by simp only [Pls] at h ⊢; exact ⟨Pl.mono k d h.1, Pls.mono k l h.2⟩
end
theorem bls_map {α : Type} {F : α → Bool} : ∀ l : List α, bls (l.map fun d => .bl (F d)) = some (l.map F)
  | [] => rfl
  | d :: l => by simp [bls, bls_map l]
theorem all_map {α : Type} {F : α → Bool} {l : List α} : opAll [.m (l.map fun d => A.v (.bl (F d)))] = some (.v (.bl (l.all F))) := by
  have e : (A.m (l.map fun d => A.v (.bl (F d)))).frz = .lst (l.map fun d => .bl (F d)) := by
    show D.lst (frzs _) = _
    rw [frzs_eq, List.map_map]
    rfl
  unfold opAll opBs
  dsimp only
  rw [e]
  unfold lstD
  rw [Option.bind_some, bls_map, Option.map_some]
  congr 3
  rw [List.all_map]
  rfl
def rowB (g m : Int) (d : D) : Bool := match d with
  | .tup l => decide ((l.length : Int) = m) && l.all (numB g)
  | _ => false
def tabB (g h m : Int) (d : D) : Bool := match d with
  | .tup l => decide ((l.length : Int) = h) && l.all (rowB g m)
  | _ => false
section
variable {g : Int} {R : Type} [Lean.Grind.CommRing R] (N : NumX g R)
def rwD (l : List R) : D := .tup (l.map N.nm)
def tbD (t : List (List R)) : D := .tup (t.map (rwD N))
variable {N}
theorem rwD_inj {l k : List R} (h : rwD N l = rwD N k) : l = k := by
  unfold rwD at h
  have h : l.map N.nm = k.map N.nm := by simpa using h
  exact List.map_inj_right (fun r s e => NumX.nm_inj e) |>.mp h
theorem rowB_rw {l : List R} {m : Int} : rowB g m (rwD N l) = decide ((l.length : Int) = m) := by
  unfold rowB rwD
  dsimp only
  have e : l.all (numB g ∘ N.nm) = true := List.all_eq_true.mpr fun r _ => N.good r
  rw [List.length_map, List.all_map, e, Bool.and_true]
theorem okc_nmX {r : R} : okc 1 (N.nm r) = true := okc_tup fun d hd => by simp at hd; rcases hd with rfl | rfl <;> exact okc_int
theorem okc_rw {l : List R} : okc 2 (rwD N l) = true := okc_tup fun d hd => by
  obtain ⟨r, _, rfl⟩ := List.mem_map.mp hd
  exact okc_nmX
theorem okc_tb {t : List (List R)} : okc 3 (tbD N t) = true := okc_tup fun d hd => by
  obtain ⟨r, _, rfl⟩ := List.mem_map.mp hd
  exact okc_rw
end
theorem eqv_bls : ∀ {l k : List Bool}, l = k → PyData.eqv (D.lst (l.map .bl)).py (D.lst (k.map .bl)).py = true := fun {l k} h => by
  subst h
  exact eqv_self (k := 1) (okc_lst fun d hd => by
    obtain ⟨b, _, rfl⟩ := List.mem_map.mp hd
    simp [okc])
end DD

namespace DD
open PySem PySem.Spec L2
open PyProof.Rows hiding St
variable [LamN]
section
variable {R : Type} [Lean.Grind.CommRing R]
def thrF (acc : List R) (p : R × List R) : List R := List.zipWith (· + ·) acc (p.2.map (· * p.1))
def thr (m : Nat) (x : List R) (t : List (List R)) : List R := (x.zip t).foldl thrF (List.replicate m 0)
def trn (m : Nat) (t : List (List R)) : List (List R) := (List.range m).map fun k => t.map fun l => l.getD k 0
def cel (x : List R) (t : List (List R)) (j : Nat) : R := ((List.range t.length).map fun k => x.getD k 0 * (t.getD k []).getD j 0).foldl (· + ·) 0
theorem thrF_len {m : Nat} {acc : List R} {p : R × List R} (h : acc.length = m) (hp : p.2.length = m) : (thrF acc p).length = m := by
  unfold thrF
  rw [List.length_zipWith, List.length_map, h, hp, Nat.min_self]
theorem getD_at {α : Type} {l : List α} {i : Nat} {d : α} (h : i < l.length) : l.getD i d = l[i] := by simp [List.getD_eq_getElem?_getD, h]
theorem thrF_zero {m : Nat} {acc : List R} {p : R × List R} (h : acc.length = m) (hp : p.2.length = m) (h0 : p.1 = 0) : thrF acc p = acc := by
  obtain ⟨a, b⟩ := p
  dsimp only at h0 hp
  subst h0
  unfold thrF
  refine List.ext_getElem (by rw [List.length_zipWith, List.length_map, h, hp, Nat.min_self]) fun i h1 h2 => ?_
  rw [List.getElem_zipWith, List.getElem_map]
  grind
theorem thrF_get {m j : Nat} {acc : List R} {p : R × List R} (h : acc.length = m) (hp : p.2.length = m) (hj : j < m) : (thrF acc p).getD j 0 = acc.getD j 0 + p.2.getD j 0 * p.1 := by
  have h1 : j < acc.length := by omega
  have h2 : j < p.2.length := by omega
  have h3 : j < (thrF acc p).length := by rw [thrF_len h hp]; exact hj
  rw [getD_at h3, getD_at h1, getD_at h2]
  exact (List.getElem_zipWith (f := (· + ·)) (l := acc) (l' := p.2.map (· * p.1)) (h := h3)).trans (by rw [List.getElem_map])
theorem fold_get {m j : Nat} (hj : j < m) : ∀ {ps : List (R × List R)} {acc : List R}, acc.length = m → (∀ p ∈ ps, p.2.length = m) → (ps.foldl thrF acc).length = m ∧ (ps.foldl thrF acc).getD j 0 = ps.foldl (fun s p => s + p.2.getD j 0 * p.1) (acc.getD j 0)
  | [], acc, h, _ => ⟨h, rfl⟩
  | p :: ps, acc, h, hp => by
    have h1 := hp p (by simp)
    obtain ⟨a, b⟩ := fold_get hj (ps := ps) (acc := thrF acc p) (thrF_len h h1) fun q hq => hp q (List.mem_cons_of_mem _ hq)
    refine ⟨a, ?_⟩
    rw [List.foldl_cons, b, thrF_get h h1 hj]
    rfl
theorem thr_len {m : Nat} {x : List R} {t : List (List R)} (ht : ∀ l ∈ t, l.length = m) : (thr m x t).length = m := by
  unfold thr
  have : ∀ {ps : List (R × List R)} {acc : List R}, acc.length = m → (∀ p ∈ ps, p.2.length = m) → (ps.foldl thrF acc).length = m := by
    intro ps
    induction ps with
    | nil => intro acc h _; exact h
    | cons p ps ih => intro acc h hp; exact ih (thrF_len h (hp p (by simp))) fun q hq => hp q (List.mem_cons_of_mem _ hq)
  exact this (by simp) fun p hp => ht _ (List.of_mem_zip hp).2
theorem thr_cel {m : Nat} {x : List R} {t : List (List R)} (hx : x.length = t.length) (ht : ∀ l ∈ t, l.length = m) : thr m x t = (List.range m).map (cel x t) := by
  refine List.ext_getElem (by rw [thr_len ht]; simp) fun j h1 h2 => ?_
  have hj : j < m := by simpa using h2
  rw [List.getElem_map, List.getElem_range]
  obtain ⟨a, b⟩ := fold_get hj (ps := x.zip t) (acc := List.replicate m 0) (by simp) fun p hp => ht _ (List.of_mem_zip hp).2
  have e1 : (thr m x t)[j] = (thr m x t).getD j 0 := (getD_at h1).symm
  rw [e1]
  unfold thr
  rw [b]
  unfold cel
  have e2 : ((List.range t.length).map fun k => x.getD k 0 * (t.getD k []).getD j 0) = (x.zip t).map fun p => p.1 * p.2.getD j 0 := by
    refine List.ext_getElem (by simp [hx]) fun k g1 g2 => ?_
    have hk : k < t.length := by simpa using g1
    rw [List.getElem_map, List.getElem_map, List.getElem_range, List.getElem_zip, getD_at hk, getD_at (by omega : k < x.length)]
  rw [e2, List.foldl_map]
  have e3 : (List.replicate m (0 : R)).getD j 0 = 0 := by rw [getD_at (by simpa using hj), List.getElem_replicate]
  rw [e3]
  congr 1
  funext s p
  grind
theorem trn_trn {h m : Nat} {t : List (List R)} (ht : t.length = h) (hl : ∀ l ∈ t, l.length = m) : trn h (trn m t) = t := by
  unfold trn
  refine List.ext_getElem (by simp [ht]) fun i h1 h2 => ?_
  rw [List.getElem_map, List.getElem_range, List.map_map]
  have hi := hl _ (List.getElem_mem h2)
  refine List.ext_getElem (by simp [hi]) fun j g1 g2 => ?_
  rw [List.getElem_map, List.getElem_range]
  show (t.map fun l => l.getD j 0).getD i 0 = _
  rw [getD_at (by simpa using h2), List.getElem_map, getD_at g2]
end
theorem eqv_dN {a b c d : Int} : PyData.eqv (dN a b).py (dN c d).py = (decide (a = c) && decide (b = d)) := by
  simp [dN, D.py, pys, PyData.eqv, PyData.eqvAll]
  by_cases h1 : a = c <;> by_cases h2 : b = d <;> simp [h1, h2]
section
variable {g : Int} {R : Type} [Lean.Grind.CommRing R] {N : NumX g R}
theorem NumX.smono {L n m : Nat} {r : R} (h : N.S L n r) (k : n < m) : N.S L m r := by
  have := N.Sadd h (N.Szero L (m - 1))
  have e : r + 0 = r := by grind
  rw [e] at this
  have e2 : max n (m - 1) + 1 = m := by omega
  rwa [e2] at this
/-- a number other than nought -/
theorem wo_neZ {r : R} {P : A → Prop} (q : ∀ b : Bool, (b = true → r ≠ 0) → (b = false → r = 0) → P (.v (.bl b))) : Wo (opNe (.v (N.nm r)) (.v (.tup [.int 0, .int 1]))) P := by
  refine wo_neD (k := 1) (j := 1) okc_nmX (by simp [okc, okcs, A.frz]) (by decide) (by decide) (q _ (fun h e => ?_) fun h => ?_)
  · subst e
    have e2 : (A.v (N.nm 0)).frz.py = (A.v (.tup [.int 0, .int 1])).frz.py := congrArg D.py N.zero
    rw [e2, eqv_self (k := 1) (by simp [okc, okcs, A.frz])] at h
    cases h
  · have e2 : PyData.eqv (dN (N.p r) (N.q r)).py (dN 0 1).py = true := by
      have : (!PyData.eqv (dN (N.p r) (N.q r)).py (dN 0 1).py) = false := h
      simpa using this
    rw [eqv_dN] at e2
    simp at e2
    refine NumX.nm_inj (N := N) ?_
    show dN (N.p r) (N.q r) = dN (N.p 0) (N.q 0)
    rw [N.zero, e2.1, e2.2]
end
end DD

namespace DD
open PySem PySem.Spec L2
open PyProof.Rows hiding St
variable [LamN]

theorem takesF {X : Cx} : L2N.Takes X fun _ _ _ _ => False := fun _ _ ⟨_, _, _, _, _, _, _, _, _, _, _, _, _, _, _, _, z⟩ => z.elim
/-- a class of exceptions without fields of its own -/
structure ExCls (K : PySem.W.Frag) (mg : Str → Option Value) (c : Str) : Prop where
  ex : ∃ (D : Addr) (bmB : List Value) (B newId initId : String), mg c = some (.ref D) ∧ ExcBaseFacts B newId initId bmB ∧ PySem.W.excIn K D bmB newId = true ∧ PySem.W.keepIn K (.ref D) = true ∧
    PySem.W.subIn K (.ref D) (.type "BaseException") = some true ∧ PySem.W.typeIn K (.ref D) = some (.type "type")
def dRaise (c : Str) : M Flow := fun ρ => .exc ⟨c, [], []⟩ ρ
/-- raise c('m') -/
theorem ds_raise {X : Cx} {C : SC} {c m : Str} {j : Nat} {p p2 pos pos' : Pos} (h : ExCls X.K X.mg c) (hK : X.K = C.K) (hM : X.mg = C.mg) (tk : L2N.Takes X C.W) (hc : X.calm = true) (hg : Gl X c) (hd : (c == ("__debug__" : Str)) = false := by decide) :
    PS X (.Raise (some (.Call (.Name c p) [.Constant (.str m) j p2] [] pos)) none pos') (tS C (dRaise c)) := by
  obtain ⟨D, bmB, B, n1, n2, e1, F, q, kk, s1, s2⟩ := h.ex
  refine PS.w (L2N.ps_raise hc tk (L2N.pmk_own F q e1 kk (raises_own s1 s2) hg hd)) fun En σ H ⟨b, Z, ρ, vs, as, hb, hl, S, k⟩ => ?_
  exact k Z H σ (.ref D) none S ⟨.inl (by rw [← hM]; exact e1), .inl ⟨rfl, rfl, rfl⟩⟩

section
variable {P : Program} {w : World} {K : PySem.W.Frag} {mg : Str → Option Value} {base : Heap}
/-- a def that may raise, to be called by its name -/
structure CalX (P : Program) (w : World) (K : PySem.W.Frag) (mg : Str → Option Value) (base : Heap) (k : Nat) (x : Str) (F : Fn) (ds : List D) : Prop where
  ex : ∃ (f : Addr) (fd : FuncData) (ps : List Str) (us : List Value) (ys : List V), FnOk P w K mg base (L2N.CX P w) k f fd ps (fun vs H Q E => spD K mg F vs H Q E) ∧ mg x = some (.ref f) ∧ PySem.W.keepIn K (.ref f) = true ∧ Binds K fd ps us ∧ Vals ys us ∧
    ∀ Z, RepDs K mg Z ys ds
theorem calX_def {k n N : Nat} {x : Str} {st : Stmt} {Ns ps : List Str} {pn : List Nat} {body : M Flow} {F : Fn} (h0 : Def0 K mg x st ps) (S : FnScope Ns ps (defScope st))
    (hF : F = dFn n N pn body) (hn : ps.length = n) (hN : Ns.length = N)
    (hb : ∀ (f : Addr) (cdv : Value) (A : Around) (outer : List PySem.Env) (s : Shared) (H : Hp) (E : XK), Room k (A.deeper (envOfC x (defScope st) s.heap.objs.size f cdv)) →
      L2N.Takes (cxOf (L2N.CX P w) P w K mg base Ns x (defScope st) f cdv A outer s H E) (fun cls d _ H => E cls d H) →
      PSs (cxOf (L2N.CX P w) P w K mg base Ns x (defScope st) f cdv A outer s H E) (defBody st) (tS ⟨K, mg, fun cls d _ H => E cls d H, pn, []⟩ body)) : CalX P w K mg base (k + 1) x F [] := by
  subst hF hn hN
  obtain ⟨f, fd, h⟩ := h0
  have hn : ps.length ≤ Ns.length := by have := congrArg List.length S.pre; rw [List.length_take] at this; omega
  refine ⟨f, fd, ps, [], [], ?_, h.m, h.fn.kp, .all h.b, .nil, fun _ => .nil⟩
  obtain ⟨oc, od, kV, doc, pm, an, cdv, ct, osl, rfl, lk, hcd⟩ := h.fn.ex
  refine fn_of lk hcd S (fun vs H Q E q => (body_ok (W := fun cls d _ H' => E cls d H') (fun _ _ => rfl) (fun _ _ _ _ z => z) q hn).1) fun A outer s H vs Q E hr q => ?_
  obtain ⟨hl, ht⟩ := body_ok (W := fun cls d _ H' => E cls d H') (fun _ _ => rfl) (fun _ _ _ _ z => z) q hn
  refine ⟨_, hb f cdv A outer s H E hr (L2N.takes_of rfl rfl rfl rfl), ?_⟩
  unfold L2.start
  rw [hl]
  exact ht
theorem CalX.mono {j k : Nat} {x : Str} {F : Fn} {ds : List D} (c : CalX P w K mg base j x F ds) (h : j ≤ k) : CalX P w K mg base k x F ds :=
  let ⟨f, fd, ps, us, ys, G, r⟩ := c.ex
  ⟨f, fd, ps, us, ys, G.mono h, r⟩
/-- a def's answers, its exceptions left out -/
def noX (F : Fn) : Fn := fun as => match F as with
  | .exc _ _ => .bad
  | r => r
theorem noX_sp {F : Fn} {vs : List V} {H : Hp} {Q : VK} {E : XK} (h : spD K mg (noX F) vs H Q E) : spD K mg F vs H Q fun _ _ _ => False := by
  obtain ⟨Z, as, fs, h1, h2, h3, h4, h5⟩ := h
  refine ⟨Z, as, fs, h1, h2, h3, h4, ?_⟩
  revert h5
  unfold noX
  cases F as with
  | ok r l => exact id
  | exc e l => exact fun z => z.elim
  | bad => exact id
end
section
variable {X : Cx} {C : SC} {fs : M (List AV)} {x : Str} {p pos : Pos} {e : Expr} {es : List Expr}
/-- a call of a def that may raise -/
theorem de_callX {F : Fn} {ds : List D} {k : Nat} (c : CalX X.prog X.w X.K X.mg X.base k x F ds) (hr : Room k X.A) (hg : Gl X x) (hK : X.K = C.K) (hM : X.mg = C.mg) (tk : L2N.Takes X C.W) (ha : PA X (e :: es) (tV C fs)) (hdb : (x == ("__debug__" : Str)) = false := by decide)
    (he : starEach (e :: es) X.env = (false, eval e X.env) :: starEach es X.env := by rfl) (hpl : (backTo pos (starEach es X.env)).any (·.1) = false := by rfl) : PE X (.Call (.Name x p) (e :: es) [] pos) (tE C (dCall F fs ds)) := by
  obtain ⟨f, fd, ps, us, ys, F', h1, h2, h3, h4, h5⟩ := c.ex
  refine PE.w (pe_callSD F' hr hg h1 h2 h3 h4 (fun σ => L2N.passAt tk σ) ha hdb he hpl) fun σ H Q q => ?_
  refine (Go.bindV q).mono fun ws H1 ⟨l, pv, qa, r, q1⟩ => ?_
  rw [hK, hM] at h5
  show spD X.K X.mg F (ws ++ ys) H1 Q _
  rw [hK, hM]
  exact go_call h5 r (fun _ _ _ z => z) (fun _ _ _ z => z) (by simpa using q1)
/-- a call of a def that does not raise, wherever -/
theorem de_callN {F : Fn} {ds : List D} {k : Nat} (c : CalD X.prog X.w X.K X.mg X.base k x F ds) (hr : Room k X.A) (hg : Gl X x) (hK : X.K = C.K) (hM : X.mg = C.mg) (ha : PA X (e :: es) (tV C fs)) (hdb : (x == ("__debug__" : Str)) = false := by decide)
    (he : starEach (e :: es) X.env = (false, eval e X.env) :: starEach es X.env := by rfl) (hpl : (backTo pos (starEach es X.env)).any (·.1) = false := by rfl) : PE X (.Call (.Name x p) (e :: es) [] pos) (tE C (dCall (noX F) fs ds)) := by
  obtain ⟨f, fd, ps, us, ys, F', h1, h2, h3, h4, h5⟩ := c.ex
  refine PE.w (pe_call (E := fun _ _ _ => False) F' hr hg h1 h2 h3 h4 pass0 ha hdb he hpl) fun σ H Q q => ?_
  refine (Go.bindV q).mono fun ws H1 ⟨l, pv, qa, r, q1⟩ => ?_
  rw [hK, hM] at h5
  show spD X.K X.mg F (ws ++ ys) H1 Q fun _ _ _ => False
  rw [hK, hM]
  exact noX_sp (E := fun cls d H' => C.W cls d σ H') (go_call h5 r (fun _ _ _ z => z) (fun _ _ _ z => z) (by simpa using q1))
end
theorem wc_noX {F : Fn} {as : List A} {QC : A → List A → Prop} {EC : Ex → List A → Prop} (h : Wc (F as) QC fun _ _ => False) : Wc (noX F as) QC EC := by
  obtain ⟨a, l, e, q⟩ := ex_wc h
  unfold noX
  rw [e]
  exact Wc.ok q
end DD

namespace DD
open PySem PySem.Spec L2
open PyProof.Rows hiding St

abbrev Wish := Ends → WX
/-- a suite's wish behind a clause with a name: slot i is empty then -/
def Ends.out (D : Ends) (i : Nat) : Ends where
  nx := fun τ G => D.nx (τ.set i none) G
  rt := D.rt
  bk := fun τ G => D.bk (τ.set i none) G
  ct := fun τ G => D.ct (τ.set i none) G
abbrev SuiteT := Addr → Value → Option Addr → TS
def hitW (K : PySem.W.Frag) (n : Nat) (c : Value) (go : Ends → Addr → WX) (w : Wish) : Wish := fun D cls d τ G =>
  ∃ hit, PySem.W.exmOne K cls c = some hit ∧ (if hit = true then ∀ a, G a = none → τ.length = n → go D a cls d τ G else w D cls d τ G)
inductive Hds (X : Cx) : List ExceptHandler → Wish → Prop
  | nil : Hds X [] fun _ _ _ _ _ => False
  | only {x : Str} {c : Value} {ts : SuiteT} {st : Stmt} {sts : List Stmt} {q1 q2 : Pos} {more : List ExceptHandler} {w : Wish} : Names X x c →
      (∀ (a : Addr) (o : Obj) (cls : Value) (d : Option Addr) (l : List (Addr × Obj)), L2N.Zn cls d o → (∃ vs, o.data = .fields vs) → PSs (X.suite a ((a, o) :: l)) (st :: sts) (ts a cls d)) →
      Hds X more w → Hds X (.ExceptHandler (some (.Name x q1)) none (st :: sts) q2 :: more) (hitW X.K X.N.length c (fun D a cls d τ G => ts a cls d D τ G) w)
  | named {x n : Str} {c : Value} {i : Nat} {ts : SuiteT} {st : Stmt} {sts : List Stmt} {q1 q2 : Pos} {more : List ExceptHandler} {w : Wish} : X.N[i]? = some n → X.env.kindOf n = some .local → Names X x c →
      (∀ (a : Addr) (o : Obj) (cls : Value) (d : Option Addr) (l : List (Addr × Obj)), L2N.Zn cls d o → (∃ vs, o.data = .fields vs) → PSs (X.suite a ((a, o) :: l)) (st :: sts) (ts a cls d)) →
      Hds X more w → Hds X (.ExceptHandler (some (.Name x q1)) (some n) (st :: sts) q2 :: more) (hitW X.K X.N.length c (fun D a cls d τ G => ts a cls d (Ends.out D i) (τ.set i (some (.ref a))) G) w)

section
variable {X : Cx} {pins : List (Addr × Obj)} {τ : St} {G : Hp}
/-- an exception that has landed in X: t0 is the state without it, t1 the state now -/
structure Landed (X : Cx) (pins : List (Addr × Obj)) (τ : St) (G : Hp) (a : Addr) (cls : Value) (d : Option Addr) (B : Heap) (t0 t1 : Shared) : Prop where
  inv : Inv X pins τ G t0
  below : ∀ q o, t0.heap.get? q = some o → q ∉ frs X.stack → B.get? q = some o
  up : t0.heap.UpToSlots t1.heap
  air : HandSPX.FlyingZ B (X.env :: X.outer) a (L2N.Zn cls d) t1.heap
  new : G a = none
  os : t1.os = t0.os
  gens : AllBare t1.gens
theorem Landed.now {a : Addr} {cls : Value} {d : Option Addr} {B : Heap} {t0 t1 : Shared} (L : Landed X pins τ G a cls d B t0 t1) : Inv X pins τ G t1 := L.inv.landed L.below L.air.1 L.up L.os L.gens
/-- the suite's start -/
theorem Landed.suite {a : Addr} {cls : Value} {d : Option Addr} {B : Heap} {t0 t1 : Shared} (hst : X.stack = X.env :: X.outer) (hfl : X.env.frame = some X.env.locals) (L : Landed X pins τ G a cls d B t0 t1) :
    ∃ o vs, t1.heap.get? a = some o ∧ L2N.Zn cls d o ∧ o.data = .fields vs ∧ Inv (X.suite a ((a, o) :: (X.pn ++ pins))) [] τ G t1 := by
  obtain ⟨o, vs, e1, z, e2⟩ := L.air.there
  have out : a ∉ frs (X.env :: X.outer) := fun hm => by
    obtain ⟨_, u, e3, nf⟩ := L.air.2.2.1.mem hm
    rw [e1] at e3
    cases e3
    exact nf _ e2
  refine ⟨o, vs, e1, z, e2, L.now.suite e1 e2 L.new (fun q => out ?_) fun q => out ?_⟩
  · exact List.mem_filterMap.mpr ⟨X.env, List.mem_cons_self, by rw [hfl, q]⟩
  · obtain ⟨v, hv, e3⟩ := List.mem_filterMap.mp q
    exact List.mem_filterMap.mpr ⟨v, List.mem_cons_of_mem _ hv, e3⟩
/-- the same, raised again inside -/
theorem Landed.again {M : Model} {A : Around} {E : Value → Shared → Prop} {a : Addr} {cls : Value} {d : Option Addr} {B : Heap} {t0 t1 : Shared} {Q : Unit → Shared → Prop} (L : Landed X pins τ G a cls d B t0 t1)
    (h : ∀ t2, Landed X pins τ G a cls d B t0 t2 → Q () t2) : wpAny M A (setFlight (.ref a) none) Q E t1 :=
  HandSPX.lands_againZ L.air fun g2 air2 up2 => h { t1 with heap := g2 } ⟨L.inv, L.below, L.up.trans up2, air2, L.new, L.os, L.gens⟩
/-- a clause's test -/
theorem Landed.test {a : Addr} {cls c : Value} {d : Option Addr} {B : Heap} {t0 t1 : Shared} {x : Str} {q1 : Pos} {Q E : Value → Shared → Prop} (hst : X.stack = X.env :: X.outer) (hfl : X.env.frame = some X.env.locals) (L : Landed X pins τ G a cls d B t0 t1) (hx : Names X x c)
    (h : Q c t1) : wpAny (model X.prog X.w) (X.A.mark (some (.ref a))) (eval (.Name x q1) X.env) Q E t1 := by
  obtain ⟨o, vs, _, _, _, J⟩ := L.suite hst hfl
  obtain ⟨g, nd, m | ⟨m, bv, nn⟩⟩ := hx
  · exact ld_glob J g m h nd
  · exact ld_blt J g m bv h nn nd
theorem Landed.look {a : Addr} {cls c : Value} {d : Option Addr} {B : Heap} {t0 t1 : Shared} {hit : Bool} (L : Landed X pins τ G a cls d B t0 t1) (e : PySem.W.exmOne X.K cls c = some hit) :
    PySem.W.Looks (model X.prog X.w) t1.heap (excMatches (.ref a) c) hit := by
  obtain ⟨o, vs, e1, z, _⟩ := L.air.there
  refine PySem.W.exm_one (M := model X.prog X.w) L.now.kIn (cls := cls) (fun A Q E s keep q => wpAny_typeOf_ref (keep _ _ e1) ?_) e
  rw [z.1]
  exact q
/-- what the clauses do with it -/
theorem handled (hst : X.stack = X.env :: X.outer) (hfl : X.env.frame = some X.env.locals) (nd : X.N.Nodup) {D : Ends} {a : Addr} {cls : Value} {d : Option Addr} {B : Heap} {t0 : Shared} :
    ∀ {hds : List ExceptHandler} {w : Wish}, Hds X hds w → ∀ {t1 : Shared}, Landed X pins τ G a cls d B t0 t1 → w D cls d τ G → wpAny (model X.prog X.w) X.A (handleBy (.ref a) X.env hds) (SP X pins D) X.xe t1 := by
  intro hds w hh
  induction hh with
  | nil => exact fun _ z => z.elim
  | @only x c ts st sts q1 q2 more w hx hs hm ih =>
    intro t1 L ⟨hit, e, k⟩
    refine wpAny_handleBy_cons (codeAny_handlers_test (L.test hst hfl hx ((L.look e).here ?_))) (by intro z; cases z)
    cases hit with
    | false =>
      rw [if_neg (by decide)] at k
      exact ih L k
    | true =>
      rw [if_pos rfl] at k
      refine codeAny_handlers_suite (L.again fun t2 L2 => ?_)
      obtain ⟨o, vs, e1, z, e2, J⟩ := L2.suite hst hfl
      have ok := L2.inv.ok
      refine wpAny_mono ((hs a o cls d _ z ⟨vs, e2⟩).run [] t2 τ G D J (k a L2.new L2.inv.len)) (fun fl t3 r => ?_) fun _ _ z => z.elim
      cases fl with
      | ret u =>
        obtain ⟨v, τ', G', J', rv, q⟩ := r
        exact ⟨v, τ', G', J'.unsuite ok, rv, q⟩
      | next => obtain ⟨τ', G', J', q⟩ := r; exact ⟨τ', G', J'.unsuite ok, q⟩
      | brk => obtain ⟨τ', G', J', q⟩ := r; exact ⟨τ', G', J'.unsuite ok, q⟩
      | cont => obtain ⟨τ', G', J', q⟩ := r; exact ⟨τ', G', J'.unsuite ok, q⟩
  | @named x n c i ts st sts q1 q2 more w hi hl hx hs hm ih =>
    intro t1 L ⟨hit, e, k⟩
    refine wpAny_handleBy_cons (codeAny_handlers_test (L.test hst hfl hx ((L.look e).here ?_))) (by intro z; cases z)
    cases hit with
    | false =>
      rw [if_neg (by decide)] at k
      exact ih L k
    | true =>
      rw [if_pos rfl] at k
      refine codeAny_handlers_suite_as (L.again fun t2 L2 => ?_)
      obtain ⟨o, vs, e1, z, e2, J⟩ := L2.suite hst hfl
      have ok := L2.inv.ok
      refine store_ok (X := X.suite a ((a, o) :: (X.pn ++ pins))) (v := .ref a) J nd hi (.inl hl) rfl (fun t3 J3 => ?_) (.inr hl)
      refine wpAny_mono ((hs a o cls d _ z ⟨vs, e2⟩).run [] t3 _ G (Ends.out D i) J3 (k a L2.new L2.inv.len)) (fun fl t4 r => ?_) fun _ _ z => z.elim
      cases fl with
      | ret u =>
        obtain ⟨v, τ', G', J', rv, q⟩ := r
        exact gone_ok (J'.unsuite ok) nd hi hl fun t5 J5 => ⟨v, _, G', J5, rv, q⟩
      | next => obtain ⟨τ', G', J', q⟩ := r; exact gone_ok (J'.unsuite ok) nd hi hl fun t5 J5 => ⟨_, G', J5, q⟩
      | brk => obtain ⟨τ', G', J', q⟩ := r; exact gone_ok (J'.unsuite ok) nd hi hl fun t5 J5 => ⟨_, G', J5, q⟩
      | cont => obtain ⟨τ', G', J', q⟩ := r; exact gone_ok (J'.unsuite ok) nd hi hl fun t5 J5 => ⟨_, G', J5, q⟩
end
/-- where a body's exception goes -/
def toHds (X : Cx) (pins : List (Addr × Obj)) (D : Ends) (hds : List ExceptHandler) (u : Value) (t : Shared) : Prop :=
  wpAny (model X.prog X.w) X.A (noteFrame u X.env) (fun _ t2 => wpAny (model X.prog X.w) X.A (setFlight u none) (fun _ t3 =>
      wpAny (model X.prog X.w) X.A (handleBy u X.env hds) (SP X pins D) X.xe t3) X.xe t2) X.xe t
/-- try: body, clauses that catch whatever comes -/
theorem ps_tryH {X : Cx} {body : List Stmt} {h1 : ExceptHandler} {hds : List ExceptHandler} {pos : Pos} {w : Wish} {tb : WX → TS} (hst : X.stack = X.env :: X.outer) (hfl : X.env.frame = some X.env.locals) (nd : X.N.Nodup) (hh : Hds X (h1 :: hds) w)
    (hb : ∀ (W : WX) (l : List (Addr × Obj)) (xe : Value → Shared → Prop), L2N.Takes (X.tr l xe) W → PassesOwn (model X.prog X.w) X.A X.env xe → PSs (X.tr l xe) body (tb W)) :
    PS X (.Try body (h1 :: hds) [] [] pos) (fun D τ G => tb (w D) D τ G) := by
  refine ⟨fun pins s τ G D I h => ?_⟩
  have ok := I.ok
  have fr : X.A.frames = some (X.env :: X.outer) := by rw [ok.frames, hst]
  refine wpAny_Try_except ?_
  refine wpAny_mono ((hb (w D) (X.pn ++ pins) (toHds X pins D (h1 :: hds)) ?tk ?po).run [] s τ G D (I.toTry _) h) (fun fl t r => ?en) ?ex
  case ex => exact fun e t he => he
  case po => exact PassesOwn.looking
  case tk =>
    intro u t ⟨a, B, t0, pins', τ', G', cls, d, eu, J, nb, up, sky, na, os, ag, k⟩
    subst eu
    rw [show (X.tr (X.pn ++ pins) _).stack = X.stack from rfl, hst] at sky
    refine L2N.Sky.land L2N.Zn.steady fr hfl sky fun g2 air up2 => ?_
    exact handled hst hfl nd hh (t1 := { t with heap := g2 }) ⟨J.ofTry ok, nb, up.trans up2, air, na, os, ag⟩ k
  case en =>
    cases fl with
    | ret u =>
      obtain ⟨v, τ', G', J', rv, q⟩ := r
      exact ⟨v, τ', G', J'.ofTry ok, rv, q⟩
    | next => obtain ⟨τ', G', J', q⟩ := r; exact wpAny_execs_nil ⟨τ', G', J'.ofTry ok, q⟩
    | brk => obtain ⟨τ', G', J', q⟩ := r; exact ⟨τ', G', J'.ofTry ok, q⟩
    | cont => obtain ⟨τ', G', J', q⟩ := r; exact ⟨τ', G', J'.ofTry ok, q⟩
end DD

namespace DD
open PySem PySem.Spec L2
open PyProof.Rows hiding St
variable [LamN]

abbrev lamCxN (X : Cx) (A : Around) (outer : List PySem.Env) (t0 : Shared) (G : Hp) (E : XK) (scope : Scope) (f c : Addr) : Cx :=
  (LamX.lamCx X A outer t0 G E scope f c).tr [] fun u t => wpAny (model X.prog X.w) (A.deeper (LamX.lamEnv X scope t0.heap.objs.size f c)) (leaving (LamX.lamEnv X scope t0.heap.objs.size f c) u)
      (fun _ t2 => L2N.CX X.prog X.w outer G t0 E u t2) (fun u2 t2 => L2N.CX X.prog X.w outer G t0 E u2 t2) t
/-- the context of the def that got it, entered at t0 -/
abbrev gotCx (X : Cx) (Ng : List Str) (x : Str) (sg : Scope) (g : Addr) (cdg : Value) (t0 : Shared) (G : Hp) : Cx := cxOf C8.CX0 X.prog X.w X.K X.mg X.base Ng x sg g cdg X.A X.stack t0 G C8.E0
def GivesN (X : Cx) (Ng : List Str) (x : Str) (sg : Scope) (g : Addr) (cdg : Value) (bg : List Stmt) (a : Str) (q : Str) (TT : (XK → Hp → VK → Prop) → Hp → VK → Prop) : Prop :=
  ∀ (f c : Addr) (t0 : Shared) (G : Hp) (Q : VK) (tl : XK → Hp → VK → Prop),
    (∀ (W : WX) (l : List (Addr × Obj)) (xe : Value → Shared → Prop) (E : XK) (p1 p2 : Pos), L2N.Takes ((gotCx X Ng x sg g cdg t0 G).tr l xe) W → (∀ cls d τ G', E cls d G' → W cls d τ G') →
      PE ((gotCx X Ng x sg g cdg t0 G).tr l xe) (.Call (.Name a p1) [] [] p2) (fun τ G' Q' => τ[0]? = some (some (.ref f)) ∧ G' c = some (LamX.CodeO c q) ∧ tl E G' Q')) →
    (X.A.deeper (envOfC x sg t0.heap.objs.size g cdg)).units + 64 < cLine → G c = some (LamX.CodeO c q) → TT tl G Q →
    ∃ t, PSs (gotCx X Ng x sg g cdg t0 G).nox bg t ∧ t { nx := fun _ G' => Q .non G', rt := Q } (L2.start Ng [.ref f]) G
section
variable {X : Cx} {pins : List (Addr × Obj)} {σ : L2.St} {H : Hp} {s : Shared}
theorem pe_actN {Ng : List Str} {qg : Str} {sg : Scope} {g f c : Addr} {cdg pm ctv : Value} {params : Arguments} {body : Expr} {scope : Scope} {k : Nat} {a : Str} {l : List (Addr × Obj)} {xe : Value → Shared → Prop} {W : WX} {E : XK} {tb : TE} {p1 p2 : Pos}
    (I : Inv X pins σ H s) (L : LamX.LamS X.env.scope scope) (hf : s.heap.get? f = some (PySem.W.kla_obj "<lambda>" (X.env.qual ++ "<lambda>") params body scope (cloFrom X.env.cells scope.names []) pm c ctv)) (nf : H f = none) (ns : f ∉ frs X.stack)
    (bind0 : bindArgs (PySem.W.kla_fn "<lambda>" (X.env.qual ++ "<lambda>") params body scope (cloFrom X.env.cells scope.names []) pm (.ref c) ctv) ⟨[], []⟩ = pure [])
    (tk : L2N.Takes ((gotCx X Ng qg sg g cdg s H).tr l xe) W) (hW : ∀ cls d τ G, E cls d G → W cls d τ G) (rm : Room (k + 1) (X.A.deeper (envOfC qg sg s.heap.objs.size g cdg)))
    (hb : ∀ (A : Around) (outer : List PySem.Env) (t : Shared) (G : Hp), Room k (A.deeper (LamX.lamEnv X scope t.heap.objs.size f c)) → PE (lamCxN X A outer t G E scope f c) body tb)
    (hN : Ng[0]? = some a) (hv : Vis sg a) (n1 : (a == ("__debug__" : Str)) = false) (n2 : (a == ("__classdict__" : Str)) = false) :
    PE ((gotCx X Ng qg sg g cdg s H).tr l xe) (.Call (.Name a p1) [] [] p2) (fun τ G Q => τ[0]? = some (some (.ref f)) ∧ G c = some (LamX.CodeO c (X.env.qual ++ "<lambda>")) ∧ tb σ G Q) := by
  constructor
  intro pz t τ G Q J ⟨e1, e2, k0⟩
  have pv := (pe_var (X := (gotCx X Ng qg sg g cdg s H).tr l xe) (pos := p1) (i := 0) hN hv n1 n2).run pz t τ G (fun v G1 => v = .ref f ∧ G1 = G) J ⟨.ref f, e1, rfl, rfl⟩
  refine wpAny_Call_Name_kw (thn pv fun u t1 r => ?_)
  obtain ⟨v, G1, J1, rv, ev, eG⟩ := r
  subst ev eG
  obtain rfl : u = Value.ref f := rv
  have ff := J1.base.keep f _ hf nf ns (fun z => nomatch (show f ∈ ([] : List Addr) from z))
  refine PySem.W.callWith_F0 ⟨_, _, _, _, ff⟩ ?_
  obtain ⟨⟨oc, fv, tk2, o1, o2, o3⟩, _, _⟩ := J1.hok c _ e2
  have run : codeAny (model X.prog X.w) (X.A.deeper (envOfC qg sg s.heap.objs.size g cdg)) (.call (.ref f) ⟨[], []⟩)
      (CR (L2N.CX X.prog X.w) (envOfC qg sg s.heap.objs.size g cdg :: X.stack) X.prog X.w G1 t1 Q E) t1 := by
    refine PySem.W.kla_callFunE rm.depth ff rfl L.co L.gen rfl ⟨c, oc, fv, tk2, rfl, o1, o2, o3⟩ ?_
    rw [bind0]
    refine wpAny_pure (wpAny_newFunctionEnv (fun y hy => (L.own y hy).2) (fun y hy => by cases hy) (fun h2 sp2 be2 => ⟨J1.nolimit.fresh _ be2, ?_⟩) L.kind)
    show codeAny _ _ (.expr body (LamX.lamEnv X scope t1.heap.objs.size f c)) _ _
    have J0 : Inv (LamX.lamCx X (X.A.deeper (envOfC qg sg s.heap.objs.size g cdg)) (envOfC qg sg s.heap.objs.size g cdg :: X.stack) t1 G1 E scope f c) [] σ G1 { t1 with heap := h2, toks := t1.toks + ([] : List (Str × Value)).length } :=
      LamX.lam_start2 I L J1.env0 rm.hd J1.base sp2 fun q o e => be2.extBut q o (Nat.ne_of_lt (Heap.lt_size e)) (Heap.get?_push_of_some _ e)
    have J2 := J0.toTry (lamCxN X (X.A.deeper (envOfC qg sg s.heap.objs.size g cdg)) (envOfC qg sg s.heap.objs.size g cdg :: X.stack) t1 G1 E scope f c).xe
    refine PySem.W.kla_codeExpr (wpAny_mono ((hb _ _ t1 G1 (rm.deeper _)).run [] _ _ G1 Q J2 k0) (fun u2 t2 r => ?_) fun _ _ r => r)
    obtain ⟨v2, G2, J3, rv2, q2⟩ := r
    exact ⟨v2, G2, J3.os, J3.bare, J3.base, J3.hok, rv2, q2⟩
  refine wpAny_call (codeAny_mono run fun res t2 r => ?_)
  match res, r with
  | .error u, r => exact L2N.passes_call tk hW pz τ G1 t1 u t2 J1 r
  | .ok (.ret u), r => exact J1.after r
  | .ok .next, r => exact False.elim r
  | .ok .brk, r => exact False.elim r
  | .ok .cont, r => exact False.elim r
/-- x(lambda: body), where what is let out has the context None -/
theorem pe_lamN {T : List (Addr × Str)} {TT : (XK → Hp → VK → Prop) → Hp → VK → Prop} {x a : Str} {g c P : Addr} {k : Nat} {pg : Arguments} {bg : List Stmt} {sg : Scope} {dV kV doc pm cdv ct oc : Value} {an od : Option Addr} {osl : Array (Option Value)} {Ng : List Str}
    {params : Arguments} {body : Expr} {scope : Scope} {tb : XK → TE} {p lpos pos : Pos} (gx : Gl X x) (mx : X.mg x = some (.ref g)) (kx : PySem.W.keepIn X.K (.ref g) = true)
    (lk : X.K.lookup g = some ⟨oc, od, .func (PySem.W.fnOf x x pg bg sg dV kV doc pm an cdv ct), osl⟩) (hcg : PySem.W.codeIn X.K cdv x = true) (bd : L2.Binds X.K (PySem.W.fnOf x x pg bg sg dV kV doc pm an cdv ct) [a] [])
    (Sg : FnScope Ng [a] sg) (hN : Ng[0]? = some a) (hv : Vis sg a) (hG : GivesN X Ng x sg g cdv bg a (X.env.qual ++ "<lambda>") TT) (TB : LamX.TabB X.base X.mg c P) (hc : X.env.code = .ref c)
    (hT : (P, X.env.qual ++ "<lambda>") ∈ T) (one : ∀ p ∈ T, p.1 = P → p.2 = X.env.qual ++ "<lambda>") (rm : Room (k + 2) X.A) (L : LamX.LamS X.env.scope scope) (d0 : defaultsOf params X.env = ([], []))
    (bind0 : ∀ (q : Str) (cl : List (Str × Addr)) (pm cv ctv : Value), bindArgs (PySem.W.kla_fn "<lambda>" q params body scope cl pm cv ctv) ⟨[], []⟩ = pure [])
    (hb : ∀ (A : Around) (outer : List PySem.Env) (t : Shared) (G : Hp) (E : XK) (f c2 : Addr), Room k (A.deeper (LamX.lamEnv X scope t.heap.objs.size f c2)) → PE (lamCxN X A outer t G E scope f c2) body (tb E))
    (n0 : (x == ("__debug__" : Str)) = false) (n1 : (a == ("__debug__" : Str)) = false) (n2 : (a == ("__classdict__" : Str)) = false) :
    PE X (.Call (.Name x p) [.Lambda params body scope lpos] [] pos) (LamX.tLam T TT tb) := by
  constructor
  intro pz t τ G Q I ⟨tabs, w0⟩
  refine wpAny_Call_Name_kw (ld_glob I gx mx ?_ n0)
  refine PySem.W.callWith_K (h₀ := X.base) I.ok.mod.kin kx ?_ (by rfl) (by rfl)
  show wpAny _ _ (spliced ((false, eval (.Lambda params body scope lpos) X.env) :: backTo pos (starEach [] X.env))) _ _ t
  refine Calls.spliced_cons (LamX.lam_make2 I TB hc hT one tabs d0 (L.has I.ok) ?_)
  intro f c2 pm2 ctv G1 t1 J x1 tabs1 ff nf ns co
  refine Calls.spliced_nil ⟨J.kIn, ?_⟩
  have run : codeAny (model X.prog X.w) X.A (.call (.ref g) ⟨[.ref f], []⟩) (CR C8.CX0 X.stack X.prog X.w G1 t1 Q C8.E0) t1 := by
    refine LamX.run_ofS (N := Ng) (ps := [a]) (us := [.ref f]) (vs := [.ref f]) lk hcg Sg rm J.env0 (bd t1 [.ref f] J.kIn rfl) (.cons rfl .nil) rfl fun rm2 => ?_
    obtain ⟨t', h1, h2⟩ := hG f c2 t1 G1 Q (fun E G' Q' => tb E τ G' Q')
      (fun W l xe E p1 p2 tk hW => pe_actN J L ff nf ns (bind0 _ _ _ _ _) tk hW rm2 (fun A outer t G r3 => hb A outer t G E f c2 r3) hN hv n1 n2) rm2.units co (w0 G1 x1 tabs1)
    exact ⟨t', h1.nox, h2⟩
  refine wpAny_call (codeAny_mono run fun res t2 r => ?_)
  match res, r with
  | .error u, r => exact (show False from r).elim
  | .ok (.ret u), r => exact J.after r
  | .ok .next, r => exact False.elim r
  | .ok .brk, r => exact False.elim r
  | .ok .cont, r => exact False.elim r
end

/-- the frozen part, fit for a def -/
structure Pure (K : PySem.W.Frag) (Z H : Hp) : Prop where
  zh : Same Z H
  tb : LamX.Tabs (tabT K) H
  nt : ∀ a ps, Z a ≠ some (.tbl ps)
def Back (K : PySem.W.Frag) (mg : Str → Option Value) (Z H : Hp) (r : D) (Q : VK) : Prop := ∀ Z' H' v, After K Z H [] Z' H' → RepD K mg Z' v r → Q v H'
/-- what a def that tries its argument makes of it: tr e where the exception e comes, dn else -/
def TLam (K : PySem.W.Frag) (mg : Str → Option Value) (tr : Ex → Option D) (dn : D) : (XK → Hp → VK → Prop) → Hp → VK → Prop := fun tl H Q =>
  ∀ (E : XK) (Q' : VK), (∀ cls d H', (∃ Z' e r, Pure K Z' H' ∧ ExR K mg Z' cls d e ∧ tr e = some r ∧ Back K mg Z' H' r Q) → E cls d H') → (∀ v H', (∃ Z', Pure K Z' H' ∧ Back K mg Z' H' dn Q) → Q' v H') → tl E H Q'
def dLam (tr : Ex → Option D) (dn : D) (f : M A) : M A := fun ρ => match f ρ with
  | .ok _ ρ' => .ok (.v dn) ρ'
  | .exc e ρ' => if ρ'.length = ρ.length then (match tr e with
    | some r => .ok (.v r) ρ'
    | none => .bad) else .bad
  | .bad => .bad

section
variable {K : PySem.W.Frag} {mg : Str → Option Value} {b : Base} {Z Z' H H' : Hp} {σ σ' : St} {ρ ρ' : DEnv} {vs : List V} {as : List A}
theorem Sta.pure (S : Sta K mg b Z H σ ρ vs as) : Pure K Z H := ⟨S.zh, S.sd.tabs, S.sd.nt⟩
/-- behind something that writes nothing of ours -/
theorem Sta.after (S : Sta K mg b Z H σ ρ vs as) (a : After K Z H [] Z' H') : Sta K mg b Z' H' σ ρ vs as :=
  S.grow a.zz a.zh (fun q o e n => a.kh q o e (by simp) n) a.tb a.nt a.kz
theorem Sta.table (S : Sta K mg b Z H σ ρ vs as) (x : LamX.ExtN H H') (t : LamX.Tabs (tabT K) H') : Sta K mg b Z H' σ ρ vs as :=
  S.grow (Same.refl Z) (same_ext S.zh S.sd.nt x) x t S.sd.nt fun _ _ => rfl
/-- every slot pinned -/
def Base.all (b : Base) (σ : St) : Base := { b with pn := List.range σ.length ++ b.pn, σ0 := σ }
theorem Sta.all (S : Sta K mg b Z H σ ρ vs as) : Sta K mg (b.all σ) Z H σ ρ vs as :=
  ⟨S.zz, S.zh, S.kz, S.kh, S.kd, ⟨S.sd.tabs, S.sd.nt, fun p hp => ⟨List.mem_append_right _ (S.sd.kn p hp).1, (S.pin _ (S.sd.kn p hp).1).trans (S.sd.kn p hp).2⟩⟩, fun _ _ => rfl, fun i a h => List.mem_append_right _ (S.lw i a h), S.rep⟩
theorem Sta.unall (S : Sta K mg b Z H σ ρ vs as) {ws : List V} {l : List A} {Z' H' : Hp} {ρ' : DEnv} (T : Sta K mg (b.all σ) Z' H' σ ρ' ws l) : Sta K mg b Z' H' σ ρ' ws l :=
  ⟨T.zz, T.zh, T.kz, T.kh, T.kd, ⟨T.sd.tabs, T.sd.nt, S.sd.kn⟩, S.pin, S.lw, T.rep⟩
theorem Sta.same_slots (T : Sta K mg (b.all σ) Z' H' σ' ρ' vs as) (h : ρ'.length = σ.length) : σ' = σ := by
  have hl : σ'.length = σ.length := T.len.trans h
  refine List.ext_getElem? fun i => ?_
  by_cases hi : i < σ.length
  · exact T.pin i (List.mem_append_left _ (List.mem_range.mpr hi))
  · rw [List.getElem?_eq_none (by omega), List.getElem?_eq_none (by omega)]
end

/-- the def y makes lambdas: its code object and its table -/
def LamAt (K : PySem.W.Frag) (mg : Str → Option Value) (base : Heap) (cdv : Value) (y : Str) : Prop :=
  ∃ c P, cdv = .ref c ∧ LamX.TabB base mg c P ∧ (P, y ++ ".<locals>." ++ "<lambda>") ∈ tabT K ∧ ∀ p ∈ tabT K, p.1 = P → p.2 = y ++ ".<locals>." ++ "<lambda>"
/-- a def with one parameter that tries what it is given -/
structure TryD (P : Program) (w : World) (K : PySem.W.Frag) (mg : Str → Option Value) (base : Heap) (x : Str) (tr : Ex → Option D) (dn : D) : Prop where
  ex : ∃ (g : Addr) (oc : Value) (od : Option Addr) (osl : Array (Option Value)) (pg : Arguments) (bg : List Stmt) (sg : Scope) (dV kV doc pm : Value) (an : Option Addr) (cdv ct : Value) (Ng : List Str) (a : Str),
    mg x = some (.ref g) ∧ PySem.W.keepIn K (.ref g) = true ∧ K.lookup g = some ⟨oc, od, .func (PySem.W.fnOf x x pg bg sg dV kV doc pm an cdv ct), osl⟩ ∧ PySem.W.codeIn K cdv x = true ∧ Binds K (PySem.W.fnOf x x pg bg sg dV kV doc pm an cdv ct) [a] [] ∧
    FnScope Ng [a] sg ∧ Ng[0]? = some a ∧ Vis sg a ∧ ((a == ("__debug__" : Str)) = false ∧ (a == ("__classdict__" : Str)) = false) ∧
    ∀ (X : Cx) (q : Str), X.prog = P → X.w = w → X.K = K → X.mg = mg → X.base = base → GivesN X Ng x sg g cdv bg a q (TLam K mg tr dn)

section
variable {X : Cx} {C : SC} {f : M A} {tr : Ex → Option D} {dn : D} {x y : Str} {params : Arguments} {body : Expr} {scope : Scope} {p lpos pos : Pos} {k : Nat}
abbrev lamSC (C : SC) (E : XK) (σ : St) : SC := ⟨C.K, C.mg, fun cls d _ H => E cls d H, List.range σ.length ++ C.pn, C.kn⟩
theorem de_lam (t : TryD X.prog X.w X.K X.mg X.base x tr dn) (la : LamAt X.K X.mg X.base X.env.code y) (hq : X.env.qual = y ++ ".<locals>.") (hK : X.K = C.K) (hM : X.mg = C.mg) (hg : Gl X x) (hr : Room (k + 2) X.A) (L : LamX.LamS X.env.scope scope)
    (hbody : ∀ (A : Around) (outer : List PySem.Env) (s : Shared) (H : Hp) (E : XK) (c1 c2 : Addr) (C' : SC), C'.K = C.K → C'.mg = C.mg → Room k (A.deeper (LamX.lamEnv X scope s.heap.objs.size c1 c2)) → L2N.Takes (lamCxN X A outer s H E scope c1 c2) C'.W →
      PE (lamCxN X A outer s H E scope c1 c2) body (tE C' f))
    (hdef : defaultsOf params X.env = ([], []) := by rfl)
    (hbind : ∀ (q : Str) (cl : List (Str × Addr)) (pm cv ctv : Value), bindArgs (PySem.W.kla_fn "<lambda>" q params body scope cl pm cv ctv) ⟨[], []⟩ = pure [] := by intros; rfl) (hdb : (x == ("__debug__" : Str)) = false := by decide) :
    PE X (.Call (.Name x p) [.Lambda params body scope lpos] [] pos) (tE C (dLam tr dn f)) := by
  obtain ⟨g, oc, od, osl, pg, bg, sg, dV, kV, doc, pm, an, cdv, ct, Ng, a, m1, m2, m3, m4, m5, m6, m7, m8, m9, m10⟩ := t.ex
  obtain ⟨c, P, ec, TB, mT, uT⟩ := la
  rw [← hq] at mT uT
  refine PE.w (pe_lamN (tb := fun E σ H Q => tE (lamSC C E σ) f σ H Q) hg m1 m2 m3 m4 m5 m6 m7 m8 (m10 X _ rfl rfl rfl rfl rfl) TB ec mT uT hr L hdef hbind (fun A outer s H E c1 c2 hr2 => ?_) hdb m9.1 m9.2) fun σ H Q k => ?_
  · have tk : L2N.Takes (lamCxN X A outer s H E scope c1 c2) (fun cls d _ H' => E cls d H') := L2N.takes_of rfl rfl rfl rfl
    exact ⟨fun pins s' σ H' Q I h => (hbody A outer s H E c1 c2 (lamSC C E σ) rfl rfl hr2 tk).run pins s' σ H' Q I h⟩
  · obtain ⟨b, Z, ρ, vs, as, hb, hl, S, k⟩ := k
    rw [hK, hM]
    refine ⟨S.sd.tabs, fun H1 x1 t1 E Q' kE kQ => ?_⟩
    have S1 : Sta C.K C.mg b Z H1 σ ρ ([] ++ vs) ([] ++ as) := S.table x1 t1
    refine ⟨b.all σ, Z, ρ, vs, as, ⟨by show _ ++ _ = _ ++ _; rw [hb.pn], hb.kn⟩, rfl, S1.all, ?_⟩
    unfold dLam at k
    revert k
    cases f ρ with
    | bad => exact fun k => k.elim
    | ok u ρ' =>
      intro k Z2 H2 v T
      have T1 := Sta.unall S1 (Sta.pop (vs := vs) (as := as) T)
      exact kQ _ _ ⟨Z2, T1.pure, fun Z3 H3 v3 af r => k _ _ _ (Sta.push (T1.after af) r)⟩
    | exc e ρ' =>
      intro k
      dsimp only at k
      split at k
      · rename_i hlen
        revert k
        cases er : tr e with
        | none => exact fun k => k.elim
        | some r =>
          intro k Z2 H2 σ2 cls d T xr
          have hs : σ2 = σ := Sta.same_slots T (hlen.trans S.len.symm)
          subst hs
          have T1 := Sta.unall S1 T
          exact kE _ _ _ ⟨Z2, e, r, T1.pure, xr, er, fun Z3 H3 v3 af r3 => k _ _ _ (Sta.push (T1.after af) r3)⟩
      · exact k.elim
end
end DD

namespace DD
open PySem PySem.Spec L2
open PyProof.Rows hiding St
variable [LamN]
section
variable {K : PySem.W.Frag} {mg : Str → Option Value} {Z Z' H H' : Hp} {σ σ' τ : St} {ρ : DEnv}
theorem SRep.empty {P : Nat → Addr → Prop} : ∀ {σ : St} {n : Nat}, SRep K mg P Z H n σ (List.replicate σ.length none) []
  | [], _ => .nil
  | _ :: _, _ => .no SRep.empty
def Base.new (Z H : Hp) (pn : List Nat) (kn : List (Nat × V)) (σ : St) : Base := ⟨Z, H, fun _ _ => False, pn, σ, kn⟩
theorem Pure.start (h : Pure K Z H) {pn : List Nat} {kn : List (Nat × V)} (hk : ∀ p ∈ kn, p.1 ∈ pn ∧ σ[p.1]? = some (some p.2)) : Sta K mg (Base.new Z H pn kn σ) Z H σ (List.replicate σ.length none) [] [] :=
  ⟨Same.refl _, h.zh, fun _ _ => rfl, fun _ _ e _ _ => e, fun _ e => e, ⟨h.tb, h.nt, hk⟩, fun _ _ => rfl, fun _ _ z => z.elim, [], [], SRep.empty, .nil, fun _ => by simp, fun _ z => by simp at z, fun _ z => by cases z⟩
theorem Sta.done {pn : List Nat} {kn : List (Nat × V)} {v : V} {r : D} (S : Sta K mg (Base.new Z H pn kn τ) Z' H' σ ρ [v] [.v r]) : After K Z H [] Z' H' ∧ RepD K mg Z' v r :=
  ⟨⟨S.zz, S.zh, S.kz, fun a o e _ n => S.kh a o e (fun _ z => z) n, S.kd, S.sd.tabs, S.sd.nt⟩, S.top⟩
/-- a run from nothing -/
theorem Back.run {W : WX} {pn : List Nat} {kn : List (Nat × V)} {r : D} {Q : VK} {D : Ends} {F : M Flow} (h : Pure K Z H) (hk : ∀ p ∈ kn, p.1 ∈ pn ∧ σ[p.1]? = some (some p.2)) (B : Back K mg Z H r Q) (hD : D.rt = Q) {ρ' : DEnv} (e : F (List.replicate σ.length none) = .ok (.ret (.v r)) ρ') :
    tS ⟨K, mg, W, pn, kn⟩ F D σ H := by
  refine ⟨Base.new Z H pn kn σ, Z, _, [], [], ⟨rfl, rfl⟩, rfl, h.start hk, ?_⟩
  rw [e]
  intro Z2 H2 τ v S
  rw [hD]
  obtain ⟨a, r2⟩ := S.done
  exact B _ _ _ a r2
end
section
variable {P : Program} {w : World} {K : PySem.W.Frag} {mg : Str → Option Value} {base : Heap}
abbrev tryCx (P : Program) (w : World) (K : PySem.W.Frag) (mg : Str → Option Value) (base : Heap) (x : Str) (st : Stmt) (Ns : List Str) (g : Addr) (cdv : Value) (A : Around) (outer : List PySem.Env) (s : Shared) (H : Hp) : Cx :=
  (cxOf C8.CX0 P w K mg base Ns x (defScope st) g cdv A outer s H C8.E0).nox
theorem tryD_def {x a : Str} {st : Stmt} {Ns : List Str} {h1 : ExceptHandler} {hds : List ExceptHandler} {rest : List Stmt} {p1 p2 p3 p4 : Pos} {wh : Wish} {bR : M Flow} {tr : Ex → Option D} {dn : D} (d : Def0 K mg x st [a]) (S : FnScope Ns [a] (defScope st)) (hN : Ns[0]? = some a) (nd : Ns.Nodup) (hva : Vis (defScope st) a)
    (hb : defBody st = .Try [.Expr (.Call (.Name a p1) [] [] p2) p3] (h1 :: hds) [] [] p4 :: rest)
    (hh : ∀ (g : Addr) (cdv : Value) (A : Around) (outer : List PySem.Env) (s : Shared) (H : Hp), (tryCx P w K mg base x st Ns g cdv A outer s H).A.units + 64 < cLine → Hds (tryCx P w K mg base x st Ns g cdv A outer s H) (h1 :: hds) wh)
    (hw : ∀ (D : Ends) (cls : Value) (dx : Option Addr) (τ : St) (G Z : Hp) (e : Ex) (r : DD.D), Pure K Z G → ExR K mg Z cls dx e → tr e = some r → Back K mg Z G r D.rt → wh D cls dx τ G)
    (hr : ∀ (g : Addr) (cdv : Value) (A : Around) (outer : List PySem.Env) (s : Shared) (H : Hp), PSs (tryCx P w K mg base x st Ns g cdv A outer s H) rest (tS ⟨K, mg, fun _ _ _ _ => False, [], []⟩ bR))
    (hR : ∀ n, ∃ ρ', bR (List.replicate n none) = .ok (.ret (.v dn)) ρ')
    (ha : (a == ("__debug__" : Str)) = false := by decide) (ha2 : (a == ("__classdict__" : Str)) = false := by decide) : TryD P w K mg base x tr dn := by
  obtain ⟨g, fd, df⟩ := d
  have m := df.m
  have kp := df.fn.kp
  have bd := df.b
  obtain ⟨oc, od, kV, doc, pm, an, cdv, ct, osl, rfl, lk, hcd⟩ := df.fn.ex
  refine ⟨g, oc, od, osl, defArgs st, defBody st, defScope st, .none, kV, doc, pm, an, cdv, ct, Ns, a, m, kp, lk, hcd, .all bd, S, hN, hva, ⟨ha, ha2⟩, fun X q e1 e2 e3 e4 e5 => ?_⟩
  subst e1 e2 e3 e4 e5
  intro f c' s H Q tl act hu hc h
  have hl : Ns.length ≠ 0 := fun z => by
    have := (List.getElem?_eq_some_iff.mp hN).1
    omega
  have h0 : (L2.start Ns [V.ref f])[0]? = some (some (V.ref f)) := by
    unfold L2.start
    rfl
  rw [hb]
  refine ⟨_, pss_cons (ps_tryH (X := tryCx X.prog X.w X.K X.mg X.base x st Ns g cdv X.A X.stack s H) rfl rfl nd (hh g cdv X.A X.stack s H hu)
    (tb := fun W D σ G => ∃ E : XK, (∀ cls d σ' H', E cls d H' → W cls d σ' H') ∧ σ[0]? = some (some (.ref f)) ∧ G c' = some (LamX.CodeO c' q) ∧ tl E G fun _ G' => D.nx σ G') fun W l xe tk _ => ?_) (hr g cdv X.A X.stack s H), ?_⟩
  · refine ⟨fun pins s' σ H' D I ⟨E, hW, k1, k2, k3⟩ => ?_⟩
    exact (pss_one (ps_expr (pos := p3) (act W l xe E p1 p2 tk hW))).run pins s' σ H' D I ⟨k1, k2, k3⟩
  · refine ⟨fun cls d H' => ∃ Z' e r, Pure X.K Z' H' ∧ ExR X.K X.mg Z' cls d e ∧ tr e = some r ∧ Back X.K X.mg Z' H' r Q, fun cls d σ' H' ⟨Z', e, r, h1, h2, h3, h4⟩ => hw _ _ _ _ _ _ _ _ h1 h2 h3 h4, h0, hc, ?_⟩
    refine h _ _ (fun _ _ _ z => z) fun v H' ⟨Z', h1, h2⟩ => ?_
    obtain ⟨ρ', e⟩ := hR (L2.start Ns [V.ref f]).length
    exact Back.run h1 (fun _ z => by cases z) h2 rfl e
end
end DD

set_option maxHeartbeats 2000000
namespace HZ
open PySem PySem.Spec PyProof.Rows HotX
section
variable {prog : Program} {w : World} {A : Around} {E : Value → Shared → Prop} {s : Shared}
/-- kept, but for one -/
abbrev But (a : Addr) (g g' : Heap) : Prop := ∀ b o, b ≠ a → g.get? b = some o → g'.get? b = some o
theorem hot_upd {x1 it : Addr} {f : Obj → Obj} {g : Heap} (hot : HotAt A x1 g) (ne : x1 ≠ it) : HotAt A x1 (g.update it f) := by
  obtain ⟨hh, o1, v1, e1, d1, c1⟩ := hot
  exact ⟨hh, o1, v1, (Heap.get?_update_other _ _ (Ne.symm ne)).trans e1, d1, c1⟩
theorem hot_push {x1 : Addr} {o : Obj} {g : Heap} (hot : HotAt A x1 g) : HotAt A x1 (g.push o) := by
  obtain ⟨hh, o1, v1, e1, d1, c1⟩ := hot
  exact ⟨hh, o1, v1, Heap.get?_push_of_some _ e1, d1, c1⟩
theorem hot_keep {x1 : Addr} {g g' : Heap} (hot : HotAt A x1 g) (k : ∀ o, g.get? x1 = some o → g'.get? x1 = some o) : HotAt A x1 g' := by
  obtain ⟨hh, o1, v1, e1, d1, c1⟩ := hot
  exact ⟨hh, o1, v1, k _ e1, d1, c1⟩
theorem but_made {it : Addr} {g : Heap} {f f2 : Obj → Obj} {o1 o2 : Obj} : But it g (((((g.update it f).push o1).push o2)).update ((g.update it f).push o1).objs.size f2) := fun b o hb e => by
  have q : (g.update it f).get? b = some o := (Heap.get?_update_other _ _ (Ne.symm hb)).trans e
  have z := Heap.lt_size (Heap.get?_push_of_some o1 q)
  rw [Heap.get?_update_other _ _ (Nat.ne_of_gt z)]
  exact Heap.get?_push_of_some _ (Heap.get?_push_of_some _ q)
theorem list_end {it l x1 : Addr} {i : Nat} {items : Array Value} {Q : Option Value → Shared → Prop} (hot : HotAt A x1 s.heap) (ne : x1 ≠ it) (hi : s.heap.IsListIter it l i) (hl : s.heap.IsList l items) (none_ : items[i]? = none)
    (k : ∀ g, But it s.heap g → Q none { s with heap := g }) : wpAny (model prog w) A (pyNext (.ref it)) Q E s := by
  obtain ⟨oi, e1, _, d1⟩ := id hi
  obtain ⟨ol, e2, _, n, d2⟩ := hl
  unfold pyNext
  refine wpAny_bind (wpAny_attempt (wpAny_callSpecial?_slot (name := Str.ofString "__next__") hi.typeIs slot_listiter_next (wpAny_call_entry slot_listiter_next hi.typeIs entry_listiter_next ?_ (args_listiter_next _))))
  show wpAny _ _ (field (.ref it) 0 >>= _) _ _ s
  refine wpAny_bind (wpAny_field e1 d1 (x := .ref l) rfl ?_)
  show wpAny _ _ (if (Value.ref l == Value.none) = true then _ else _) _ _ s
  have nn : ¬ ((Value.ref l == Value.none) = true) := fun z => Bool.false_ne_true z
  rw [if_neg nn]
  show wpAny _ _ (field (.ref it) 1 >>= _) _ _ s
  refine wpAny_bind (wpAny_field e1 d1 (x := .int i 0) rfl ?_)
  show wpAny _ _ (seqItems? (.ref l) >>= _) _ _ s
  refine wpAny_bind (wpAny_seqItems e2 d2 ?_)
  simp only [Int.toNat_natCast, none_]
  refine wpAny_bind (wpAny_rule (wpAny_bind (wpAny_setField e1 d1 (by simp) ?_)))
  show wpAny _ _ (newExc (.type "StopIteration") [] >>= _) _ _ _
  refine wpAny_bind ?_
  simp only [newExc, newTuple]
  refine wpAny_bind (wpAny_newObj_type ?_ (by size_fits))
  refine wpAny_bind (m := firstArgMember _ _) (wpAny_of_eq (a := Value.none) (by first | rfl | (simp only [firstArgMember]; rfl)) ?_)
  refine wpAny_newObj_type ?_ (by size_fits)
  have h2 := hot_push (o := { cls := Value.type "tuple", data := .seq ([] : List Value).toArray }) (hot_upd (f := Obj.mapFields (·.setIfInBounds 0 Value.none)) hot ne)
  have lt : x1 < ((s.heap.update it (Obj.mapFields (·.setIfInBounds 0 Value.none))).push { cls := Value.type "tuple", data := .seq ([] : List Value).toArray }).objs.size := by
    obtain ⟨_, o1, _, q, _⟩ := h2
    exact Heap.lt_size q
  refine raiseNew_hot (hot_push h2) (Nat.ne_of_lt lt) (Heap.get?_push_size _ rfl) rfl (by first | (simp; done) | (simp; omega) | (simp only [Array.size_append]; simp; omega)) ?_
  refine wpAny_bind (wpAny_isInstance (T := "StopIteration") (b := true) ⟨_, Heap.get?_update_self _ (Heap.get?_push_size _ rfl) rfl, rfl⟩ isSubtype_stop ?_)
  exact wpAny_pure (k _ but_made)
theorem tup_end {it l x1 : Addr} {i : Nat} {items : Array Value} {Q : Option Value → Shared → Prop} (hot : HotAt A x1 s.heap) (ne : x1 ≠ it) (hi : IsTupIter s.heap it l i) (hl : IsTup s.heap l items) (none_ : items[i]? = none)
    (k : ∀ g, But it s.heap g → Q none { s with heap := g }) : wpAny (model prog w) A (pyNext (.ref it)) Q E s := by
  obtain ⟨oi, e1, _, d1⟩ := id hi
  obtain ⟨ol, e2, _, n, d2⟩ := hl
  unfold pyNext
  refine wpAny_bind (wpAny_attempt (wpAny_callSpecial?_slot (name := Str.ofString "__next__") hi.typeIs slot_tupleiter_next (wpAny_call_entry slot_tupleiter_next hi.typeIs entry_tupleiter_next ?_ (args_tupleiter_next _))))
  show wpAny _ _ (field (.ref it) 0 >>= _) _ _ s
  refine wpAny_bind (wpAny_field e1 d1 (x := .ref l) rfl ?_)
  show wpAny _ _ (if (Value.ref l == Value.none) = true then _ else _) _ _ s
  have nn : ¬ ((Value.ref l == Value.none) = true) := fun z => Bool.false_ne_true z
  rw [if_neg nn]
  show wpAny _ _ (field (.ref it) 1 >>= _) _ _ s
  refine wpAny_bind (wpAny_field e1 d1 (x := .int i 0) rfl ?_)
  show wpAny _ _ (seqItems? (.ref l) >>= _) _ _ s
  refine wpAny_bind (wpAny_seqItems e2 d2 ?_)
  simp only [Int.toNat_natCast, none_]
  refine wpAny_bind (wpAny_rule (wpAny_bind (wpAny_setField e1 d1 (by simp) ?_)))
  show wpAny _ _ (newExc (.type "StopIteration") [] >>= _) _ _ _
  refine wpAny_bind ?_
  simp only [newExc, newTuple]
  refine wpAny_bind (wpAny_newObj_type ?_ (by size_fits))
  refine wpAny_bind (m := firstArgMember _ _) (wpAny_of_eq (a := Value.none) (by first | rfl | (simp only [firstArgMember]; rfl)) ?_)
  refine wpAny_newObj_type ?_ (by size_fits)
  have h2 := hot_push (o := { cls := Value.type "tuple", data := .seq ([] : List Value).toArray }) (hot_upd (f := Obj.mapFields (·.setIfInBounds 0 Value.none)) hot ne)
  have lt : x1 < ((s.heap.update it (Obj.mapFields (·.setIfInBounds 0 Value.none))).push { cls := Value.type "tuple", data := .seq ([] : List Value).toArray }).objs.size := by
    obtain ⟨_, o1, _, q, _⟩ := h2
    exact Heap.lt_size q
  refine raiseNew_hot (hot_push h2) (Nat.ne_of_lt lt) (Heap.get?_push_size _ rfl) rfl (by first | (simp; done) | (simp; omega) | (simp only [Array.size_append]; simp; omega)) ?_
  refine wpAny_bind (wpAny_isInstance (T := "StopIteration") (b := true) ⟨_, Heap.get?_update_self _ (Heap.get?_push_size _ rfl) rfl, rfl⟩ isSubtype_stop ?_)
  exact wpAny_pure (k _ but_made)
/-- a tuple taken apart -/
theorem apart {t x1 : Addr} {items : Array Value} {Q : List Value → Shared → Prop} (hot : HotAt A x1 s.heap) (ht : IsTup s.heap t items) (k : ∀ g, But s.heap.objs.size s.heap g → Q items.toList { s with heap := g }) :
    wpAny (model prog w) A (unpackItems (.ref t) items.size none) Q E s := by
  have l1 : t ≠ s.heap.objs.size := by
    obtain ⟨o, e, _⟩ := ht
    exact Nat.ne_of_lt (Heap.lt_size e)
  have l2 : x1 ≠ s.heap.objs.size := by
    obtain ⟨_, o, _, e, _⟩ := hot
    exact Nat.ne_of_lt (Heap.lt_size e)
  unfold unpackItems
  refine wpAny_bind ?_
  unfold notIterableAtAll
  refine wpAny_bind (wpAny_specialOf ht.typeIs slot_tuple_iter.lookup (wpAny_pure ?_))
  simp only [Bool.false_eq_true, if_false]
  refine wpAny_bind (wpAny_holding (iter_tuple ht (wpAny_bind (wpAny_holding (draw_tuple l1 items.size 0 _ _ ⟨_, Heap.get?_push_size _ rfl, rfl, rfl⟩ (ht.push _) (by omega) fun g1 it1 same1 => ?_)))))
  have all : List.take items.size (List.drop 0 items.toList) = items.toList := by rw [List.drop_zero, List.take_of_length_le (by simp)]
  rw [all, if_neg (by simp)]
  have k1 : But s.heap.objs.size s.heap g1 := fun b o hb e => same1.extBut b o hb (Heap.get?_push_of_some _ e)
  refine wpAny_bind (wpAny_holding (tup_end (hot_keep hot fun o e => k1 x1 o l2 e) l2 it1 ((ht.push _).extBut same1.extBut l1) (by simp) fun g2 k2 => ?_))
  simp only [Option.isSome_none, Bool.false_eq_true, if_false]
  exact wpAny_pure (k g2 fun b o hb e => k2 b o hb (k1 b o hb e))
theorem assign_tup {env : PySem.Env} {elts : List Expr} {n1} {pos : Pos} {t x1 : Addr} {items : Array Value} {Q : Unit → Shared → Prop} (hot : HotAt A x1 s.heap) (ht : IsTup s.heap t items) (hn : (assignEach elts env).length = items.size)
    (hs : (assignEach elts env).findIdx? (·.1) = none) (k : ∀ g, But s.heap.objs.size s.heap g → wpAny (model prog w) A (assignInOrder ((assignEach elts env).map (·.2)) items.toList) Q E { s with heap := g }) :
    wpAny (model prog w) A (assign (.Tuple elts n1 pos) env (.ref t)) Q E s := by
  rw [assign_Tuple]
  refine wpAny_bind (wpAny_standAt ?_)
  unfold unpack
  rw [hn, hs]
  exact wpAny_bind (wpAny_holding (apart hot ht k))
end
end HZ

set_option maxHeartbeats 2000000
namespace HZ
open PySem PySem.Spec PyProof.Rows L2 HotX
/-- the exception x1 is handled in X, out of the reach of what turns -/
def HotI (X : Cx) (x1 : Addr) : Prop := ∀ (pins : List (Addr × Obj)) (τ : L2.St) (G : Hp) (t : Shared), Inv X pins τ G t → HotAt X.A x1 t.heap ∧ ∀ b, FpOk X pins G b → x1 ≠ b
theorem hot_suite {X : Cx} {a : Addr} {o : Obj} {vs : Array Value} {l : List (Addr × Obj)} {cls : Value} {d : Option Addr} (z : L2N.Zn cls d o) (hd : o.data = .fields vs) : HotI (X.suite a ((a, o) :: l)) a := fun pins τ G t I => by
  have q := I.pin (a, o) List.mem_cons_self
  exact ⟨⟨rfl, o, vs, q.1, hd, z.2.2 vs hd⟩, fun b f => f.2.2.2.2.2 (a, o) List.mem_cons_self⟩
theorem hot_blk {X : Cx} {a : Addr} {o : Obj} {vs : Array Value} {l pins : List (Addr × Obj)} {cls : Value} {d : Option Addr} {τ : L2.St} {G : Hp} {t : Shared} {scope : Scope} {env : PySem.Env} {fp : List Addr} (z : L2N.Zn cls d o) (hd : o.data = .fields vs)
    (I : Inv (X.suite a ((a, o) :: l)) pins τ G t) (hf : ∀ b ∈ fp, FpOk (X.suite a ((a, o) :: l)) pins G b) : HotI ((X.suite a ((a, o) :: l)).blk t G scope env fp) a := by
  intro pins2 τ2 G2 t2 J
  obtain ⟨p1, p2, p3, p4, _⟩ := I.pin (a, o) List.mem_cons_self
  have nfp : a ∉ fp := fun h => (hf a h).2.2.2.2.2 (a, o) List.mem_cons_self rfl
  have nst : a ∉ frs (X.suite a ((a, o) :: l)).stack := fun h => by
    rcases List.mem_cons.mp (I.stkSub a h) with e | e
    · exact p3 e
    · exact p4 e
  have e2 := J.base.keep a o p1 p2 nst nfp
  refine ⟨⟨rfl, o, vs, e2, hd, z.2.2 vs hd⟩, fun b f e => ?_⟩
  subst e
  rcases f.2.2.2.1 with h | h
  · exact nfp h
  · exact absurd (Nat.lt_of_lt_of_le (Heap.lt_size p1) h) (Nat.lt_irrefl _)

/-- the turns of an iterator, in contexts in which x1 is handled -/
structure TurnX (P : Program) (w : World) (K : PySem.W.Frag) (tg : Expr) (x1 : Addr) (J : It) (fp : List Addr) (it : Addr) (tn : Nat → Heap → Prop) : Prop where
  obj : ∀ i g, tn i g → ∀ b ∈ fp, ∃ o, g.get? b = some o ∧ ∀ v, o.data ≠ .cell v
  keep : ∀ i g g', tn i g → (∀ b ∈ fp, ∀ o, g.get? b = some o → g'.get? b = some o) → tn i g'
  item : ∀ (X : Cx), X.prog = P ∧ X.w = w ∧ X.K = K → HotI X x1 → ∀ (i : Nat) (pins : List (Addr × Obj)) (t : Shared) (τ : L2.St) (G : Hp) (E : Value → Shared → Prop), Inv X pins τ G t → (∀ b ∈ fp, FpOk X pins G b) → tn i t.heap → J.go i G →
    wpAny (model P w) X.A (pyNext (.ref it)) (fun r t1 => ∃ u, r = some u ∧
      wpAny (model P w) X.A (letOwnedTupleGo tg (.ref it) u) (fun _ t2 => ∃ x G', Inv X pins τ G' t2 ∧ RelV x u ∧ J.yld i G x G' ∧ tn (i + 1) t2.heap ∧ ∀ b ∈ fp, G' b = none) E t1) E t
  done : ∀ (X : Cx), X.prog = P ∧ X.w = w ∧ X.K = K → HotI X x1 → ∀ (i : Nat) (pins : List (Addr × Obj)) (t : Shared) (τ : L2.St) (G : Hp) (E : Value → Shared → Prop), Inv X pins τ G t → (∀ b ∈ fp, FpOk X pins G b) → tn i t.heap → J.stop i G →
    wpAny (model P w) X.A (pyNext (.ref it)) (fun r t1 => r = none ∧ Inv X pins τ G t1) E t
  self : ∀ (A : Around) (i : Nat) (t : Shared) (Q : Value → Shared → Prop) (E : Value → Shared → Prop), tn i t.heap → Q (.ref it) t → wpAny (model P w) A (pyIter (.ref it)) Q E t
theorem turnX_list {P : Program} {w : World} {K : PySem.W.Frag} {tg : Expr} {x1 : Addr} (a it : Addr) : TurnX P w K tg x1 (Itl K a) [it] it (fun i g => g.IsListIter it a i) where
  obj := (turn_list (P := P) (w := w) (K := K) (tg := tg) a it).obj
  keep := (turn_list (P := P) (w := w) (K := K) (tg := tg) a it).keep
  self := (turn_list (P := P) (w := w) (K := K) (tg := tg) a it).self
  item := by
    rintro X ⟨rfl, rfl, rfl⟩ _ i pins t τ G E I hf st ⟨xs, x, hq, hx⟩
    obtain ⟨its, rv, p, _⟩ := I.list hq
    obtain ⟨u, hu, ru⟩ := rv.get hx
    obtain ⟨f0, f1, f2, f3, f4, f5⟩ := hf it (by simp)
    refine wpAny_pyNext_list_item st p.isList (x := u) (by simpa using hu) fun g st2 same => ?_
    have J : Inv X pins τ G { t with heap := g } := I.turned (t' := t.toks) (fun b o hb e => (same.2 b hb).trans e) f0 f1 f3 f4 f5
    obtain ⟨o, e, c, d⟩ := id st2
    refine ⟨u, rfl, go_of (s := { t with heap := g }) e c d (by decide) ?_⟩
    exact ⟨x, G, J, ru, ⟨rfl, fun ys hy => by rw [I.list_inj hy hq]; exact hx⟩, st2, fun b hb => (hf b hb).1⟩
  done := by
    rintro X ⟨rfl, rfl, rfl⟩ hot i pins t τ G E I hf st ⟨xs, hq, hx⟩
    obtain ⟨its, rv, p, _⟩ := I.list hq
    have f := hf it (by simp)
    obtain ⟨f0, f1, f2, f3, f4, f5⟩ := id f
    obtain ⟨h1, h2⟩ := hot pins τ G t I
    have hl := rv.length
    exact list_end h1 (h2 it f) st p.isList (by simp; omega) fun g k => ⟨rfl, I.turned (t' := t.toks) (fun b o hb e => k b o hb e) f0 f1 f3 f4 f5⟩
/-- (a, b) = a tuple, there -/
theorem pg_tupX {X : Cx} {x1 : Addr} {es : List Expr} {k n : Nat} {pos : Pos} {ts : TGs} (hot : HotI X x1) (h : PGs X es ts) (hn : (assignEach es X.env).length = n) (hs : (assignEach es X.env).findIdx? (·.1) = none) : PG X (.Tuple es k pos) (gTup X.K n ts) := by
  constructor
  rintro pins t τ G v u Q I r ⟨a, xs, rfl, hq, hl, hw⟩
  cases r
  obtain ⟨its, rv, ht, _⟩ := I.tuple hq
  refine assign_tup (hot pins τ G t I).1 ht (by simp [hn, ← hl, rv.length]) hs fun g kk => ?_
  have J : Inv X pins τ G { t with heap := g } := I.kept (t' := t.toks) fun b o e => kk b o (Nat.ne_of_lt (Heap.lt_size e)) e
  exact h.run pins _ τ G xs _ Q J (by simpa using rv) hw

section
variable {X0 : Cx} {a1 : Addr} {o1 : Obj} {v1 : Array Value} {l1 : List (Addr × Obj)} {cls : Value} {dx : Option Addr}
/-- name = [elt for .. in a list if ..], in the suite that holds the exception a1 -/
theorem ps_lcX {i : Nat} {y : Str} {py : Pos} {elt tg l : Expr} {ifs : List Expr} {scope : Scope} {own : List (Str × Nat)} {pos spos : Pos} {tl : TE} {g : TG} {tt : TT} {te : TE} (z : L2N.Zn cls dx o1) (hd : o1.data = .fields v1)
    (hN : X0.N.Nodup) (hy : X0.N[i]? = some y) (hyl : X0.env.scope.names.lookup y = some .local)
    (sw : swapsWith (.ListComp elt [⟨tg, l, ifs, 0⟩] scope pos) (some (.Name y py)) spos.line X0.env = pure true) (hl : PE (X0.suite a1 ((a1, o1) :: l1)) l tl) (ok : BlkOk X0.N X0.env.scope scope own)
    (hg : ∀ (t : Shared) (G : Hp) (c : Addr) (cl : List (Str × Addr)) (fp : List Addr), HotI ((X0.suite a1 ((a1, o1) :: l1)).blk t G scope (compEnvC scope cl c X0.env) fp) a1 → PG ((X0.suite a1 ((a1, o1) :: l1)).blk t G scope (compEnvC scope cl c X0.env) fp) tg g)
    (ht : ∀ (t : Shared) (G : Hp) (c : Addr) (cl : List (Str × Addr)) (fp : List Addr), PTs ((X0.suite a1 ((a1, o1) :: l1)).blk t G scope (compEnvC scope cl c X0.env) fp) ifs tt)
    (he : ∀ (t : Shared) (G : Hp) (c : Addr) (cl : List (Str × Addr)) (fp : List Addr), PE ((X0.suite a1 ((a1, o1) :: l1)).blk t G scope (compEnvC scope cl c X0.env) fp) elt te)
    (hs : ∀ x, foldedSetIterable l X0.env x = pure x := by intro _; rfl) :
    PS (X0.suite a1 ((a1, o1) :: l1)) (.Assign [.Name y py] (.ListComp elt [⟨tg, l, ifs, 0⟩] scope pos) spos) (tAsg (tLc (iList X0.K tl) g tt te (own.map (·.2))) (gName i)) := by
  constructor
  intro pins t0 τ0 G0 D I h
  rw [exec_Assign_Name_used _ _ _ _ sw]
  refine wpAny_bind (wpAny_standAt (wpAny_bind ?_))
  show wpAny _ (X0.suite a1 ((a1, o1) :: l1)).A (do let _ ← comprehension (.ListComp elt [⟨tg, l, ifs, 0⟩] scope pos) scope X0.env (firstIterPos [⟨tg, l, ifs, 0⟩] pos) (newList []) false (eval l X0.env) (some (assign (.Name y py) X0.env))) _ _ t0
  have h : tLc (iList X0.K tl) g tt te (own.map (·.2)) τ0 G0 (fun x H1 => gName i x τ0 H1 D.nx) := h
  refine wpAny_bind (wpAny_mono (Q := fun _ t => SP (X0.suite a1 ((a1, o1) :: l1)) pins D .next t) ?_ (fun _ t r => wpAny_pure (wpAny_pure r)) fun _ _ r => r)
  -- the block's own names stand for something
  have free : ∀ y ∈ scope.names, y.2 = .free → ∃ c, X0.env.cells.lookup y.1 = some c := fun y hy e => (ok.free y hy e).elim (fun k => I.ok.has _ (.inl k)) fun k => I.ok.has _ (.inr k)
  -- the list, its iterator
  refine wpAny_comprehension_free (use := some (assign (.Name y py) X0.env)) rfl hs (closure_ok free) ok.kind (fun y hy e => by rw [ok.uniq y hy, e]) (thn (hl.run pins t0 τ0 G0 _ I h) fun lv t1 r1 => ?_)
  obtain ⟨lx, G1, I1, rl, la, elx, ⟨lxs, hlq⟩, q⟩ := r1
  subst elx
  obtain rfl : lv = Value.ref la := rl
  obtain ⟨its, rv, p, _⟩ := I1.list hlq
  refine wpAny_pyIter_list p.isList ?_
  obtain ⟨itA, hitA⟩ : ∃ itA, itA = t1.heap.objs.size := ⟨_, rfl⟩
  have I2 : Inv (X0.suite a1 ((a1, o1) :: l1)) pins τ0 G1 { t1 with heap := t1.heap.push { cls := .type "list_iterator", data := .fields #[.ref la, .int 0 0] } } := I1.kept (t' := t1.toks) fun b o e => Heap.get?_push_of_some _ e
  have st2 : ({ t1 with heap := t1.heap.push { cls := .type "list_iterator", data := .fields #[.ref la, .int 0 0] } } : Shared).heap.IsListIter itA la 0 := by
    rw [hitA]
    exact ⟨_, Heap.get?_push_size _ rfl, rfl, rfl⟩
  have f2 : ∀ b ∈ [itA], FpOk (X0.suite a1 ((a1, o1) :: l1)) pins G1 b := fun b hb => by
    obtain rfl : b = itA := by simpa using hb
    rw [hitA]
    exact I1.fpOk (Nat.le_refl _) (I1.hok.fresh (Nat.le_refl _))
  rw [← hitA]
  generalize ht2 : ({ t1 with heap := t1.heap.push { cls := .type "list_iterator", data := .fields #[.ref la, .int 0 0] } } : Shared) = t2 at I2 st2 ⊢
  have T := turnX_list (P := X0.prog) (w := X0.w) (K := X0.K) (tg := tg) (x1 := a1) la itA
  -- the new list
  refine wpAny_newObj_type (newEnv_comp ?_) (by show 0 ≤ sizeLine; decide)
  generalize hL : t2.heap.objs.size = L
  have nL : G1 L = none := I2.hok.fresh (Nat.le_of_eq hL)
  obtain ⟨W, ⟨m0, w0⟩, turn⟩ := q L nL
  generalize ht3 : ({ t2 with heap := t2.heap.push { cls := .type "list", data := .seq ([] : List Value).toArray } } : Shared) = t3
  have e3 : t3.heap = t2.heap.push { cls := .type "list", data := .seq ([] : List Value).toArray } := by rw [← ht3]
  have I3 : Inv (X0.suite a1 ((a1, o1) :: l1)) pins τ0 (upd G1 L (.lst [])) t3 := by
    rw [← ht3]
    refine I2.laid (t' := t2.toks) (fun b o e => Heap.get?_push_of_some _ e) (Nat.le_of_eq hL) ⟨Nat.zero_le _, [], 0, .nil, ?_⟩
    rw [← hL, Heap.get?_push_size _ rfl]
  have f3 : ∀ b ∈ [itA], FpOk (X0.suite a1 ((a1, o1) :: l1)) pins (upd G1 L (.lst [])) b ∧ b < t3.heap.objs.size := fun b hb => by
    obtain ⟨o, e, _⟩ := T.obj _ _ st2 b hb
    have lt := Heap.lt_size e
    have neq : b ≠ L := by rw [← hL]; exact Nat.ne_of_lt lt
    exact ⟨⟨by rw [upd_ne neq]; exact (f2 b hb).1, (f2 b hb).2⟩, by rw [e3, Heap.size_push]; exact Nat.lt_succ_of_lt lt⟩
  have st3 : t3.heap.IsListIter itA la 0 := T.keep 0 _ _ st2 fun b _ o e => by rw [e3]; exact Heap.get?_push_of_some _ e
  have I4 := block_start I3 ok hN f3
  show codeAny _ _ (.compStart (.ListComp elt [⟨tg, l, ifs, 0⟩] scope pos) 0 (.ref itA) (.ref L) (compEnvC scope (cellsFrom (t3.heap.objs.size + 1) scope.names (cloFrom X0.env.cells scope.names [])) t3.heap.objs.size X0.env))
    (compPost (model X0.prog X0.w) (X0.suite a1 ((a1, o1) :: l1)).A (fun _ _ => False) (some (assign (.Name y py) X0.env)) (fun _ t => SP (X0.suite a1 ((a1, o1) :: l1)) pins D .next t) (.ref L) t3.heap.objs.size)
    { t3 with heap := pushCells (t3.heap.push { cls := .type "dict", data := .dict #[] }) scope.names }
  have nf3 : ∀ b ∈ [itA], (upd G1 L (.lst [])) b = none := fun b hb => (f3 b hb).1.1
  generalize hce : compEnvC scope (cellsFrom (t3.heap.objs.size + 1) scope.names (cloFrom X0.env.cells scope.names [])) t3.heap.objs.size X0.env = ce at I4 ⊢
  have loc : ce.locals = t3.heap.objs.size := by subst hce; rfl
  generalize hG3 : upd G1 L (.lst []) = G3 at I3 I4 w0 nf3 f3
  have hotB : HotI ((X0.suite a1 ((a1, o1) :: l1)).blk t3 G3 scope ce [itA]) a1 := hot_blk z hd I3 fun b hb => (f3 b hb).1
  have pg : PG ((X0.suite a1 ((a1, o1) :: l1)).blk t3 G3 scope ce [itA]) tg g := by subst hce; exact hg _ _ _ _ _ hotB
  have pt : PTs ((X0.suite a1 ((a1, o1) :: l1)).blk t3 G3 scope ce [itA]) ifs tt := by subst hce; exact ht _ _ _ _ _
  have pe : PE ((X0.suite a1 ((a1, o1) :: l1)).blk t3 G3 scope ce [itA]) elt te := by subst hce; exact he _ _ _ _ _
  generalize ht4 : ({ t3 with heap := pushCells (t3.heap.push { cls := .type "dict", data := .dict #[] }) scope.names } : Shared) = t4 at I4 ⊢
  have st4 : t4.heap.IsListIter itA la 0 := T.keep 0 _ _ st3 fun b _ o e => by
    rw [← ht4]
    exact pushCells_keeps _ _ _ _ (Heap.get?_push_of_some _ e)
  have stay : ∀ {τ : L2.St} {G : Hp} {t : Shared}, Inv ((X0.suite a1 ((a1, o1) :: l1)).blk t3 G3 scope ce [itA]) [] τ G t → (∀ b ∈ [itA], G b = none) → ∀ b ∈ [itA], FpOk ((X0.suite a1 ((a1, o1) :: l1)).blk t3 G3 scope ce [itA]) [] G b := fun {τ G t} J n b hb =>
    ⟨n b hb, (J.ok.exf b hb).1, J.ok.exfs b hb, .inl hb, fun x c e => (J.ok.exf b hb).2 x c e, fun p hp => by
      have hp : p ∈ ([] : List (Addr × Obj)) ++ [] := hp
      simp at hp⟩
  have loop : codeAny (model X0.prog X0.w) (X0.suite a1 ((a1, o1) :: l1)).A (.compLoop (.ListComp elt [⟨tg, l, ifs, 0⟩] scope pos) 0 (.ref itA) (.ref L) ce)
      (compPost (model X0.prog X0.w) (X0.suite a1 ((a1, o1) :: l1)).A (fun _ _ => False) (some (assign (.Name y py) X0.env)) (fun _ t => SP (X0.suite a1 ((a1, o1) :: l1)) pins D .next t) (.ref L) t3.heap.objs.size) t4 := by
    refine compLoop_any (fun n t => ∃ k G, Inv ((X0.suite a1 ((a1, o1) :: l1)).blk t3 G3 scope ce [itA]) [] (wipe τ0 (own.map (·.2))) G t ∧ t.heap.IsListIter itA la k ∧ (∀ b ∈ [itA], G b = none) ∧ W k n G) ?_ m0 ⟨0, G3, I4, st4, nf3, w0⟩
    rintro n t5 ⟨k, G5, I5, st5, n5, w5⟩
    rcases turn k n G5 w5 with ⟨stop, fin⟩ | ⟨go, Nx, less, step⟩
    · -- the end: back in the suite's own context
      refine thnF (T.done ((X0.suite a1 ((a1, o1) :: l1)).blk t3 G3 scope ce [itA]) ⟨rfl, rfl, rfl⟩ hotB k [] t5 _ G5 (fun _ _ => False) I5 (stay I5 n5) st5 stop) fun r t6 ⟨er, I6⟩ => ?_
      subst er
      have I7 : Inv (X0.suite a1 ((a1, o1) :: l1)) pins τ0 G5 t6 := I3.call' (ch := [itA]) I6.os I6.base I6.hok I6.bare fun b hb => ⟨(f3 b hb).1.2.2.2.1, (f3 b hb).1.2.1, (f3 b hb).1.2.2.2.2.1, (f3 b hb).1.2.2.2.2.2⟩
      have nC : G5 t3.heap.objs.size = none := by
        have z0 : G5 ce.locals = none := I6.free
        rwa [loc] at z0
      obtain ⟨mm, ns6, _⟩ := I6.loc
      have ns6 : t6.heap.Ns ce.locals mm := ns6
      rw [loc] at ns6
      have fC : FpOk (X0.suite a1 ((a1, o1) :: l1)) pins G5 t3.heap.objs.size := I3.fpOk (Nat.le_refl _) nC
      show wpAny _ _ (assign (.Name y py) X0.env (.ref L)) _ _ _
      refine wpAny_assign_Name (store_ok2 (X := X0.suite a1 ((a1, o1) :: l1)) (v := V.ref L) I7 hN hy (.inl hyl) rfl (fun t7 I8 ⟨wh, same, hwh⟩ => ?_) (.inr hyl))
      obtain ⟨g0, g1, g2, g3, g4, g5⟩ := fC
      have apart_ : t3.heap.objs.size ≠ wh := by
        rcases hwh with e | e
        · rw [e]; exact g1
        · exact fun e' => g4 y wh e e'.symm
      exact ⟨mm, ns6.sameBut same apart_, fun h9 same9 => ⟨_, G5, I8.turned (t' := t7.toks) (fun b o hb e => (same9.2 b hb).trans e) g0 g1 g3 g4 g5, fin⟩⟩
    · refine thnF (T.item ((X0.suite a1 ((a1, o1) :: l1)).blk t3 G3 scope ce [itA]) ⟨rfl, rfl, rfl⟩ hotB k [] t5 _ G5 (fun _ _ => False) I5 (stay I5 n5) st5 go) fun r t6 ⟨u, er, h6⟩ => ?_
      subst er
      refine thnF h6 fun _ t7 ⟨x, G7, I7, r7, y7, st7, n7⟩ => ?_
      have I7p := I7.pinned (stay I7 n7) (T.obj _ _ st7)
      refine thnF (pg.run _ t7 _ G7 x u _ I7p r7 (step x G7 y7)) fun _ t8 ⟨τ8, G8, I8, wi, q8⟩ => ?_
      refine thnF (pt.run _ t8 τ8 G8 _ I8 q8) fun bb t9 ⟨G9, I9, q9⟩ => ?_
      have again : ∀ {t : Shared} {G : Hp}, Inv ((X0.suite a1 ((a1, o1) :: l1)).blk t3 G3 scope ce [itA]) ([] ++ pinsAt [itA] t7.heap) τ8 G t → Nx G →
          ∃ m, m < n ∧ ∃ k G, Inv ((X0.suite a1 ((a1, o1) :: l1)).blk t3 G3 scope ce [itA]) [] (wipe τ0 (own.map (·.2))) G t ∧ t.heap.IsListIter itA la k ∧ (∀ b ∈ [itA], G b = none) ∧ W k m G := fun {t G} J nx => by
        obtain ⟨m2, lt2, w2⟩ := less G nx
        have held : ∀ b ∈ [itA], ∀ o, t7.heap.get? b = some o → t.heap.get? b = some o ∧ G b = none := fun b hb o e =>
          let pp := J.pin (b, o) (List.mem_append_right _ (List.mem_append_right _ (mem_pinsAt hb e)))
          ⟨pp.1, pp.2.1⟩
        have len8 : (wipe τ0 (own.map (·.2))).length = τ8.length := by rw [← wi, wipe_length]
        refine ⟨m2, lt2, k + 1, G, (J.unpinned (pins := [])).weak len8 (fun j v e => ?_), T.keep _ _ _ st7 fun b hb o e => (held b hb o e).1, fun b hb => ?_, w2⟩
        · rw [← wi] at e
          exact (wipe_some e).1
        · obtain ⟨o, e, _⟩ := T.obj _ _ st7 b hb
          exact (held b hb o e).2
      cases bb with
      | false =>
        simp only [Bool.false_eq_true, if_false] at q9 ⊢
        exact again I9 q9
      | true =>
        simp only [if_true] at q9 ⊢
        refine thnF (pe.run _ t9 τ8 G9 _ I9 q9) fun zv t10 ⟨yv, G10, I10, r10, acc, hL10, hz10, nx⟩ => ?_
        exact app_ok (X := (X0.suite a1 ((a1, o1) :: l1)).blk t3 G3 scope ce [itA]) I10 hL10 hz10 r10 fun t11 I11 => again I11 nx
  exact codeAny_compStart_list loop (T.self (X0.suite a1 ((a1, o1) :: l1)).A 0 _ _ _ st4 loop)
end
end HZ

set_option maxHeartbeats 1000000
namespace DD
open PySem PySem.Spec L2
open PyProof.Rows hiding St
variable [LamN]

/-- the items of a list -/
def dItemsL (f : M A) : M (List D) := f.bind fun a => ofO (lstD a.frz)
section
variable {C : SC} {f : M A} {σ : L2.St} {H : Hp} {R : It → Hp → Prop}
theorem iL (k : tI C (dItemsL f) σ H R) : iList C.K (tE C f) σ H R := by
  refine (Go.bindE k).mono fun x H1 ⟨a, k1⟩ => ?_
  obtain ⟨ds, e1, b, Z, ρ, vs, as, hb, _, S, k2⟩ := go_ofO k1
  obtain ⟨Z', _, S'⟩ := Sta.freeze (vs := vs) (as := as) S
  have t := Sta.top S'
  generalize a.frz = d at e1 t S'
  cases t with
  | @lst q xs es h1 h2 =>
    cases e1
    exact ⟨q, rfl, ⟨xs, SqL.of (S'.zh _ _ h1)⟩, k2 _ _ [.ref q] [.v (.lst _)] _ rfl S' (isIt_list rfl)⟩
  | @fz q xs es h1 h2 =>
    cases e1
    exact ⟨q, rfl, ⟨xs, S'.zh.seq h1⟩, k2 _ _ [.ref q] [.v (.fz _)] _ rfl S' (isIt_list rfl)⟩
  | _ => cases e1
end
section
variable {X : Cx} {C : SC} {x1 : Addr} {es : List Expr} {gs : List D → M Unit} {sl : List Nat} {n k : Nat} {pos : Pos}
theorem dg_tupX (hot : HZ.HotI X x1) (hK : X.K = C.K) (h : PGs X es (tGs C sl gs)) (hn : (assignEach es X.env).length = n := by rfl) (hst : (assignEach es X.env).findIdx? (·.1) = none := by rfl) : PG X (.Tuple es k pos) (tG C sl (gTupD n gs)) := by
  refine PG.w (HZ.pg_tupX hot h hn hst) fun v σ H Q ⟨b, Z, ρ, vs, as, d, hb, S, q⟩ => ?_
  unfold gTupD at q
  split at q
  · split at q
    · rename_i hz
      have t := Sta.top S
      rw [hK]
      cases t with
      | @tup a xs ds h1 h2 => exact ⟨a, xs, rfl, sameT S.zh h1, by rw [h2.length]; exact hz, b, Z, ρ, vs, as, _, hb, h2.length, (Sta.pop S).pushes h2, q⟩
    · exact q.elim
  · exact q.elim
end
section
variable {X0 : Cx} {a1 : Addr} {o1 : Obj} {v1 : Array Value} {l1 : List (Addr × Obj)} {cls : Value} {dx : Option Addr} {C : SC}
theorem ds_lcX {i : Nat} {y : Str} {py : Pos} {elt tg l : Expr} {ifs : List Expr} {scope : Scope} {own : List (Str × Nat)} {pos spos : Pos} {fl : M A} {g : D → M Unit} {p : M Bool} {f : M A} (z : L2N.Zn cls dx o1) (hd : o1.data = .fields v1) (hK : X0.K = C.K) (o : Bool)
    (hni : i ∉ C.pn) (nd : (own.map (·.2)).Nodup) (np : ∀ i ∈ own.map (·.2), i ∉ C.pn) (hN : X0.N.Nodup) (hy : X0.N[i]? = some y) (hyl : X0.env.scope.names.lookup y = some .local)
    (sw : swapsWith (.ListComp elt [⟨tg, l, ifs, 0⟩] scope pos) (some (.Name y py)) spos.line X0.env = pure true) (hl : PE (X0.suite a1 ((a1, o1) :: l1)) l (tE C fl)) (ok : BlkOk X0.N X0.env.scope scope own)
    (hg : ∀ (t : Shared) (G : Hp) (c : Addr) (cl : List (Str × Addr)) (fp : List Addr), HZ.HotI ((X0.suite a1 ((a1, o1) :: l1)).blk t G scope (compEnvC scope cl c X0.env) fp) a1 →
      PG ((X0.suite a1 ((a1, o1) :: l1)).blk t G scope (compEnvC scope cl c X0.env) fp) tg (tG C.nox (own.map (·.2)) g))
    (ht : ∀ (t : Shared) (G : Hp) (c : Addr) (cl : List (Str × Addr)) (fp : List Addr), PTs ((X0.suite a1 ((a1, o1) :: l1)).blk t G scope (compEnvC scope cl c X0.env) fp) ifs (tT C.nox p))
    (he : ∀ (t : Shared) (G : Hp) (c : Addr) (cl : List (Str × Addr)) (fp : List Addr), PE ((X0.suite a1 ((a1, o1) :: l1)).blk t G scope (compEnvC scope cl c X0.env) fp) elt (tE C.nox f))
    (hs : ∀ x, foldedSetIterable l X0.env x = pure x := by intro _; rfl) :
    PS (X0.suite a1 ((a1, o1) :: l1)) (.Assign [.Name y py] (.ListComp elt [⟨tg, l, ifs, 0⟩] scope pos) spos) (tS C (dSet o i (dComp (own.map (·.2)) (dItemsL fl) g p f))) := by
  refine PS.w (HZ.ps_lcX z hd hN hy hyl sw hl ok hg ht he hs) fun D σ H k => ?_
  have T := go_comp (own := own) nd np ((Go.bindE k).mono fun y H1 ⟨u, k1⟩ => go_store hni k1)
  rw [hK]
  exact iL T
/-- what isinstance tells of an instance of the class at Dc and the name n -/
def IsT (K : PySem.W.Frag) (mg : Str → Option Value) (Dc : Addr) (n : Str) (b : Bool) : Prop :=
  (∃ Cn, mg n = some (.ref Cn) ∧ PySem.W.kitOne K (.ref Dc) (.ref Cn) = some b) ∨ (mg n = none ∧ n ≠ "__name__" ∧ ∃ T : String, bootBuiltins n = some (.type T) ∧ PySem.W.kitOne K (.ref Dc) (.type T) = some b)
theorem de_isE {Dc : Addr} {e n : Str} {i : Nat} {b : Bool} {p p1 p2 pos : Pos} (z : L2N.Zn (.ref Dc) none o1) (hd : o1.data = .fields v1) (he : ExcC X0.K Dc) (it : IsT X0.K X0.mg Dc n b) (hN : X0.N[i]? = some e) (hv : Vis X0.env.scope e) (kn : (i, V.ref a1) ∈ C.kn)
    (g0 : Gl X0 "isinstance") (m0 : X0.mg "isinstance" = none) (gn : Gl X0 n) (d1 : (e == ("__debug__" : Str)) = false := by decide) (d2 : (e == ("__classdict__" : Str)) = false := by decide) (d3 : (n == ("__debug__" : Str)) = false := by decide)
    (hv0 : bootBuiltins "isinstance" = some (.builtin "isinstance") := by decide +kernel) :
    PE (X0.suite a1 ((a1, o1) :: l1)) (.Call (.Name "isinstance" p) [.Name e p1, .Name n p2] [] pos) (tE C (dC (.bl b))) := by
  have slot : ∀ {σ : L2.St} {H : Hp} {Q : VK}, tE C (dC (.bl b)) σ H Q → σ[i]? = some (some (.ref a1)) ∧ Q (.bl b) H := fun {σ H Q} ⟨b0, Z, ρ, vs, as, hb, _, S, k⟩ => by
    obtain ⟨q1, q2⟩ := S.sd.kn (i, V.ref a1) (by rw [hb.kn]; exact kn)
    exact ⟨(S.pin i q1).trans q2, k _ _ _ (S.push (.bl b))⟩
  have call := call_isE (X := X0) (a := a1) (pn := l1) he (z.zc) ⟨v1, hd⟩
  rcases it with ⟨Cn, m, kt⟩ | ⟨m, nn, T, bt, kt⟩
  · refine PE.w (pe_callB (X := X0.suite a1 ((a1, o1) :: l1)) call g0 m0 hv0 (pa_cons (pe_var hN hv d1 d2) (pa_cons (pe_glob (X := X0.suite a1 ((a1, o1) :: l1)) (v := .ref Cn) gn m rfl d3) pa_nil))) fun σ H Q k => ?_
    obtain ⟨s, q⟩ := slot k
    exact ⟨_, s, .ref Cn, .ref Cn, b, rfl, fun u r => r, kt, q⟩
  · refine PE.w (pe_callB (X := X0.suite a1 ((a1, o1) :: l1)) call g0 m0 hv0 (pa_cons (pe_var hN hv d1 d2) (pa_cons (pe_bltn (X := X0.suite a1 ((a1, o1) :: l1)) (v := .ty T) gn m bt rfl nn d3) pa_nil))) fun σ H Q k => ?_
    obtain ⟨s, q⟩ := slot k
    exact ⟨_, s, .ty T, .type T, b, rfl, fun u r => r, kt, q⟩
end

/-- the suite of a clause with a name: the exception is of one of the classes CS, without fields -/
def tsH (K : PySem.W.Frag) (mg : Str → Option Value) (i : Nat) (CS : List Str) (bh : Str → M Flow) : SuiteT := fun a cls d D τ G =>
  ∃ c Dc, c ∈ CS ∧ cls = .ref Dc ∧ mg c = some (.ref Dc) ∧ d = none ∧ tS ⟨K, mg, fun _ _ _ _ => False, [i], [(i, .ref a)]⟩ (bh c) D τ G
theorem suiteH {X : Cx} {i : Nat} {CS : List Str} {bh : Str → M Flow} {sts : List Stmt}
    (h : ∀ c ∈ CS, ∀ (Dc : Addr), X.mg c = some (.ref Dc) → ∀ (a : Addr) (o : Obj) (l : List (Addr × Obj)) (vs : Array Value), L2N.Zn (.ref Dc) none o → o.data = .fields vs →
      PSs (X.suite a ((a, o) :: l)) sts (tS ⟨X.K, X.mg, fun _ _ _ _ => False, [i], [(i, .ref a)]⟩ (bh c))) :
    ∀ (a : Addr) (o : Obj) (cls : Value) (d : Option Addr) (l : List (Addr × Obj)), L2N.Zn cls d o → (∃ vs, o.data = .fields vs) → PSs (X.suite a ((a, o) :: l)) sts (tsH X.K X.mg i CS bh a cls d) :=
  fun a o cls d l z ⟨vs, hd⟩ => ⟨fun pins s σ H D I ⟨c, Dc, hc, e1, e2, e3, k⟩ => by
    subst e1 e3
    exact (h c hc Dc e2 a o l vs z hd).run pins s σ H D I k⟩
/-- the suite of a clause without a name, as a run on data -/
def tsO (K : PySem.W.Frag) (mg : Str → Option Value) (b : M Flow) : SuiteT := fun _ _ _ D τ G => tS ⟨K, mg, fun _ _ _ _ => False, [], []⟩ b D τ G
theorem suiteO {X : Cx} {b : M Flow} {sts : List Stmt} (h : ∀ (a : Addr) (l : List (Addr × Obj)), PSs (X.suite a l) sts (tS ⟨X.K, X.mg, fun _ _ _ _ => False, [], []⟩ b)) :
    ∀ (a : Addr) (o : Obj) (cls : Value) (d : Option Addr) (l : List (Addr × Obj)), L2N.Zn cls d o → (∃ vs, o.data = .fields vs) → PSs (X.suite a ((a, o) :: l)) sts (tsO X.K X.mg b a cls d) :=
  fun a o _ _ l _ _ => h a _
/-- a class of exceptions, as the clauses see it -/
structure ClsF (K : PySem.W.Frag) (mg : Str → Option Value) (c : Str) (Dc : Addr) : Prop where
  m : mg c = some (.ref Dc)
  e : ExcC K Dc
end DD

set_option maxHeartbeats 2000000
namespace DD
open PySem PySem.Spec L2
open PyProof.Rows hiding St
variable [LamN]
def csT (K : PySem.W.Frag) : List (Addr × Addr) := LamN.names.filterMap fun x => PySem.W.tabIn K x
theorem csT_mem {K : PySem.W.Frag} {x : Str} {c P : Addr} (h : x ∈ LamN.names) (e : PySem.W.tabIn K x = some (c, P)) : (c, P) ∈ csT K := List.mem_filterMap.mpr ⟨x, h, e⟩
theorem tabT_mem {K : PySem.W.Frag} {x : Str} {c P : Addr} (h : x ∈ LamN.names) (e : PySem.W.tabIn K x = some (c, P)) : (P, x ++ ".<locals>." ++ "<lambda>") ∈ tabT K := List.mem_filterMap.mpr ⟨x, h, by rw [e]; rfl⟩
theorem tabs_start {K : PySem.W.Frag} {H : Hp} (h : ∀ p ∈ csT K, H p.2 = some (.tbl #[])) : LamX.Tabs (tabT K) H := fun p hp => by
  obtain ⟨x, hx, e⟩ := List.mem_filterMap.mp hp
  cases t : PySem.W.tabIn K x with
  | none => rw [t] at e; cases e
  | some q =>
    rw [t] at e
    cases e
    exact LamX.TabS.nil (h q (List.mem_filterMap.mpr ⟨x, hx, t⟩))
/-- what stands of a def that makes lambdas -/
structure LamF (K : PySem.W.Frag) (mg : Str → Option Value) (y : Str) : Prop where
  ex : ∃ (f c P : Addr) (oc : Value) (od : Option Addr) (fd : FuncData) (osl : Array (Option Value)), mg y = some (.ref f) ∧ K.lookup f = some ⟨oc, od, .func fd, osl⟩ ∧ fd.code = .ref c ∧ PySem.W.tabIn K y = some (c, P) ∧ K.lookup P = none ∧
    ∀ p ∈ tabT K, p.1 = P → p.2 = y ++ ".<locals>." ++ "<lambda>"
theorem lam_ex {K : PySem.W.Frag} {h : Heap} {mg : Str → Option Value} {y : Str} {c P : Addr} (X : K.In h) (G : h.Ns mainGlobals mg) (t : PySem.W.tabIn K y = some (c, P)) (nP : K.lookup P = none) (u : ∀ p ∈ tabT K, p.1 = P → p.2 = y ++ ".<locals>." ++ "<lambda>") : LamF K mg y := by
  have t0 := t
  unfold PySem.W.tabIn at t
  split at t
  · rename_i f hf
    have m := PySem.W.mg_of X G hf
    split at t
    · rename_i oc od fd osl lk
      split at t
      · rename_i c2 hc
        split at t
        · split at t
          · cases t
            exact ⟨f, _, _, oc, od, fd, osl, m, lk, hc, t0, nP, u⟩
          · cases t
        · cases t
      · cases t
    · cases t
  · cases t
structure LamH (K : PySem.W.Frag) (mg : Str → Option Value) (base : Heap) (y : Str) : Prop where
  f : LamF K mg y
  n : y ∈ LamN.names
  b : ∀ p ∈ csT K, LamX.TabB base mg p.1 p.2
section
variable {P : Program} {w : World} {K : PySem.W.Frag} {mg : Str → Option Value} {base : Heap}
theorem LamH.at {y : Str} {f : Addr} {oc : Value} {od an : Option Addr} {x q : Str} {params : Arguments} {body : List Stmt} {scope : Scope} {dV kV doc pm cdv ct : Value} {osl : Array (Option Value)} (L : LamH K mg base y) (m : mg y = some (.ref f))
    (lk : K.lookup f = some ⟨oc, od, .func (PySem.W.fnOf x q params body scope dV kV doc pm an cdv ct), osl⟩) : LamAt K mg base cdv y := by
  obtain ⟨f2, c, P, oc2, od2, fd2, osl2, m2, lk2, ec, t, _, u⟩ := L.f.ex
  rw [m] at m2
  cases m2
  rw [lk] at lk2
  cases lk2
  exact ⟨c, P, ec, L.b _ (csT_mem L.n t), tabT_mem L.n t, u⟩
theorem fnL_def {k n N : Nat} {x : Str} {st : Stmt} {f : Addr} {fd : FuncData} {Ns ps : List Str} {pn : List Nat} {body : M Flow} {F : Fn} (L : LamH K mg base x) (h : Def K mg x st ps f fd) (S : FnScope Ns ps (defScope st))
    (hF : F = dFn n N pn body) (hn : ps.length = n) (hN : Ns.length = N)
    (hb : ∀ (cdv : Value) (A : Around) (outer : List PySem.Env) (s : Shared) (H : Hp) (E : XK), LamAt K mg base cdv x → Room k (A.deeper (envOfC x (defScope st) s.heap.objs.size f cdv)) →
      PSs (cxOf CX0 P w K mg base Ns x (defScope st) f cdv A outer s H E).nox (defBody st) (tS ⟨K, mg, fun _ _ _ _ => False, pn, []⟩ body)) : FnOk P w K mg base CX0 (k + 1) f fd ps (fun vs H Q _ => spD K mg F vs H Q fun _ _ _ => False) := by
  subst hF hn hN
  have hn : ps.length ≤ Ns.length := by have := congrArg List.length S.pre; rw [List.length_take] at this; omega
  have m := h.m
  obtain ⟨oc, od, kV, doc, pm, an, cdv, ct, osl, rfl, lk, hcd⟩ := h.fn.ex
  refine fn_of lk hcd S (fun vs H Q E q => (body_ok (W := fun _ _ _ _ => False) (fun _ _ => rfl) (fun _ _ _ _ z => z) q hn).1) fun A outer s H vs Q E hr q => ?_
  obtain ⟨hl, ht⟩ := body_ok (W := fun _ _ _ _ => False) (fun _ _ => rfl) (fun _ _ _ _ z => z) q hn
  refine ⟨_, (hb cdv A outer s H E (L.at m lk) hr).nox, ?_⟩
  unfold L2.start
  rw [hl]
  exact ht
theorem calL_def {k n N : Nat} {x : Str} {st : Stmt} {Ns ps : List Str} {pn : List Nat} {body : M Flow} {F : Fn} (L : LamH K mg base x) (h0 : Def0 K mg x st ps) (S : FnScope Ns ps (defScope st))
    (hF : F = dFn n N pn body) (hn : ps.length = n) (hN : Ns.length = N)
    (hb : ∀ (f : Addr) (cdv : Value) (A : Around) (outer : List PySem.Env) (s : Shared) (H : Hp) (E : XK), LamAt K mg base cdv x → Room k (A.deeper (envOfC x (defScope st) s.heap.objs.size f cdv)) →
      PSs (cxOf CX0 P w K mg base Ns x (defScope st) f cdv A outer s H E).nox (defBody st) (tS ⟨K, mg, fun _ _ _ _ => False, pn, []⟩ body)) : CalD P w K mg base (k + 1) x F [] := by
  obtain ⟨f, fd, h⟩ := h0
  exact cal_mk (fnL_def L h S hF hn hN (hb f)) h.m h.fn.kp (.all h.b)
end
/-- the law's own end -/
theorem law_endT {l : PySem.W.OpenLaw} {w : World} {K : PySem.W.Frag} {mg : Str → Option Value} {fa f : Addr} {fd : FuncData} {x y : Str} {st : Stmt} {k n : Nat} {F : Fn} (hfa : mg x = some (.ref fa)) (d : Def K mg x st [y] f fd)
    (hF : ∀ base : Heap, (∀ p ∈ csT K, LamX.TabB base mg p.1 p.2) → FnOk l.prog w K mg base CX0 k f fd [y] (fun vs H Q _ => spD K mg F vs H Q fun _ _ _ => False))
    (h : ∀ ns : List Int, ns.length ≤ n → (∀ z ∈ ns, Builtin.Int.intBits z ≤ 1048576) → ∃ l, F [script ns] = .ok (.v (.bl true)) l) :
    ∃ fd : FuncData, (∀ (s : Shared) (v : Value), BindsTo s fd ⟨[v], []⟩ [(y, v)]) ∧ ∀ base : Heap, (∀ p ∈ csT K, LamX.TabB base mg p.1 p.2) → FnOk l.prog w K mg base CX0 k fa fd [y] (spScript K n) := by
  have e := hfa.symm.trans d.m
  cases e
  exact ⟨fd, fun s v => .of_eq (d.b [v] rfl), fun base hT => (hF base hT).imp fun vs H Q E p => law_sp h vs H Q E p⟩
theorem walk_lam {l : PySem.W.OpenLaw} {n k : Nat} {q : Program} {loose : List Str} {XP : (Str → Option Value) → Heap → Prop} {YP : World → Heap → Prop} {d : DefRec} {K : Params → PySem.W.Frag} {x : Str} (hn : l.most = some n) (hz : n ≤ sizeLine)
    (d0 : d.params.defaults = []) (rm : Room k callerA) (recs : (LamN.names.all fun x => ((recsOf q).find? fun e => e.name == x).isSome) = true) (hY : ∀ (w : World) (h : Heap), YP w h → (K w.params).In h)
    (F : ∀ (w : World) (mg : Str → Option Value) (fa : Addr) (h : Heap), (K w.params).In h → h.Ns mainGlobals mg → mg d.name = some (.ref fa) → (∀ p ∈ csT (K w.params), (K w.params).lookup p.2 = none) ∧
      ∃ fd : FuncData, (∀ (s : Shared) (v : Value), BindsTo s fd ⟨[v], []⟩ [(x, v)]) ∧ ∀ base : Heap, (∀ p ∈ csT (K w.params), LamX.TabB base mg p.1 p.2) → FnOk l.prog w (K w.params) mg base CX0 k fa fd [x] (spScript (K w.params) n)) :
    PySem.W.WalkO q loose XP YP l.row.toRowW d [] (fun f vs => PySem.call f vs) := by
  refine Att.attach_callB hn d0 ?_
  intro w t0 t1 mg mb fa o pm cd doc a vs ns G Y e1 e2 e3 e4 e5 e6 e7 e8 e9
  have KX := hY w _ Y
  obtain ⟨nK, fd, bd, f⟩ := F w mg fa _ KX G.T.g e4
  have tab : ∀ p ∈ csT (K w.params), PySem.W.CodeHd t1.heap p.1 p.2 ∧ t1.heap.get? p.2 = some { cls := .none, data := .fields #[] } := fun p hp => by
    obtain ⟨y, hy, ey⟩ := List.mem_filterMap.mp hp
    obtain ⟨r, hr⟩ := Option.isSome_iff_exists.mp (List.all_eq_true.mp recs y hy)
    exact PySem.W.tab_of G.T KX hr ey
  refine LamX.law_callTs (cs := csT (K w.params)) (sp := spScript (K w.params) n) (CX := CX0) KX G.T.g G.T.b G.T.builtins G.T.nolimit e9 (fun p hp => (tab p hp).2) nK (fun p hp => (tab p hp).1) G.T.bmain e5 e6 (Nat.le_trans e7 hz) rm (fun base _ _ hT => f base hT) bd ?_ ?_
  · exact fun H hH hS => ⟨a, ns, rfl, e7, e8, hS, tabs_start hH, fun v _ e => e⟩
  · exact fun H e s' z => z
end DD

set_option maxHeartbeats 1000000
namespace DD
open PySem PySem.Spec L2
open PyProof.Rows hiding St
variable [LamN]
section
variable {K : PySem.W.Frag} {mg : Str → Option Value} {Z G : Hp} {cls : Value} {dx : Option Addr} {e : Ex}
theorem ExR.plain {Dc : Addr} (h : ExR K mg Z cls dx e) (hk : e.ks = []) (m : mg e.c = some (.ref Dc)) : cls = .ref Dc ∧ dx = none := by
  have e1 : cls = .ref Dc := by
    rcases h.cls with q | ⟨q, _⟩
    · rw [m] at q; exact (Option.some.inj q).symm
    · rw [m] at q; cases q
  refine ⟨e1, ?_⟩
  rcases h.own with ⟨_, _, q⟩ | ⟨d, ws, n, _, _, q, _⟩
  · exact q
  · rw [hk] at q
    cases ws with
    | nil => exact absurd rfl n
    | cons _ _ => simp at q
theorem ExR.cl {Dc : Addr} (h : ExR K mg Z cls dx e) (m : mg e.c = some (.ref Dc)) : cls = .ref Dc := by
  rcases h.cls with q | ⟨q, _⟩
  · rw [m] at q; exact (Option.some.inj q).symm
  · rw [m] at q; cases q
variable {n i : Nat} {cm : Value} {CS : List Str} {bh : Str → M Flow} {w : Wish} {En : Ends} {τ : L2.St} {r : DD.D} {c : Str} {Dc : Addr} {go : Ends → Addr → WX} {b : M Flow}
theorem wish_named (hi : i < n) (ex : PySem.W.exmOne K (.ref Dc) cm = some true) (m : mg c = some (.ref Dc)) (hc : c ∈ CS) (P : Pure K Z G) (B : Back K mg Z G r En.rt) (run : ∃ ρ', bh c (List.replicate n none) = .ok (.ret (.v r)) ρ') :
    hitW K n cm (fun D a cls d τ G => tsH K mg i CS bh a cls d (Ends.out D i) (τ.set i (some (.ref a))) G) w En (.ref Dc) none τ G := by
  refine ⟨true, ex, ?_⟩
  rw [if_pos rfl]
  intro a _ hl
  obtain ⟨ρ', e⟩ := run
  refine ⟨c, Dc, hc, rfl, m, rfl, Back.run P (fun p hp => ?_) B rfl (ρ' := ρ') ?_⟩
  · obtain rfl : p = (i, V.ref a) := by simpa using hp
    exact ⟨List.mem_singleton.mpr rfl, List.getElem?_set_self (by rw [hl]; exact hi)⟩
  · rw [List.length_set, hl]
    exact e
theorem wish_only (ex : PySem.W.exmOne K cls cm = some true) (P : Pure K Z G) (B : Back K mg Z G r En.rt) (run : ∃ ρ', b (List.replicate n none) = .ok (.ret (.v r)) ρ') :
    hitW K n cm (fun D a cls d τ G => tsO K mg b a cls d D τ G) w En cls dx τ G := by
  refine ⟨true, ex, ?_⟩
  rw [if_pos rfl]
  intro a _ hl
  obtain ⟨ρ', e⟩ := run
  exact Back.run P (fun p hp => by cases hp) B rfl (ρ' := ρ') (by rw [hl]; exact e)
theorem wish_miss (ex : PySem.W.exmOne K cls cm = some false) (h : w En cls dx τ G) : hitW K n cm go w En cls dx τ G := by
  refine ⟨false, ex, ?_⟩
  rw [if_neg (by decide)]
  exact h
end
end DD

namespace DD
open PySem PySem.Spec L2
open PyProof.Rows hiding St
variable [LamN]
section
variable {ρ : DEnv} {E : Ex → DEnv → Prop} {f : M A} {Q : A → DEnv → Prop} {QF : Flow → DEnv → Prop} {tr : Ex → Option D} {dn : D} {c : Str}
theorem w_raise (k : E ⟨c, [], []⟩ ρ) : Wp (dRaise c ρ) QF E := Wp.mk k
theorem w_lam (k : Wp (f ρ) (fun _ ρ' => Q (.v dn) ρ') (fun e ρ' => ρ'.length = ρ.length ∧ Wo (tr e) fun r => Q (.v r) ρ')) : Wp (dLam tr dn f ρ) Q E := by
  have k := k.out
  refine Wp.mk ?_
  unfold dLam
  revert k
  cases f ρ with
  | ok a ρ' => exact id
  | exc e ρ' =>
    intro ⟨h, r, e1, k⟩
    dsimp only
    rw [if_pos h, e1]
    exact k
  | bad => exact id
end
end DD

set_option maxHeartbeats 4000000
namespace DD
open PySem PySem.Spec L2
open PyProof.Rows hiding St
variable [LamN]
def places (n j : Nat) : List Nat := sliceRange ((n : Int) - 1) (-1) (-(j : Int))
def pickD {α : Type} (j : Nat) (l : List α) : List α := (places l.length j).filterMap (l[·]?)
theorem pickD_mem {α : Type} {j : Nat} {l : List α} {x : α} (h : x ∈ pickD j l) : x ∈ l := by
  obtain ⟨i, _, e⟩ := List.mem_filterMap.mp h
  exact List.mem_of_getElem? e
theorem pickD_length {α : Type} {j : Nat} {l : List α} (hj : 0 < j) : (pickD j l).length ≤ l.length := by
  refine Nat.le_trans (List.length_filterMap_le _ _) ?_
  exact sliceRange_length_le _ _ _ _ (fun h => by omega) (fun _ => ⟨by omega, by omega⟩)
section
variable {K : PySem.W.Frag} {mg : Str → Option Value} {Z : Hp}
theorem RepDs.pick {xs : List V} {ds : List D} (r : RepDs K mg Z xs ds) : ∀ is : List Nat, RepDs K mg Z (is.filterMap (xs[·]?)) (is.filterMap (ds[·]?))
  | [] => .nil
  | i :: is => by
    rw [List.filterMap_cons, List.filterMap_cons]
    cases e : ds[i]? with
    | none =>
      have e2 : xs[i]? = none := List.getElem?_eq_none (by rw [r.length]; exact List.getElem?_eq_none_iff.mp e)
      rw [e2]
      exact RepDs.pick r is
    | some d =>
      obtain ⟨x, e2, rx⟩ := r.get e
      rw [e2]
      exact .cons rx (RepDs.pick r is)
end
theorem bounds_neg (n j : Nat) (hj : 0 < j) : sliceBounds none none (some (-(j : Int))) n = ((n : Int) - 1, -1, -(j : Int)) := by
  unfold sliceBounds
  have h : ¬ (-(j : Int) > 0) := by omega
  simp only [Option.getD_some, h, if_false]
theorem vals_pick {xs : List V} {us : List Value} (r : Vals xs us) : ∀ is : List Nat, Vals (is.filterMap (xs[·]?)) (is.filterMap (us[·]?))
  | [] => .nil
  | i :: is => by
    rw [List.filterMap_cons, List.filterMap_cons]
    cases e : xs[i]? with
    | none =>
      have e2 : us[i]? = none := List.getElem?_eq_none (by rw [← r.length]; exact List.getElem?_eq_none_iff.mp e)
      rw [e2]
      exact vals_pick r is
    | some x =>
      obtain ⟨u, e2, ru⟩ := r.get e
      rw [e2]
      exact .cons ru (vals_pick r is)
section
variable {X : Cx} {C : SC} {e : Expr} {f : M A}
/-- l[::-j] -/
theorem pe_stepL {te : TE} {j k : Nat} {q1 q2 q3 pos : Pos} (hj : 0 < j) (he : PE X e te) : PE X (.Subscript e (.Slice none none (some (.UnaryOp .USub (.Constant (.int j) k q1) q2)) q3) pos)
    (fun σ H Q => te σ H fun x G => ∃ a xs, x = .ref a ∧ SqL X.K G a xs ∧ ∀ p, G p = none → Q (.ref p) (upd G p (.lst (pickD j xs)))) := by
  constructor
  intro pins t τ G Q I h
  refine Subscript_ (thn (he.run pins t τ G _ I h) fun v t1 r => ?_)
  obtain ⟨x, G1, I1, r1, a, xs, rfl, hx, q⟩ := r
  cases r1
  have stp : PO X (some (.UnaryOp .USub (.Constant (.int j) k q1) q2)) (tPart (tUn (rU fun i => .int (-i)) (tC (.int j)))) := po_some (pe_un un_neg pe_int)
  refine wpAny_Slice (thn (po_none.run pins t1 τ G1 (fun o G' => o = none ∧ G' = G1) I1 ⟨rfl, rfl⟩) fun vl t2 ⟨o2, G2, I2, pl, b2, c2⟩ => ?_)
  subst b2 c2
  refine thn (po_none.run pins t2 τ G2 (fun o G' => o = none ∧ G' = G2) I2 ⟨rfl, rfl⟩) fun vu t3 ⟨o3, G3, I3, pu, b3, c3⟩ => ?_
  subst b3 c3
  refine thn (stp.run pins t3 τ G3 (fun o G' => o = some (-(j : Int)) ∧ G' = G3) I3 ⟨(j : Int), rfl, -(j : Int), rfl, rfl, rfl⟩) fun vs t4 ⟨o4, G4, I4, ps, b4, c4⟩ => ?_
  subst b4 c4
  have I5 : Inv X pins τ G4 { t4 with heap := t4.heap.push { cls := .type "slice", data := .fields #[vl, vu, vs] } } := I4.kept (t' := t4.toks) fun b o e => Heap.get?_push_of_some _ e
  obtain ⟨its, rv, ht, hz⟩ := I5.list hx
  have hl := rv.length
  show wpAny (model X.prog X.w) X.A (subscriptTail e (.Slice none none (some (.UnaryOp .USub (.Constant (.int j) k q1) q2)) q3) (.ref a) (.ref t4.heap.objs.size)) (EP X pins τ Q) X.xe _
  refine tail_any (ops := [.ref a, .ref t4.heap.objs.size]) ht.isList.typeIs (PySem.slot_list_getitem.lookup) ?_ (by with_unfolding_all rfl)
  refine wpAny_getItem_list_slice ht.isList (Heap.IsSliceOf.new _ vl vu vs) pl pu ps (fun z => by have := Option.some.inj z; omega) ?_ (by rw [List.size_toArray]; omega)
  have pk : slicePick its.toArray none none (some (-(j : Int))) = (pickD j its).toArray := by
    unfold slicePick pickD places
    rw [bounds_neg _ _ hj]
    simp
  rw [pk]
  have rp : Vals (pickD j xs) (pickD j its) := by
    unfold pickD
    rw [hl]
    exact vals_pick rv _
  refine ⟨.ref _, _, I5.laid (t' := t4.toks) (o := .lst (pickD j xs)) (fun b o e => Heap.get?_push_of_some _ e) (Nat.le_refl _) ?_, rfl, q _ (I5.hok.fresh (Nat.le_refl _))⟩
  exact ⟨Nat.le_trans (pickD_length hj) hz, _, 0, rp, Heap.get?_push_size _ rfl⟩
def dStep (j : Nat) (f : M A) : M A := f.bind fun a => ofO ((lstD a.frz).map fun ds => .m ((pickD j ds).map .v))
theorem de_step {j k : Nat} {q1 q2 q3 pos : Pos} (hj : 0 < j) (hK : X.K = C.K) (he : PE X e (tE C f)) : PE X (.Subscript e (.Slice none none (some (.UnaryOp .USub (.Constant (.int j) k q1) q2)) q3) pos) (tE C (dStep j f)) := by
  refine PE.w (pe_stepL hj he) fun σ H Q q => ?_
  refine (Go.bindE q).mono fun x H1 ⟨a, k1⟩ => ?_
  obtain ⟨res, e1, b, Z, ρ, vs, as, hb, _, S, k2⟩ := go_ofO k1
  rw [hK]
  obtain ⟨Z', _, S'⟩ := Sta.freeze (vs := vs) (as := as) S
  cases hd : lstD a.frz with
  | none => rw [hd] at e1; cases e1
  | some ds =>
    rw [hd] at e1
    cases e1
    obtain ⟨q, xs, rfl, hs, r⟩ := (Sta.top S').lsq S'.zh hd
    refine ⟨q, xs, rfl, hs, fun p hp => ?_⟩
    have rp : RepDs C.K C.mg Z' (pickD j xs) (pickD j ds) := by
      unfold pickD
      rw [r.length]
      exact r.pick _
    exact k2 _ _ _ (((Sta.pop S').pushes rp).newM (by rw [List.length_map]; exact rp.length) hp)
theorem w_step {ρ : DEnv} {E : Ex → DEnv → Prop} {Q : A → DEnv → Prop} {j : Nat} (k : Wp (f ρ) (fun a ρ1 => Wo (lstD a.frz) fun ds => Q (.m ((pickD j ds).map .v)) ρ1) E) : Wp (dStep j f ρ) Q E := by
  refine wp_bind (wp_mono k (fun _ _ ⟨ds, e, k⟩ => ?_) fun _ _ z => z)
  rw [e]
  exact wp_ofO ⟨_, rfl, k⟩
/-- the least of a list of ints -/
def intsD : List D → Option (List Int)
  | [] => some []
  | .int i :: l => (intsD l).map (i :: ·)
  | _ => none
def leastI : List Int → Option Int
  | [] => none
  | i :: l => some (l.foldl min i)
theorem foldl_min : ∀ (l : List Int) (i : Int), (l.foldl min i = i ∨ l.foldl min i ∈ l) ∧ l.foldl min i ≤ i ∧ ∀ x ∈ l, l.foldl min i ≤ x
  | [], i => ⟨.inl rfl, Int.le_refl _, fun _ h => by cases h⟩
  | x :: l, i => by
    obtain ⟨h1, h2, h3⟩ := foldl_min l (min i x)
    rw [List.foldl_cons]
    refine ⟨?_, by omega, fun y hy => ?_⟩
    · rcases h1 with h | h
      · rw [h]
        by_cases q : i ≤ x
        · exact .inl (by omega)
        · exact .inr (by rw [show min i x = x by omega]; exact List.mem_cons_self)
      · exact .inr (List.mem_cons_of_mem _ h)
    · rcases List.mem_cons.mp hy with e | hy
      · subst e; omega
      · exact h3 y hy
theorem least_is {l : List Int} {m n : Int} (h : leastI l = some n) (hm : m ∈ l) (hle : ∀ y ∈ l, m ≤ y) : m = n := by
  cases l with
  | nil => cases hm
  | cons i l =>
    cases h
    obtain ⟨h1, h2, h3⟩ := foldl_min l i
    have a : l.foldl min i ≤ m := by
      rcases List.mem_cons.mp hm with e | e
      · omega
      · exact h3 m e
    have b : m ≤ l.foldl min i := by
      rcases h1 with e | e
      · rw [e]; exact hle i List.mem_cons_self
      · exact hle _ (List.mem_cons_of_mem _ e)
    omega
theorem intsD_rep {K : PySem.W.Frag} {mg : Str → Option Value} {Z : Hp} : ∀ {ds : List D} {xs : List V} {ns : List Int}, RepDs K mg Z xs ds → intsD ds = some ns → xs = ns.map V.int
  | [], _, _, r, e => by cases r; cases e; rfl
  | d :: ds, _, ns, r, e => by
    cases r with
    | cons r1 r2 =>
      cases d with
      | int i =>
        unfold intsD at e
        cases e2 : intsD ds with
        | none => rw [e2] at e; cases e
        | some ms =>
          rw [e2] at e
          cases e
          cases r1
          rw [intsD_rep r2 e2]
          rfl
      | _ => cases e
def opMinL (l : List A) : Option A := match l with
  | [a] => match lstD a.frz with
    | some ds => ((intsD ds).bind leastI).map fun n => .v (.int n)
    | none => none
  | _ => none
theorem on_minL : OpN C (rMin C.K) opMinL := by
  intro b Z H σ ρ vs as ws l res Q hl S e k
  match l, ws, hl with
  | [a], [x], _ =>
    obtain ⟨Z', _, S'⟩ := Sta.freeze (vs := vs) (as := as) S
    unfold opMinL at e
    cases hd : lstD a.frz with
    | none => simp only [hd] at e; cases e
    | some ds =>
      simp only [hd] at e
      cases hi : intsD ds with
      | none => rw [hi] at e; cases e
      | some ns =>
        rw [hi] at e
        cases hm : leastI ns with
        | none => simp only [Option.bind_some, hm] at e; cases e
        | some n =>
          simp only [Option.bind_some, hm, Option.map_some] at e
          cases e
          obtain ⟨q, xs, rfl, hs, r⟩ := (Sta.top S').lsq S'.zh hd
          refine ⟨q, ns, rfl, by rw [← intsD_rep r hi]; exact hs, ?_, fun m hm1 hm2 => ?_⟩
          · cases ns with
            | nil => cases hm
            | cons _ _ => simp
          · rw [least_is hm hm1 hm2]
            exact k _ _ _ ((Sta.pop S').push (.int n))
  | [], _, _ => unfold opMinL at e; cases e
  | _ :: _ :: _, _, _ => unfold opMinL at e; cases e
end
end DD

namespace DD
open PySem PySem.Spec L2
open PyProof.Rows hiding St
variable [LamN]
def dPar3 (o1 o2 o3 : Bool) (i j l : Nat) (f g h : M A) : M Flow := f.bind fun a => g.bind fun c => h.bind fun d ρ => if i < ρ.length ∧ j < ρ.length ∧ l < ρ.length then .ok .nx (((ρ.set i (some (frzB o1 a))).set j (some (frzB o2 c))).set l (some (frzB o3 d))) else .bad
section
variable {C : SC} {X : Cx} {a b c : Expr} {f g h : M A} {i j l : Nat} {x y z : Str} {px py pz pt pos : Pos} {kt k2 : Nat} {pt2 : Pos}
theorem ds_par3 (o1 o2 o3 : Bool) (hc : X.calm = true) (hN : X.N.Nodup) (hi : X.N[i]? = some x) (hj : X.N[j]? = some y) (hl : X.N[l]? = some z) (hni : i ∉ C.pn) (hnj : j ∉ C.pn) (hnl : l ∉ C.pn) (hx : X.env.scope.names.lookup x = some .local) (hy : X.env.scope.names.lookup y = some .local) (hz : X.env.scope.names.lookup z = some .local)
    (ha : PE X a (tE C f)) (hb : PE X b (tE C g)) (hcc : PE X c (tE C h)) (hij : i ≠ j) (hil : i ≠ l) (hjl : j ≠ l) (hw : swappedStores [.Tuple [.Name x px, .Name y py, .Name z pz] kt pt] (.Tuple [a, b, c] k2 pt2) X.env = pure (some [x, y, z]))
    (hs : swapsWithSole [.Tuple [.Name x px, .Name y py, .Name z pz] kt pt] (.Tuple [a, b, c] k2 pt2) pos.line X.env = pure false := by rfl) (h1 : starEach (a :: [b, c]) X.env = (false, eval a X.env) :: starEach [b, c] X.env := by rfl) (h2 : starEach (b :: [c]) X.env = (false, eval b X.env) :: starEach [c] X.env := by rfl)
    (h3 : starEach (c :: []) X.env = (false, eval c X.env) :: starEach [] X.env := by rfl) :
    PS X (.Assign [.Tuple [.Name x px, .Name y py, .Name z pz] kt pt] (.Tuple [a, b, c] k2 pt2) pos) (tS C (dPar3 o1 o2 o3 i j l f g h)) := by
  refine PS.w (ps_par3 hc hN hi hj hl hij hil hjl hx hy hz (pa_cons ha (pa_cons hb (pa_cons hcc pa_nil h3) h2) h1) hw hs) fun D σ H k => ?_
  refine (Go.bindE k).mono fun u H1 ⟨c1, k1⟩ => (Go.bindE k1).mono fun v H2 ⟨c2, k2⟩ => (Go.bindE k2).mono fun w H3 ⟨c3, b, Z, ρ, vs, as, hb, _, S, k3⟩ => ?_
  dsimp only at k3
  split at k3
  · rename_i hz
    refine ⟨u, v, w, rfl, ?_⟩
    have S1 := Sta.rot (ws := [w, v]) (l := [c3, c2]) (x := u) (vs := vs) (as := as) S rfl
    obtain ⟨Z1, S2⟩ := Sta.frzTop o1 S1
    have S3 := S2.store (i := i) hz.1 (by rw [hb.pn]; exact hni)
    have S4 := Sta.rot (ws := [w]) (l := [c3]) (x := v) (vs := vs) (as := as) S3 rfl
    obtain ⟨Z2, S5⟩ := Sta.frzTop o2 S4
    have S6 := S5.store (i := j) (by rw [List.length_set]; exact hz.2.1) (by rw [hb.pn]; exact hnj)
    obtain ⟨Z3, S7⟩ := Sta.frzTop (vs := vs) (as := as) o3 S6
    exact k3 _ _ _ (S7.store (i := l) (by rw [List.length_set, List.length_set]; exact hz.2.2) (by rw [hb.pn]; exact hnl))
  · exact k3.elim
end
section
variable {ρ : DEnv} {E : Ex → DEnv → Prop} {f g h : M A} {QF : Flow → DEnv → Prop}
theorem w_par3 {o1 o2 o3 : Bool} {i j l : Nat} (k : Wp (f ρ) (fun a ρ1 => Wp (g ρ1) (fun c ρ2 => Wp (h ρ2) (fun d ρ3 => (i < ρ3.length ∧ j < ρ3.length ∧ l < ρ3.length) ∧ QF .nx (((ρ3.set i (some (frzB o1 a))).set j (some (frzB o2 c))).set l (some (frzB o3 d)))) E) E) E) : Wp (dPar3 o1 o2 o3 i j l f g h ρ) QF E :=
  wp_bind (wp_mono k (fun _ _ k => wp_bind (wp_mono k (fun _ _ k => wp_bind (wp_mono k (fun _ _ k => by rw [if_pos k.1]; exact Wp.mk k.2) fun _ _ z => z)) fun _ _ z => z)) fun _ _ z => z)
end
end DD
namespace DD
/-- what is returned -/
def retD (r : R Flow) : Option D := match r with
  | .ok (.ret (.v d)) _ => some d
  | _ => none
theorem retD_ex {r : R Flow} {d : D} (h : retD r = some d) : ∃ ρ', r = .ok (.ret (.v d)) ρ' := by
  unfold retD at h
  split at h
  · cases h; exact ⟨_, rfl⟩
  · cases h
end DD

namespace DD
open PySem PySem.Spec L2
open PyProof.Rows hiding St
variable [LamN]
theorem csT_none {K : PySem.W.Frag} {mg : Str → Option Value} (h : ∀ x ∈ LamN.names, LamF K mg x) : ∀ p ∈ csT K, K.lookup p.2 = none := fun p hp => by
  obtain ⟨x, hx, e⟩ := List.mem_filterMap.mp hp
  obtain ⟨f, c, P, oc, od, fd, osl, _, _, _, t, n, _⟩ := (h x hx).ex
  rw [t] at e
  cases e
  exact n
theorem lam_of {K : PySem.W.Frag} {h : Heap} {mg : Str → Option Value} {y : Str} {f c P : Addr} {oc e : Value} {od dd : Option Addr} {fd : FuncData} {osl sl : Array (Option Value)} {vs : Array Value} (X : K.In h) (G : h.Ns mainGlobals mg) (h1 : PySem.W.nsIn K mainGlobals y = some (some (.ref f)))
    (h2 : K.lookup f = some ⟨oc, od, .func fd, osl⟩) (h3 : fd.code = .ref c) (h4 : K.lookup c = some ⟨e, dd, .fields vs, sl⟩) (h5 : vs[11]? = some (.ref P)) (nP : K.lookup P = none) (u : ∀ p ∈ tabT K, p.1 = P → p.2 = y ++ ".<locals>." ++ "<lambda>") : LamF K mg y := by
  refine lam_ex X G (c := c) (P := P) ?_ nP u
  unfold PySem.W.tabIn
  rw [h1]
  simp only [h2, h3, h4, h5]
theorem uniq1 {K : PySem.W.Frag} {y : Str} {P : Addr} (h : LamN.names = [y]) : ∀ p ∈ tabT K, p.1 = P → p.2 = y ++ ".<locals>." ++ "<lambda>" := fun p hp _ => by
  obtain ⟨x, hx, e⟩ := List.mem_filterMap.mp hp
  rw [h] at hx
  obtain rfl : x = y := by simpa using hx
  cases t : PySem.W.tabIn K x with
  | none => rw [t] at e; cases e
  | some q => rw [t] at e; cases e; rfl
section
variable {K : PySem.W.Frag} {h : Heap} {mg : Str → Option Value} {c t : Str} {D0 M0 : Addr} {b : Bool} (X : K.In h) (G : h.Ns mainGlobals mg)
include X G
theorem h_of (e : PySem.W.nsIn K mainGlobals t = some (some (.ref M0))) : ∃ M, mg t = some (.ref M) := ⟨M0, PySem.W.mg_of X G e⟩
theorem c_of (e : PySem.W.nsIn K mainGlobals c = some (some (.ref D0))) (he : ExcC K D0) : ∃ Dc, mg c = some (.ref Dc) ∧ ExcC K Dc := ⟨D0, PySem.W.mg_of X G e, he⟩
theorem x_of (e1 : PySem.W.nsIn K mainGlobals c = some (some (.ref D0))) (e2 : PySem.W.nsIn K mainGlobals t = some (some (.ref M0))) (h1 : PySem.W.subIn K (.ref M0) (.type "BaseException") = some true) (h2 : PySem.W.hasDictIn K M0 = true)
    (h3 : PySem.W.typeIn K (.ref M0) = some (.type "type")) (h4 : PySem.W.subIn K (.ref D0) (.ref M0) = some b) : ∀ Dc M, mg c = some (.ref Dc) → mg t = some (.ref M) → PySem.W.exmOne K (.ref Dc) (.ref M) = some b := fun Dc M q1 q2 => by
  rw [PySem.W.mg_of X G e1] at q1
  rw [PySem.W.mg_of X G e2] at q2
  cases q1
  cases q2
  exact PySem.W.exm_ref h1 h2 h3 h4
theorem i_of (e1 : PySem.W.nsIn K mainGlobals c = some (some (.ref D0))) (e2 : PySem.W.nsIn K mainGlobals t = some (some (.ref M0))) (k : PySem.W.kitOne K (.ref D0) (.ref M0) = some b) : ∀ Dc, mg c = some (.ref Dc) → IsT K mg Dc t b := fun Dc q1 => by
  rw [PySem.W.mg_of X G e1] at q1
  cases q1
  exact .inl ⟨M0, PySem.W.mg_of X G e2, k⟩
theorem i_of_b {T : String} (e1 : PySem.W.nsIn K mainGlobals c = some (some (.ref D0))) (e2 : PySem.W.nsIn K mainGlobals t = some none) (n : t ≠ "__name__") (hb : bootBuiltins t = some (.type T)) (k : PySem.W.kitOne K (.ref D0) (.type T) = some b) : ∀ Dc, mg c = some (.ref Dc) → IsT K mg Dc t b := fun Dc q1 => by
  rw [PySem.W.mg_of X G e1] at q1
  cases q1
  exact .inr ⟨PySem.W.mg_none_of X G e2, n, T, hb, k⟩
theorem r_of {bmB : List Value} {B n1 n2 : String} (F : ExcBaseFacts B n1 n2 bmB) (e : PySem.W.nsIn K mainGlobals c = some (some (.ref D0))) (q : PySem.W.excIn K D0 bmB n1 = true) (k : PySem.W.keepIn K (.ref D0) = true) (s : PySem.W.subIn K (.ref D0) (.type "BaseException") = some true)
    (t : PySem.W.typeIn K (.ref D0) = some (.type "type")) : ExCls K mg c := ⟨D0, bmB, B, n1, n2, PySem.W.mg_of X G e, F, q, k, s, t⟩
end
end DD

namespace DD.K33
open PySem PySem.Spec L2
open PyProof.Rows hiding St
instance : LamN := ⟨["law"]⟩
def topS (i : Nat) : Stmt := PySem.Challenge.pw_fewmirrors_k33_classes_alike.main.body.getD i (.Pass ⟨0, 0, 0, 0⟩)
abbrev s_is_whole : Stmt := topS 22
theorem sc_is_whole : FnScope ["thing"] ["thing"] (defScope s_is_whole) := ⟨rfl, rfl, rfl, by decide +kernel, rfl, by decide +kernel, by decide +kernel⟩
abbrev s_shared : Stmt := topS 23
theorem sc_shared : FnScope ["one", "other"] ["one", "other"] (defScope s_shared) := ⟨rfl, rfl, rfl, by decide +kernel, rfl, by decide +kernel, by decide +kernel⟩
abbrev s_contrary_on : Stmt := topS 25
theorem sc_contrary_on : FnScope ["wheel", "rest", "one"] ["wheel", "rest"] (defScope s_contrary_on) := ⟨rfl, rfl, rfl, by decide +kernel, rfl, by decide +kernel, by decide +kernel⟩
abbrev s_whole_root : Stmt := topS 28
theorem sc_whole_root : FnScope ["square", "low", "high", "middle"] ["square"] (defScope s_whole_root) := ⟨rfl, rfl, rfl, by decide +kernel, rfl, by decide +kernel, by decide +kernel⟩
abbrev s_l_bag : Stmt := topS 35
theorem sc_l_bag : FnScope ["_law_script", "_law_at", "_law_cell", "_law_great_here", "_law_primes", "_law_mixed"] ["_law_script", "_law_at"] (defScope s_l_bag) := ⟨rfl, rfl, rfl, by decide +kernel, rfl, by decide +kernel, by decide +kernel⟩
abbrev s_l_take : Stmt := topS 36
theorem sc_l_take : FnScope ["_law_bag_here", "_law_many", "_law_digit"] ["_law_bag_here", "_law_many"] (defScope s_l_take) := ⟨rfl, rfl, rfl, by decide +kernel, rfl, by decide +kernel, by decide +kernel⟩
abbrev s_l_is_whole : Stmt := topS 37
theorem sc_l_is_whole : FnScope ["_law_thing"] ["_law_thing"] (defScope s_l_is_whole) := ⟨rfl, rfl, rfl, by decide +kernel, rfl, by decide +kernel, by decide +kernel⟩
abbrev s_l_shared : Stmt := topS 38
theorem sc_l_shared : FnScope ["_law_one", "_law_other"] ["_law_one", "_law_other"] (defScope s_l_shared) := ⟨rfl, rfl, rfl, by decide +kernel, rfl, by decide +kernel, by decide +kernel⟩
abbrev s_l_refusal : Stmt := topS 48
theorem sc_l_refusal : FnScope ["_law_deed", "e", "_law_some", "_law_names", "_law_name", "_law_is_so"] ["_law_deed"] (defScope s_l_refusal) := ⟨rfl, rfl, rfl, by decide +kernel, rfl, by decide +kernel, by decide +kernel⟩
abbrev s_l_root_beneath : Stmt := topS 49
theorem sc_l_root_beneath : FnScope ["_law_whole", "_law_low_here", "_law_high", "_law_middle"] ["_law_whole"] (defScope s_l_root_beneath) := ⟨rfl, rfl, rfl, by decide +kernel, rfl, by decide +kernel, by decide +kernel⟩
abbrev s_is_number : Stmt := topS 24
theorem sc_is_number : FnScope ["ground", "thing", "top", "bottom", "part"] ["ground", "thing"] (defScope s_is_number) := ⟨rfl, rfl, rfl, by decide +kernel, rfl, by decide +kernel, by decide +kernel⟩
abbrev s_lowest : Stmt := topS 26
theorem sc_lowest : FnScope ["ground", "top", "bottom", "common"] ["ground", "top", "bottom"] (defScope s_lowest) := ⟨rfl, rfl, rfl, by decide +kernel, rfl, by decide +kernel, by decide +kernel⟩
abbrev s_root_in : Stmt := topS 29
theorem sc_root_in : FnScope ["ground", "x", "some", "top", "bottom", "one"] ["ground", "x"] (defScope s_root_in) := ⟨rfl, rfl, rfl, by decide +kernel, rfl, by decide +kernel, by decide +kernel⟩
abbrev s_l_low : Stmt := topS 39
theorem sc_l_low : FnScope ["_law_g", "_law_up", "_law_down", "_law_one", "_law_common"] ["_law_g", "_law_up", "_law_down"] (defScope s_l_low) := ⟨rfl, rfl, rfl, by decide +kernel, rfl, by decide +kernel, by decide +kernel⟩
abbrev s_l_is_number : Stmt := topS 40
theorem sc_l_is_number : FnScope ["_law_g", "_law_thing", "_law_one"] ["_law_g", "_law_thing"] (defScope s_l_is_number) := ⟨rfl, rfl, rfl, by decide +kernel, rfl, by decide +kernel, by decide +kernel⟩
abbrev s_l_ground : Stmt := topS 44
theorem sc_l_ground : FnScope ["_law_bag_here"] ["_law_bag_here"] (defScope s_l_ground) := ⟨rfl, rfl, rfl, by decide +kernel, rfl, by decide +kernel, by decide +kernel⟩
abbrev s_l_odd : Stmt := topS 47
theorem sc_l_odd : FnScope ["_law_bag_here", "_law_some"] ["_law_bag_here"] (defScope s_l_odd) := ⟨rfl, rfl, rfl, by decide +kernel, rfl, by decide +kernel, by decide +kernel⟩
abbrev s_l_is_square : Stmt := topS 50
theorem sc_l_is_square : FnScope ["_law_g", "_law_x", "_law_one"] ["_law_g", "_law_x"] (defScope s_l_is_square) := ⟨rfl, rfl, rfl, by decide +kernel, rfl, by decide +kernel, by decide +kernel⟩
abbrev s_times : Stmt := topS 27
theorem sc_times : FnScope ["ground", "x", "y"] ["ground", "x", "y"] (defScope s_times) := ⟨rfl, rfl, rfl, by decide +kernel, rfl, by decide +kernel, by decide +kernel⟩
abbrev s_is_square : Stmt := topS 30
theorem sc_is_square : FnScope ["ground", "x"] ["ground", "x"] (defScope s_is_square) := ⟨rfl, rfl, rfl, by decide +kernel, rfl, by decide +kernel, by decide +kernel⟩
abbrev s_look_class : Stmt := topS 32
theorem sc_look_class : FnScope ["ground", "thing"] ["ground", "thing"] (defScope s_look_class) := ⟨rfl, rfl, rfl, by decide +kernel, rfl, by decide +kernel, by decide +kernel⟩
abbrev s_l_plus : Stmt := topS 41
theorem sc_l_plus : FnScope ["_law_g", "_law_x", "_law_y"] ["_law_g", "_law_x", "_law_y"] (defScope s_l_plus) := ⟨rfl, rfl, rfl, by decide +kernel, rfl, by decide +kernel, by decide +kernel⟩
abbrev s_l_times : Stmt := topS 42
theorem sc_l_times : FnScope ["_law_g", "_law_x", "_law_y"] ["_law_g", "_law_x", "_law_y"] (defScope s_l_times) := ⟨rfl, rfl, rfl, by decide +kernel, rfl, by decide +kernel, by decide +kernel⟩
abbrev s_l_minus : Stmt := topS 43
theorem sc_l_minus : FnScope ["_law_g", "_law_x"] ["_law_g", "_law_x"] (defScope s_l_minus) := ⟨rfl, rfl, rfl, by decide +kernel, rfl, by decide +kernel, by decide +kernel⟩
abbrev s_l_number : Stmt := topS 45
theorem sc_l_number : FnScope ["_law_bag_here", "_law_g", "_law_wide", "_law_down"] ["_law_bag_here", "_law_g"] (defScope s_l_number) := ⟨rfl, rfl, rfl, by decide +kernel, rfl, by decide +kernel, by decide +kernel⟩
abbrev s_are_alike : Stmt := topS 33
theorem sc_are_alike : FnScope ["ground", "x", "y"] ["ground", "x", "y"] (defScope s_are_alike) := ⟨rfl, rfl, rfl, by decide +kernel, rfl, by decide +kernel, by decide +kernel⟩
abbrev s_l_other_than_nought : Stmt := topS 46
theorem sc_l_other_than_nought : FnScope ["_law_bag_here", "_law_g", "_law_x"] ["_law_bag_here", "_law_g"] (defScope s_l_other_than_nought) := ⟨rfl, rfl, rfl, by decide +kernel, rfl, by decide +kernel, by decide +kernel⟩
abbrev s_l_great : Stmt := topS 51
theorem sc_l_great : FnScope ["_law_bag_here", "_law_g", "_law_x", "_law_turn"] ["_law_bag_here", "_law_g"] (defScope s_l_great) := ⟨rfl, rfl, rfl, by decide +kernel, rfl, by decide +kernel, by decide +kernel⟩
abbrev s_l_is_told : Stmt := topS 52
theorem sc_l_is_told : FnScope ["_law_g", "_law_x", "_law_y", "_law_due", "_law_told", "_law_one"] ["_law_g", "_law_x", "_law_y"] (defScope s_l_is_told) := ⟨rfl, rfl, rfl, by decide +kernel, rfl, by decide +kernel, by decide +kernel⟩
abbrev s_law : Stmt := topS 53
theorem sc_law : FnScope ["_law_script", "_law_k", "_law_bag_here", "_law_g", "_law_x", "_law_y", "_law_far", "_law_square", "_law_near", "_law_some", "_law_thing", "_law_due", "_law_one", "_law_a", "_law_b"] ["_law_script"] (defScope s_law) := ⟨rfl, rfl, rfl, by decide +kernel, rfl, by decide +kernel, by decide +kernel⟩
abbrev c_NOUGHT : D := .tup [.int 0, .int 1]
noncomputable def b_is_whole : M Flow := dRet (dAndV (dIsi "int" (dVar 0)) (dNotV (dIsi "bool" (dVar 0))))
noncomputable def n_is_whole : Fn := dFn 1 1 [] b_is_whole
noncomputable def b_shared_1 : M Flow := dPar false false 0 1 (dVar 1) (dOp2 opMod (dVar 0) (dVar 1))
noncomputable def b_shared : M Flow := dSeq (dPar false false 0 1 (dBlt opAbs (dCons (dVar 0) (dNil))) (dBlt opAbs (dCons (dVar 1) (dNil))))
  (dSeq (dWhile (dTest (dOp2 (opGt) (dVar 1) (dC (.int 0))))
  (b_shared_1))
  (dRet (dVar 0)))
noncomputable def n_shared : Fn := dFn 2 2 [] b_shared
noncomputable def b_contrary_on : M Flow := dRet (dOp2 opIx (dComp [2] (dRng1 (dVar 0)) (gSet 2) (dTest (dOp2 (opEq) (dOp2 opMod (dOp2 opMul (dVar 2) (dVar 1)) (dVar 0)) (dC (.int 1)))) (dVar 2)) (dC (.int 0)))
noncomputable def n_contrary_on : Fn := dFn 2 3 [] b_contrary_on
noncomputable def b_whole_root_1 : M Flow := dAug MulC (fun i j => i * j) 2 (dC (.int 2))
noncomputable def b_whole_root_2 : M Flow := dSeq (dSet false 3 (dOp2 opDiv (dOp2 opAdd (dVar 1) (dVar 2)) (dC (.int 2))))
  (dIfS (dTest (dOp2 (opLe) (dOp2 opMul (dVar 3) (dVar 3)) (dVar 0)))
  (dSet false 1 (dVar 3))
  (dSet false 2 (dVar 3)))
noncomputable def b_whole_root : M Flow := dSeq (dAsg (dTup (dCons (dC (.int 0)) (dCons (dC (.int 1)) (dNil)))) (gTupD 2 (gConsD (gSet 1) (gConsD (gSet 2) (gNilD)))))
  (dSeq (dWhile (dTest (dOp2 (opLe) (dOp2 opMul (dVar 2) (dVar 2)) (dVar 0)))
  (b_whole_root_1))
  (dSeq (dWhile (dTest (dOp2 (opGt) (dOp2 opSub (dVar 2) (dVar 1)) (dC (.int 1))))
  (b_whole_root_2))
  (dRet (dVar 1))))
noncomputable def n_whole_root : Fn := dFn 1 4 [] b_whole_root
noncomputable def b_l_bag : M Flow := dSeq (dSet false 2 (dC (.int 0)))
  (dSeq (dIfS (dTest (dOp2 (opLt) (dVar 1) (dBlt opLen (dCons (dVar 0) (dNil)))))
  (dSet false 2 (dOp2 opIx (dVar 0) (dVar 1)))
  (dSkip))
  (dSeq (dSet false 3 (dC (.int 0)))
  (dSeq (dIfS (dTest (dOp2 (opGe) (dBlt opAbs (dCons (dVar 2) (dNil))) (dOp2 opPow (dC (.int 10)) (dC (.int 18)))))
  (dSet false 3 (dBlt opAbs (dCons (dVar 2) (dNil))))
  (dSkip))
  (dSeq (dSet false 4 (dLst (dCons (dC (.int 2147483647)) (dCons (dC (.int 2147483629)) (dCons (dC (.int 2147483587)) (dCons (dC (.int 2147483579)) (dCons (dC (.int 2147483563)) (dCons (dC (.int 2147483549)) (dCons (dC (.int 2147483543)) (dCons (dC (.int 2147483497)) (dNil)))))))))))
  (dSeq (dSet false 5 (dOp2 opAdd (dOp2 opAdd (dOp2 opAdd (dOp2 opMul (dOp2 opMod (dVar 2) (dC (.int 2147483647))) (dC (.int 69623))) (dOp2 opMul (dOp2 opMul (dC (.int 104729)) (dVar 1)) (dVar 1))) (dOp2 opMul (dC (.int 7919)) (dVar 1))) (dC (.int 12345))))
  (dRet (dLst (dCons (dVar 3) (dCons (dOp2 opMod (dVar 5) (dOp2 opIx (dVar 4) (dOp2 opMod (dVar 1) (dC (.int 8))))) (dNil))))))))))
noncomputable def n_l_bag : Fn := dFn 2 6 [] b_l_bag
noncomputable def b_l_take : M Flow := dSeq (dIfS (dTest (dOp2 (opGt) (dIxOwn 0 (dC (.int 0))) (dC (.int 0))))
  (dSeq (dSet false 2 (dOp2 opMod (dIxOwn 0 (dC (.int 0))) (dVar 1)))
  (dSeq (dSetItem 0 false (dOp2 opDiv (dIxOwn 0 (dC (.int 0))) (dVar 1)) (dC (.int 0)))
  (dRet (dVar 2))))
  (dSkip))
  (dSeq (dSetItem 0 false (dOp2 opMod (dOp2 opAdd (dOp2 opMul (dIxOwn 0 (dC (.int 1))) (dC (.int 48271))) (dC (.int 2531011))) (dC (.int 2147483647))) (dC (.int 1)))
  (dRet (dOp2 opMod (dOp2 opDiv (dOp2 opMod (dOp2 opPow (dIxOwn 0 (dC (.int 1))) (dC (.int 3))) (dC (.int 2147483629))) (dC (.int 64))) (dVar 1))))
noncomputable def n_l_take : Fn := dFn 2 3 [0] b_l_take
noncomputable def b_l_is_whole : M Flow := dRet (dAndV (dIsi "int" (dVar 0)) (dNotV (dIsi "bool" (dVar 0))))
noncomputable def n_l_is_whole : Fn := dFn 1 1 [] b_l_is_whole
noncomputable def b_l_shared_1 : M Flow := dPar false false 0 1 (dVar 1) (dOp2 opMod (dVar 0) (dVar 1))
noncomputable def b_l_shared : M Flow := dSeq (dPar false false 0 1 (dBlt opAbs (dCons (dVar 0) (dNil))) (dBlt opAbs (dCons (dVar 1) (dNil))))
  (dSeq (dWhile (dTest (dOp2 (opGt) (dVar 1) (dC (.int 0))))
  (b_l_shared_1))
  (dRet (dVar 0)))
noncomputable def n_l_shared : Fn := dFn 2 2 [] b_l_shared
noncomputable def h_l_refusal_0 (c : Str) : M Flow := dSeq (dSet false 2 (dLst (dCons (dTup (dCons (dC (.str "NoGround")) (dCons (dC (.bl (c == "NoGround"))) (dNil)))) (dCons (dTup (dCons (dC (.str "NoNumber")) (dCons (dC (.bl (true))) (dNil)))) (dCons (dTup (dCons (dC (.str "NoRow")) (dCons (dC (.bl (c == "NoRow"))) (dNil)))) (dCons (dTup (dCons (dC (.str "NoTable")) (dCons (dC (.bl (c == "NoTable"))) (dNil)))) (dCons (dTup (dCons (dC (.str "NoForm")) (dCons (dC (.bl (c == "NoForm"))) (dNil)))) (dCons (dTup (dCons (dC (.str "NoKeeper")) (dCons (dC (.bl (c == "NoKeeper"))) (dNil)))) (dCons (dTup (dCons (dC (.str "NoWorth")) (dCons (dC (.bl (c == "NoWorth"))) (dNil)))) (dCons (dTup (dCons (dC (.str "NoSeat")) (dCons (dC (.bl (c == "NoSeat"))) (dNil)))) (dCons (dTup (dCons (dC (.str "NoFour")) (dCons (dC (.bl (c == "NoFour"))) (dNil)))) (dCons (dTup (dCons (dC (.str "NoPlace")) (dCons (dC (.bl (c == "NoPlace"))) (dNil)))) (dCons (dTup (dCons (dC (.str "NoClaim")) (dCons (dC (.bl (c == "NoClaim"))) (dNil)))) (dCons (dTup (dCons (dC (.str "NoText")) (dCons (dC (.bl (c == "NoText"))) (dNil)))) (dCons (dTup (dCons (dC (.str "NoSaying")) (dCons (dC (.bl (c == "NoSaying"))) (dNil)))) (dCons (dTup (dCons (dC (.str "TooMany")) (dCons (dC (.bl (c == "TooMany"))) (dNil)))) (dCons (dTup (dCons (dC (.str "NotKept")) (dCons (dC (.bl (c == "NotKept"))) (dNil)))) (dNil))))))))))))))))))
  (dSeq (dSet false 3 (dComp [4, 5] (dItemsL (dVar 2)) (gTupD 2 (gConsD (gSet 4) (gConsD (gSet 5) (gNilD)))) (dTest (dVar 5)) (dVar 4)))
  (dSeq (dIfS (dAndT (dTest (dOp2 (opEq) (dBlt opLen (dCons (dVar 3) (dNil))) (dC (.int 1)))) (dTest (dC (.bl (true)))))
  (dRet (dOp2 opIx (dVar 3) (dC (.int 0))))
  (dSkip))
  (dRet (dC (.str "several")))))
noncomputable def h_l_refusal_1 : M Flow := dRet (dC (.str "OverNought"))
noncomputable def h_l_refusal_2 : M Flow := dRet (dC (.str "Flat"))
noncomputable def h_l_refusal_3 : M Flow := dRet (dC (.str "NoName"))
noncomputable def b_l_refusal : M Flow := dRet (dC .non)
noncomputable def tr_l_refusal : Ex → Option D := fun e => if e.c = "NoNumber" ∧ e.ks = [] then some (.str "NoNumber") else none
noncomputable def b_l_root_beneath_1 : M Flow := dSet false 2 (dOp2 opMul (dC (.int 2)) (dVar 2))
noncomputable def b_l_root_beneath_2 : M Flow := dSeq (dSet false 3 (dOp2 opDiv (dOp2 opAdd (dVar 1) (dVar 2)) (dC (.int 2))))
  (dIfS (dTest (dOp2 (opLe) (dOp2 opMul (dVar 3) (dVar 3)) (dVar 0)))
  (dSet false 1 (dVar 3))
  (dSet false 2 (dVar 3)))
noncomputable def b_l_root_beneath : M Flow := dSeq (dAsg (dTup (dCons (dC (.int 0)) (dCons (dC (.int 1)) (dNil)))) (gTupD 2 (gConsD (gSet 1) (gConsD (gSet 2) (gNilD)))))
  (dSeq (dWhile (dTest (dOp2 (opLe) (dOp2 opMul (dVar 2) (dVar 2)) (dVar 0)))
  (b_l_root_beneath_1))
  (dSeq (dWhile (dTest (dOp2 (opGt) (dOp2 opSub (dVar 2) (dVar 1)) (dC (.int 1))))
  (b_l_root_beneath_2))
  (dRet (dVar 1))))
noncomputable def n_l_root_beneath : Fn := dFn 1 4 [] b_l_root_beneath
noncomputable def b_is_number : M Flow := dSeq (dIfS (dOrT (dNotT (dTest (dIsi "tuple" (dVar 1)))) (dOrT (dTest (dOp2 (opNe) (dBlt opLen (dCons (dVar 1) (dNil))) (dC (.int 2)))) (dNotT (dTest (dBlt opAll (dCons (dComp [4] (dItems (dVar 1)) (gSet 4) (M.pure true) (dCall n_is_whole (vVal false (dVar 4) (vNil)) [])) (dNil)))))))
  (dRet (dC (.bl false)))
  (dSkip))
  (dSeq (dAsg (dVar 1) (gTupD 2 (gConsD (gSet 2) (gConsD (gSet 3) (gNilD)))))
  (dSeq (dIfS (dTest (dOp2 (opGt) (dVar 0) (dC (.int 0))))
  (dRet (dAndV (dChain (fun i j => decide (i ≤ j)) (fun i j => decide (i < j)) (dC (.int 0)) (dVar 2) (dVar 0)) (dOp2 (opEq) (dVar 3) (dC (.int 1)))))
  (dSkip))
  (dRet (dAndV (dOp2 (opGe) (dVar 3) (dC (.int 1))) (dOp2 (opEq) (dCall n_shared (vVal false (dVar 2) (vVal false (dVar 3) (vNil))) []) (dC (.int 1)))))))
noncomputable def n_is_number : Fn := dFn 2 5 [] b_is_number
noncomputable def b_lowest : M Flow := dSeq (dIfS (dAndT (dTest (dOp2 (opGt) (dVar 0) (dC (.int 0)))) (dTest (dOp2 (opEq) (dVar 2) (dC (.int 1)))))
  (dRet (dTup (dCons (dOp2 opMod (dVar 1) (dVar 0)) (dCons (dC (.int 1)) (dNil)))))
  (dSkip))
  (dSeq (dIfS (dTest (dOp2 (opGt) (dVar 0) (dC (.int 0))))
  (dRet (dTup (dCons (dOp2 opMod (dOp2 opMul (dVar 1) (dCall n_contrary_on (vVal false (dVar 0) (vVal false (dOp2 opMod (dVar 2) (dVar 0)) (vNil))) [])) (dVar 0)) (dCons (dC (.int 1)) (dNil)))))
  (dSkip))
  (dSeq (dSet false 3 (dCall n_shared (vVal false (dVar 1) (vVal false (dVar 2) (vNil))) []))
  (dSeq (dIfS (dTest (dOp2 (opLt) (dVar 2) (dC (.int 0))))
  (dSet false 3 (dOp2 opSub (dC (.int 0)) (dVar 3)))
  (dSkip))
  (dRet (dTup (dCons (dOp2 opDiv (dVar 1) (dVar 3)) (dCons (dOp2 opDiv (dVar 2) (dVar 3)) (dNil))))))))
noncomputable def n_lowest : Fn := dFn 3 4 [] b_lowest
noncomputable def b_root_in : M Flow := dSeq (dIfS (dTest (dOp2 (opGt) (dVar 0) (dC (.int 0))))
  (dSeq (dSet false 2 (dComp [5] (dRng1 (dVar 0)) (gSet 5) (dTest (dOp2 (opEq) (dOp2 opMod (dOp2 opMul (dVar 5) (dVar 5)) (dVar 0)) (dOp2 opIx (dVar 1) (dC (.int 0))))) (dVar 5)))
  (dRet (dIf (dTest (dOp2 (opNe) (dVar 2) (dLst (dNil)))) (dTup (dCons (dBlt opMinL (dCons (dVar 2) (dNil))) (dCons (dC (.int 1)) (dNil)))) (dC .non))))
  (dSkip))
  (dSeq (dIfS (dTest (dOp2 (opLt) (dOp2 opIx (dVar 1) (dC (.int 0))) (dC (.int 0))))
  (dRet (dC .non))
  (dSkip))
  (dSeq (dPar false false 3 4 (dCall n_whole_root (vVal false (dOp2 opIx (dVar 1) (dC (.int 0))) (vNil)) []) (dCall n_whole_root (vVal false (dOp2 opIx (dVar 1) (dC (.int 1))) (vNil)) []))
  (dRet (dIf (dTest (dOp2 (opEq) (dTup (dCons (dOp2 opMul (dVar 3) (dVar 3)) (dCons (dOp2 opMul (dVar 4) (dVar 4)) (dNil)))) (dVar 1))) (dTup (dCons (dVar 3) (dCons (dVar 4) (dNil)))) (dC .non)))))
noncomputable def n_root_in : Fn := dFn 2 6 [] b_root_in
noncomputable def b_l_low_1 : M Flow := dIfS (dTest (dOp2 (opEq) (dOp2 opMod (dOp2 opMul (dVar 3) (dVar 2)) (dVar 0)) (dOp2 opMod (dVar 1) (dVar 0))))
  (dRet (dTup (dCons (dVar 3) (dCons (dC (.int 1)) (dNil)))))
  (dSkip)
noncomputable def b_l_low : M Flow := dSeq (dIfS (dTest (dOp2 (opGt) (dVar 0) (dC (.int 0))))
  (dFor (dRng1 (dVar 0)) (gSet 3)
  (b_l_low_1))
  (dSkip))
  (dSeq (dSet false 4 (dOp2 opMul (dCall n_l_shared (vVal false (dVar 1) (vVal false (dVar 2) (vNil))) []) (dOp2 opIx (dLst (dCons (dC (.int 1)) (dCons (dOp1 opNeg (dC (.int 1))) (dNil)))) (dBlt opInt (dCons (dOp2 (opLt) (dVar 2) (dC (.int 0))) (dNil))))))
  (dRet (dTup (dCons (dOp2 opDiv (dVar 1) (dVar 4)) (dCons (dOp2 opDiv (dVar 2) (dVar 4)) (dNil))))))
noncomputable def n_l_low : Fn := dFn 3 5 [] b_l_low
noncomputable def b_l_is_number : M Flow := dSeq (dIfS (dOrT (dNotT (dTest (dIsi "tuple" (dVar 1)))) (dOrT (dTest (dOp2 (opNe) (dBlt opLen (dCons (dVar 1) (dNil))) (dC (.int 2)))) (dNotT (dTest (dBlt opAll (dCons (dComp [2] (dItems (dVar 1)) (gSet 2) (M.pure true) (dCall n_l_is_whole (vVal false (dVar 2) (vNil)) [])) (dNil)))))))
  (dRet (dC (.bl false)))
  (dSkip))
  (dSeq (dIfS (dTest (dOp2 (opGt) (dVar 0) (dC (.int 0))))
  (dRet (dAndV (dChain (fun i j => decide (i ≤ j)) (fun i j => decide (i < j)) (dC (.int 0)) (dOp2 opIx (dVar 1) (dC (.int 0))) (dVar 0)) (dOp2 (opEq) (dOp2 opIx (dVar 1) (dC (.int 1))) (dC (.int 1)))))
  (dSkip))
  (dRet (dAndV (dOp2 (opGt) (dOp2 opIx (dVar 1) (dC (.int 1))) (dC (.int 0))) (dOp2 (opEq) (dCall n_l_shared (vVal false (dOp2 opIx (dVar 1) (dC (.int 0))) (vVal false (dOp2 opIx (dVar 1) (dC (.int 1))) (vNil))) []) (dC (.int 1))))))
noncomputable def n_l_is_number : Fn := dFn 2 3 [] b_l_is_number
noncomputable def b_l_ground : M Flow := dRet (dOp2 opIx (dLst (dCons (dC (.int 0)) (dCons (dC (.int 0)) (dCons (dC (.int 0)) (dCons (dC (.int 0)) (dCons (dC (.int 3)) (dCons (dC (.int 3)) (dCons (dC (.int 5)) (dCons (dOp2 opIx (dLst (dCons (dC (.int 7)) (dCons (dC (.int 11)) (dCons (dC (.int 13)) (dNil))))) (dCall n_l_take (vRef 0 (vVal false (dC (.int 3)) (vNil))) [])) (dNil)))))))))) (dCall n_l_take (vRef 0 (vVal false (dC (.int 8)) (vNil))) []))
noncomputable def n_l_ground : Fn := dFn 1 1 [0] b_l_ground
noncomputable def b_l_odd : M Flow := dSeq (dSet false 1 (dLst (dCons (dC .non) (dCons (dC (.bl true)) (dCons (dC (.bl false)) (dCons (dC (.str "1")) (dCons (dC (.str "")) (dCons (dOp1 opNeg (dC (.int 1))) (dCons (dC (.int 0)) (dCons (dC (.int 1)) (dCons (dOp2 opPow (dC (.int 10)) (dC (.int 59))) (dCons (dTup (dNil)) (dCons (dLst (dNil)) (dCons (dLst (dCons (dC (.int 0)) (dNil))) (dCons (dTup (dCons (dC (.int 0)) (dCons (dC (.int 0)) (dNil)))) (dCons (dTup (dCons (dC (.int 1)) (dCons (dC (.int 0)) (dNil)))) (dCons (dTup (dCons (dC (.int 2)) (dCons (dC (.int 2)) (dNil)))) (dCons (dTup (dCons (dC (.bl true)) (dCons (dC (.int 1)) (dNil)))) (dCons (dTup (dCons (dC (.int 1)) (dCons (dOp1 opNeg (dC (.int 1))) (dNil)))) (dCons (dTup (dCons (dC (.int 1)) (dNil))) (dCons (dLst (dCons (dC (.int 1)) (dCons (dC (.int 1)) (dNil)))) (dCons (dTup (dCons (dC (.int 1)) (dCons (dC (.int 1)) (dCons (dC (.int 1)) (dNil))))) (dNil)))))))))))))))))))))))
  (dRet (dOp2 opIx (dVar 1) (dCall n_l_take (vRef 0 (vVal false (dC (.int 20)) (vNil))) [])))
noncomputable def n_l_odd : Fn := dFn 1 2 [0] b_l_odd
noncomputable def b_l_is_square : M Flow := dSeq (dIfS (dTest (dOp2 (opGt) (dVar 0) (dC (.int 0))))
  (dRet (dBlt opAny (dCons (dComp [2] (dRng1 (dVar 0)) (gSet 2) (M.pure true) (dOp2 (opEq) (dOp2 opMod (dOp2 opMul (dVar 2) (dVar 2)) (dVar 0)) (dOp2 opIx (dVar 1) (dC (.int 0))))) (dNil))))
  (dSkip))
  (dRet (dAndV (dOp2 (opGe) (dOp2 opIx (dVar 1) (dC (.int 0))) (dC (.int 0))) (dBlt opAll (dCons (dComp [2] (dItems (dVar 1)) (gSet 2) (M.pure true) (dOp2 (opEq) (dOp2 opPow (dCall n_l_root_beneath (vVal false (dVar 2) (vNil)) []) (dC (.int 2))) (dVar 2))) (dNil)))))
noncomputable def n_l_is_square : Fn := dFn 2 3 [] b_l_is_square
noncomputable def b_times : M Flow := dRet (dCall n_lowest (vVal false (dVar 0) (vVal false (dOp2 opMul (dOp2 opIx (dVar 1) (dC (.int 0))) (dOp2 opIx (dVar 2) (dC (.int 0)))) (vVal false (dOp2 opMul (dOp2 opIx (dVar 1) (dC (.int 1))) (dOp2 opIx (dVar 2) (dC (.int 1)))) (vNil)))) [])
noncomputable def n_times : Fn := dFn 3 3 [] b_times
noncomputable def b_is_square : M Flow := dRet (dOp2 (opNotN) (dCall n_root_in (vVal false (dVar 0) (vVal false (dVar 1) (vNil))) []) (dC .non))
noncomputable def n_is_square : Fn := dFn 2 2 [] b_is_square
noncomputable def b_look_class : M Flow := dIfS (dOrT (dNotT (dTest (dCall (noX n_is_number) (vVal false (dVar 0) (vVal false (dVar 1) (vNil))) []))) (dTest (dOp2 (opEq) (dVar 1) (dC c_NOUGHT))))
  (dRaise "NoNumber")
  (dSkip)
noncomputable def n_look_class : Fn := dFn 2 2 [] b_look_class
noncomputable def b_l_plus : M Flow := dRet (dCall n_l_low (vVal false (dVar 0) (vVal false (dOp2 opAdd (dOp2 opMul (dOp2 opIx (dVar 1) (dC (.int 0))) (dOp2 opIx (dVar 2) (dC (.int 1)))) (dOp2 opMul (dOp2 opIx (dVar 2) (dC (.int 0))) (dOp2 opIx (dVar 1) (dC (.int 1))))) (vVal false (dOp2 opMul (dOp2 opIx (dVar 1) (dC (.int 1))) (dOp2 opIx (dVar 2) (dC (.int 1)))) (vNil)))) [])
noncomputable def n_l_plus : Fn := dFn 3 3 [] b_l_plus
noncomputable def b_l_times : M Flow := dRet (dCall n_l_low (vVal false (dVar 0) (vVal false (dOp2 opMul (dOp2 opIx (dVar 1) (dC (.int 0))) (dOp2 opIx (dVar 2) (dC (.int 0)))) (vVal false (dOp2 opMul (dOp2 opIx (dVar 1) (dC (.int 1))) (dOp2 opIx (dVar 2) (dC (.int 1)))) (vNil)))) [])
noncomputable def n_l_times : Fn := dFn 3 3 [] b_l_times
noncomputable def b_l_minus : M Flow := dRet (dCall n_l_low (vVal false (dVar 0) (vVal false (dOp2 opSub (dC (.int 0)) (dOp2 opIx (dVar 1) (dC (.int 0)))) (vVal false (dOp2 opIx (dVar 1) (dC (.int 1))) (vNil)))) [])
noncomputable def n_l_minus : Fn := dFn 2 2 [] b_l_minus
noncomputable def b_l_number : M Flow := dSeq (dIfS (dTest (dOp2 (opGt) (dVar 1) (dC (.int 0))))
  (dRet (dTup (dCons (dCall n_l_take (vRef 0 (vVal false (dVar 1) (vNil))) []) (dCons (dC (.int 1)) (dNil)))))
  (dSkip))
  (dSeq (dSet false 2 (dOp2 opIx (dLst (dCons (dC (.int 3)) (dCons (dC (.int 5)) (dCons (dC (.int 5)) (dCons (dC (.int 9)) (dCons (dC (.int 19)) (dCons (dC (.int 99)) (dNil)))))))) (dCall n_l_take (vRef 0 (vVal false (dC (.int 6)) (vNil))) [])))
  (dSeq (dSet false 3 (dOp2 opIx (dLst (dCons (dC (.int 1)) (dCons (dC (.int 1)) (dCons (dC (.int 1)) (dCons (dOp2 opAdd (dC (.int 2)) (dCall n_l_take (vRef 0 (vVal false (dC (.int 8)) (vNil))) [])) (dNil)))))) (dCall n_l_take (vRef 0 (vVal false (dC (.int 4)) (vNil))) [])))
  (dRet (dCall n_l_low (vVal false (dC (.int 0)) (vVal false (dOp2 opSub (dCall n_l_take (vRef 0 (vVal false (dVar 2) (vNil))) []) (dOp2 opDiv (dVar 2) (dC (.int 2)))) (vVal false (dVar 3) (vNil)))) []))))
noncomputable def n_l_number : Fn := dFn 2 4 [0] b_l_number
noncomputable def b_are_alike : M Flow := dSeq (dExpr (dCall n_look_class (vVal false (dVar 0) (vVal false (dVar 1) (vNil))) []))
  (dSeq (dExpr (dCall n_look_class (vVal false (dVar 0) (vVal false (dVar 2) (vNil))) []))
  (dRet (dCall (noX n_is_square) (vVal false (dVar 0) (vVal false (dCall (noX n_times) (vVal false (dVar 0) (vVal false (dVar 1) (vVal false (dVar 2) (vNil)))) []) (vNil))) [])))
noncomputable def n_are_alike : Fn := dFn 3 3 [] b_are_alike
noncomputable def b_l_other_than_nought : M Flow := dSeq (dSet false 2 (dCall n_l_number (vRef 0 (vVal false (dVar 1) (vNil))) []))
  (dRet (dOp2 opIx (dLst (dCons (dVar 2) (dCons (dTup (dCons (dC (.int 1)) (dCons (dC (.int 1)) (dNil)))) (dNil)))) (dBlt opInt (dCons (dOp2 (opEq) (dVar 2) (dTup (dCons (dC (.int 0)) (dCons (dC (.int 1)) (dNil))))) (dNil)))))
noncomputable def n_l_other_than_nought : Fn := dFn 2 3 [0] b_l_other_than_nought
noncomputable def b_l_great_1 : M Flow := dSet false 2 (dCall n_l_times (vVal false (dVar 1) (vVal false (dVar 2) (vVal false (dCall n_l_other_than_nought (vRef 0 (vVal false (dVar 1) (vNil))) []) (vNil)))) [])
noncomputable def b_l_great : M Flow := dSeq (dSet false 2 (dCall n_l_other_than_nought (vRef 0 (vVal false (dVar 1) (vNil))) []))
  (dSeq (dFor (dRng1 (dCall n_l_take (vRef 0 (vVal false (dC (.int 12)) (vNil))) [])) (gSet 3)
  (b_l_great_1))
  (dRet (dVar 2)))
noncomputable def n_l_great : Fn := dFn 2 4 [0] b_l_great
noncomputable def b_l_is_told : M Flow := dSeq (dSet false 3 (dCall n_l_is_square (vVal false (dVar 0) (vVal false (dCall n_l_times (vVal false (dVar 0) (vVal false (dVar 1) (vVal false (dVar 2) (vNil)))) []) (vNil))) []))
  (dSeq (dSet false 4 (dLst (dCons (dCall n_are_alike (vVal false (dVar 0) (vVal false (dVar 1) (vVal false (dVar 2) (vNil)))) []) (dCons (dCall n_are_alike (vVal false (dVar 0) (vVal false (dVar 2) (vVal false (dVar 1) (vNil)))) []) (dNil)))))
  (dRet (dAndV (dOp2 (opEq) (dVar 4) (dLst (dCons (dVar 3) (dCons (dVar 3) (dNil))))) (dBlt opAll (dCons (dComp [5] (dItems (dVar 4)) (gSet 5) (M.pure true) (dIsi "bool" (dVar 5))) (dNil))))))
noncomputable def n_l_is_told : Fn := dFn 3 6 [] b_l_is_told
noncomputable def b_law_1 : M Flow := dSeq (dSet false 11 (dIf (dAndT (dTest (dCall n_l_is_number (vVal false (dVar 3) (vVal false (dVar 10) (vNil))) [])) (dTest (dOp2 (opNe) (dVar 10) (dTup (dCons (dC (.int 0)) (dCons (dC (.int 1)) (dNil))))))) (dC .non) (dC (.str "NoNumber"))))
  (dSeq (dIfS (dTest (dOp2 (opNe) (dLam tr_l_refusal (.non) (dCall n_are_alike (vVal false (dVar 3) (vVal false (dVar 4) (vVal false (dVar 10) (vNil)))) [])) (dVar 11)))
  (dRet (dC (.bl false)))
  (dSkip))
  (dIfS (dTest (dOp2 (opNe) (dLam tr_l_refusal (.non) (dCall n_are_alike (vVal false (dVar 3) (vVal false (dVar 10) (vVal false (dVar 4) (vNil)))) [])) (dVar 11)))
  (dRet (dC (.bl false)))
  (dSkip)))
noncomputable def b_law_2 : M Flow := dSeq (dSet true 2 (dCall n_l_bag (vVal false (dVar 0) (vVal false (dVar 1) (vNil))) []))
  (dSeq (dSet false 3 (dCall n_l_ground (vRef 2 (vNil)) []))
  (dSeq (dAsg (dTup (dCons (dCall n_l_great (vRef 2 (vVal false (dVar 3) (vNil))) []) (dCons (dCall n_l_great (vRef 2 (vVal false (dVar 3) (vNil))) []) (dNil)))) (gTupD 2 (gConsD (gSet 4) (gConsD (gSet 5) (gNilD)))))
  (dSeq (dIfS (dTest (dOp2 (opEq) (dCall n_l_take (vRef 2 (vVal false (dC (.int 4)) (vNil))) []) (dC (.int 0))))
  (dSeq (dSet false 6 (dOp2 opAdd (dOp2 opAdd (dOp2 opMul (dOp2 opMul (dOp2 opPow (dC (.int 10)) (dC (.int 60))) (dOp2 opPow (dC (.int 10)) (dC (.int 60)))) (dOp2 opPow (dC (.int 10)) (dC (.int 20)))) (dC (.int 7))) (dOp2 opMul (dC (.int 2)) (dCall n_l_take (vRef 2 (vVal false (dC (.int 9)) (vNil))) []))))
  (dSet false 5 (dCall n_l_low (vVal false (dVar 3) (vVal false (dVar 6) (vVal false (dOp2 opIx (dLst (dCons (dOp2 opAdd (dC (.int 1)) (dCall n_l_take (vRef 2 (vVal false (dC (.int 5)) (vNil))) [])) (dCons (dC (.int 1)) (dNil)))) (dBlt opInt (dCons (dOp2 (opGt) (dVar 3) (dC (.int 0))) (dNil)))) (vNil)))) [])))
  (dSkip))
  (dSeq (dSet false 5 (dOp2 opIx (dLst (dCons (dVar 5) (dCons (dTup (dCons (dC (.int 1)) (dCons (dC (.int 1)) (dNil)))) (dNil)))) (dBlt opInt (dCons (dOp2 (opEq) (dVar 5) (dTup (dCons (dC (.int 0)) (dCons (dC (.int 1)) (dNil))))) (dNil)))))
  (dSeq (dSet false 7 (dCall n_l_times (vVal false (dVar 3) (vVal false (dVar 5) (vVal false (dVar 5) (vNil)))) []))
  (dSeq (dSet false 8 (dCall n_l_plus (vVal false (dVar 3) (vVal false (dVar 7) (vVal false (dCall n_l_low (vVal false (dVar 3) (vVal false (dC (.int 1)) (vVal false (dC (.int 1)) (vNil)))) []) (vNil)))) []))
  (dSeq (dSet false 9 (dLst (dCons (dVar 4) (dCons (dVar 5) (dCons (dVar 7) (dCons (dCall n_l_times (vVal false (dVar 3) (vVal false (dVar 4) (vVal false (dVar 7) (vNil)))) []) (dCons (dCall n_l_times (vVal false (dVar 3) (vVal false (dVar 4) (vVal false (dVar 5) (vNil)))) []) (dCons (dCall n_l_minus (vVal false (dVar 3) (vVal false (dVar 4) (vNil))) []) (dNil)))))))))
  (dSeq (dSet false 9 (dOp2 opAdd (dVar 9) (dOp2 opMul (dLst (dCons (dVar 8) (dNil))) (dBlt opInt (dCons (dOp2 (opNe) (dVar 8) (dTup (dCons (dC (.int 0)) (dCons (dC (.int 1)) (dNil))))) (dNil))))))
  (dSeq (dIfS (dNotT (dTest (dBlt opAll (dCons (dComp [12] (dItems (dVar 9)) (gSet 12) (M.pure true) (dAndV (dCall n_l_is_told (vVal false (dVar 3) (vVal false (dVar 4) (vVal false (dVar 12) (vNil)))) []) (dCall n_l_is_told (vVal false (dVar 3) (vVal false (dVar 5) (vVal false (dVar 12) (vNil)))) []))) (dNil)))))
  (dRet (dC (.bl false)))
  (dSkip))
  (dSeq (dIfS (dOrT (dNotT (dTest (dCall n_are_alike (vVal false (dVar 3) (vVal false (dVar 4) (vVal false (dCall n_l_times (vVal false (dVar 3) (vVal false (dVar 4) (vVal false (dVar 7) (vNil)))) []) (vNil)))) []))) (dNotT (dTest (dCall n_are_alike (vVal false (dVar 3) (vVal false (dVar 7) (vVal false (dTup (dCons (dC (.int 1)) (dCons (dC (.int 1)) (dNil)))) (vNil)))) []))))
  (dRet (dC (.bl false)))
  (dSkip))
  (dFor (dItems (dLst (dCons (dTup (dCons (dC (.int 0)) (dCons (dC (.int 1)) (dNil)))) (dCons (dCall n_l_odd (vRef 2 (vNil)) []) (dCons (dCall n_l_odd (vRef 2 (vNil)) []) (dCons (dLst (dCons (dC (.int 1)) (dCons (dC (.int 1)) (dNil)))) (dCons (dTup (dCons (dOp2 opAdd (dVar 3) (dC (.int 1))) (dCons (dC (.int 1)) (dNil)))) (dCons (dTup (dCons (dC (.int 1)) (dCons (dC (.int 2)) (dNil)))) (dNil))))))))) (gSet 10)
  (b_law_1))))))))))))
noncomputable def b_law_3 : M Flow := dIfS (dNotT (dTest (dBlt opAll (dCons (dComp [13, 14] (dItems (dLst (dCons (dTup (dCons (dC (.int 1)) (dCons (dC (.int 2)) (dNil)))) (dCons (dTup (dCons (dC (.int 2)) (dCons (dC (.int 1)) (dNil)))) (dCons (dTup (dCons (dC (.int 2)) (dCons (dC (.int 2)) (dNil)))) (dCons (dTup (dCons (dC (.int 1)) (dCons (dC (.int 1)) (dNil)))) (dNil))))))) (gTupD 2 (gConsD (gSet 13) (gConsD (gSet 14) (gNilD)))) (M.pure true) (dCall n_l_is_told (vVal false (dVar 3) (vVal false (dTup (dCons (dVar 13) (dCons (dC (.int 1)) (dNil)))) (vVal false (dTup (dCons (dVar 14) (dCons (dC (.int 1)) (dNil)))) (vNil)))) [])) (dNil)))))
  (dRet (dC (.bl false)))
  (dSkip)
noncomputable def b_law : M Flow := dSeq (dFor (dRng1 (dBlt opMax (dCons (dC (.int 2)) (dCons (dBlt opMin (dCons (dC (.int 6)) (dCons (dBlt opLen (dCons (dVar 0) (dNil))) (dNil)))) (dNil))))) (gSet 1)
  (b_law_2))
  (dSeq (dFor (dItems (dLst (dCons (dC (.int 0)) (dCons (dC (.int 3)) (dCons (dC (.int 5)) (dCons (dC (.int 7)) (dCons (dC (.int 11)) (dCons (dC (.int 13)) (dCons (dC (.int 7)) (dCons (dC (.int 5)) (dCons (dC (.int 0)) (dCons (dC (.int 3)) (dNil))))))))))))) (gSet 3)
  (b_law_3))
  (dRet (dC (.bl true))))
noncomputable def n_law : Fn := dFn 1 15 [] b_law
end DD.K33

namespace DD.K33
open PySem PySem.Spec L2
open PyProof.Rows hiding St
structure Facts (K : PySem.W.Frag) (mg : Str → Option Value) : Prop where
  b_abs : mg "abs" = none
  b_all : mg "all" = none
  b_any : mg "any" = none
  b_bool : mg "bool" = none
  b_int : mg "int" = none
  b_isinstance : mg "isinstance" = none
  b_len : mg "len" = none
  b_max : mg "max" = none
  b_min : mg "min" = none
  b_range : mg "range" = none
  b_tuple : mg "tuple" = none
  g_NOUGHT : Glob K mg "NOUGHT" c_NOUGHT
  r_NoNumber : ExCls K mg "NoNumber"
structure XF (K : PySem.W.Frag) (mg : Str → Option Value) : Prop where
  h_MirrorError : ∃ M, mg "MirrorError" = some (.ref M)
  h_OverNought : ∃ M, mg "OverNought" = some (.ref M)
  h_Flat : ∃ M, mg "Flat" = some (.ref M)
  h_NoName : ∃ M, mg "NoName" = some (.ref M)
  c_NoNumber : ∃ Dc, mg "NoNumber" = some (.ref Dc) ∧ ExcC K Dc
  x_NoNumber_MirrorError : ∀ Dc M, mg "NoNumber" = some (.ref Dc) → mg "MirrorError" = some (.ref M) → PySem.W.exmOne K (.ref Dc) (.ref M) = some true
  x_NoNumber_OverNought : ∀ Dc M, mg "NoNumber" = some (.ref Dc) → mg "OverNought" = some (.ref M) → PySem.W.exmOne K (.ref Dc) (.ref M) = some false
  x_NoNumber_Flat : ∀ Dc M, mg "NoNumber" = some (.ref Dc) → mg "Flat" = some (.ref M) → PySem.W.exmOne K (.ref Dc) (.ref M) = some false
  x_NoNumber_NoName : ∀ Dc M, mg "NoNumber" = some (.ref Dc) → mg "NoName" = some (.ref M) → PySem.W.exmOne K (.ref Dc) (.ref M) = some false
  i_NotKept : ∀ c ∈ (["NoNumber"] : List Str), ∀ Dc, mg c = some (.ref Dc) → IsT K mg Dc "NotKept" (c == "NotKept")
  i_TooMany : ∀ c ∈ (["NoNumber"] : List Str), ∀ Dc, mg c = some (.ref Dc) → IsT K mg Dc "TooMany" (c == "TooMany")
  i_NoSaying : ∀ c ∈ (["NoNumber"] : List Str), ∀ Dc, mg c = some (.ref Dc) → IsT K mg Dc "NoSaying" (c == "NoSaying")
  i_NoText : ∀ c ∈ (["NoNumber"] : List Str), ∀ Dc, mg c = some (.ref Dc) → IsT K mg Dc "NoText" (c == "NoText")
  i_NoClaim : ∀ c ∈ (["NoNumber"] : List Str), ∀ Dc, mg c = some (.ref Dc) → IsT K mg Dc "NoClaim" (c == "NoClaim")
  i_NoPlace : ∀ c ∈ (["NoNumber"] : List Str), ∀ Dc, mg c = some (.ref Dc) → IsT K mg Dc "NoPlace" (c == "NoPlace")
  i_NoFour : ∀ c ∈ (["NoNumber"] : List Str), ∀ Dc, mg c = some (.ref Dc) → IsT K mg Dc "NoFour" (c == "NoFour")
  i_NoSeat : ∀ c ∈ (["NoNumber"] : List Str), ∀ Dc, mg c = some (.ref Dc) → IsT K mg Dc "NoSeat" (c == "NoSeat")
  i_NoWorth : ∀ c ∈ (["NoNumber"] : List Str), ∀ Dc, mg c = some (.ref Dc) → IsT K mg Dc "NoWorth" (c == "NoWorth")
  i_NoKeeper : ∀ c ∈ (["NoNumber"] : List Str), ∀ Dc, mg c = some (.ref Dc) → IsT K mg Dc "NoKeeper" (c == "NoKeeper")
  i_NoForm : ∀ c ∈ (["NoNumber"] : List Str), ∀ Dc, mg c = some (.ref Dc) → IsT K mg Dc "NoForm" (c == "NoForm")
  i_NoTable : ∀ c ∈ (["NoNumber"] : List Str), ∀ Dc, mg c = some (.ref Dc) → IsT K mg Dc "NoTable" (c == "NoTable")
  i_NoRow : ∀ c ∈ (["NoNumber"] : List Str), ∀ Dc, mg c = some (.ref Dc) → IsT K mg Dc "NoRow" (c == "NoRow")
  i_NoNumber : ∀ c ∈ (["NoNumber"] : List Str), ∀ Dc, mg c = some (.ref Dc) → IsT K mg Dc "NoNumber" (true)
  i_NoGround : ∀ c ∈ (["NoNumber"] : List Str), ∀ Dc, mg c = some (.ref Dc) → IsT K mg Dc "NoGround" (c == "NoGround")
  i_ValueError : ∀ c ∈ (["NoNumber"] : List Str), ∀ Dc, mg c = some (.ref Dc) → IsT K mg Dc "ValueError" (true)
section
variable {P : Program} {w : World} {K : PySem.W.Frag} {mg : Str → Option Value} {base : Heap}
theorem ok_is_whole (H : Facts K mg) (h : Def0 K mg "is_whole" s_is_whole ["thing"])  : CalD P w K mg base 1 "is_whole" n_is_whole [] :=
  cal_def h sc_is_whole rfl rfl rfl fun f cdv A outer s H0 E hr =>
(dss_one (ds_ret (de_and (de_isi (T := "int") rfl (by rfl) H.b_isinstance (xv 0) (by rfl) H.b_int (by decide +kernel) (by decide +kernel)) (de_one (de_not (de_isi (T := "bool") rfl (by rfl) H.b_isinstance (xv 0) (by rfl) H.b_bool (by decide +kernel) (by decide +kernel)))))))
theorem ok_shared (H : Facts K mg) (h : Def0 K mg "shared" s_shared ["one", "other"])  : CalD P w K mg base 1 "shared" n_shared [] :=
  cal_def h sc_shared rfl rfl rfl fun f cdv A outer s H0 E hr =>
(dss_cons (ds_par (i := 0) (j := 1) false false rfl sc_shared.nd rfl rfl (by exact of_decide_eq_true rfl) (by exact of_decide_eq_true rfl) rfl rfl (de_callB call_abs on_abs (by rfl) H.b_abs (by decide +kernel) (da_cons (xv 0) da_nil)) (de_callB call_abs on_abs (by rfl) H.b_abs (by decide +kernel) (da_cons (xv 1) da_nil)) (by exact of_decide_eq_true rfl) (by rfl))
  (dss_cons (ds_while PassesOwn.never (dt_cmp op_gt o2_gt (xv 1) de_int (nomark _))
  (dss_one (ds_par (i := 0) (j := 1) false false rfl sc_shared.nd rfl rfl (by exact of_decide_eq_true rfl) (by exact of_decide_eq_true rfl) rfl rfl (xv 1) (de_op2 op_modN o2_mod (xv 0) (xv 1)) (by exact of_decide_eq_true rfl) (by rfl))))
  (dss_one (ds_ret (xv 0)))))
theorem ok_contrary_on (H : Facts K mg) (h : Def0 K mg "contrary_on" s_contrary_on ["wheel", "rest"])  : CalD P w K mg base 1 "contrary_on" n_contrary_on [] :=
  cal_def h sc_contrary_on rfl rfl rfl fun f cdv A outer s H0 E hr =>
(dss_one (ds_ret (de_ix (de_comp (own := [("one", 2)]) (by exact of_decide_eq_true rfl) (by exact of_decide_eq_true rfl) rfl sc_contrary_on.nd (di_rng1 (by rfl) H.b_range (xv 0)) (blkOk_by (by kernel_rfl)) (fun _ _ _ _ _ => (dg_name (i := 2) (by exact of_decide_eq_true rfl) sc_contrary_on.nd rfl (by first | exact Or.inl rfl | exact Or.inr rfl) (by exact of_decide_eq_true rfl))) (fun _ _ _ _ _ => (dts_one (dt_cmp (op_eqD hr.units) o2_eq (de_op2 op_modN o2_mod (de_op2 or_mulA o2_mul (xv 2) (xv 1)) (xv 0)) de_int (nomark _)))) (fun _ _ _ _ _ => (xv 2))) de_int rfl (fun _ _ => rfl))))
theorem ok_whole_root (H : Facts K mg) (h : Def0 K mg "whole_root" s_whole_root ["square"])  : CalD P w K mg base 1 "whole_root" n_whole_root [] :=
  cal_def h sc_whole_root rfl rfl rfl fun f cdv A outer s H0 E hr =>
(dss_cons (ds_asg (sl := [1, 2]) (de_tup (da_cons de_int (da_cons de_int da_nil))) (dg_tup rfl rfl (dgs_cons (dg_name (i := 1) (by exact of_decide_eq_true rfl) sc_whole_root.nd rfl (by first | exact Or.inl rfl | exact Or.inr rfl) (by exact of_decide_eq_true rfl)) (dgs_cons (dg_name (i := 2) (by exact of_decide_eq_true rfl) sc_whole_root.nd rfl (by first | exact Or.inl rfl | exact Or.inr rfl) (by exact of_decide_eq_true rfl)) dgs_nil))))
  (dss_cons (ds_while PassesOwn.never (dt_cmp op_le o2_le (de_op2 or_mulA o2_mul (xv 2) (xv 2)) (xv 0) (nomark _))
  (dss_one (ds_aug (i := 2) ip_mulC sc_whole_root.nd rfl (by first | exact Or.inl rfl | exact Or.inr rfl) (by exact of_decide_eq_true rfl) de_int)))
  (dss_cons (ds_while PassesOwn.never (dt_cmp op_gt o2_gt (de_op2 op_sub o2_sub (xv 2) (xv 1)) de_int (nomark _))
  (dss_cons (ds_set (i := 3) false sc_whole_root.nd rfl (by first | exact Or.inl rfl | exact Or.inr rfl) (by exact of_decide_eq_true rfl) (de_op2 or_div o2_div (de_op2 or_add o2_add (xv 1) (xv 2)) de_int))
  (dss_one (ds_if (dt_cmp op_le o2_le (de_op2 or_mulA o2_mul (xv 3) (xv 3)) (xv 0) (nomark _))
  (dss_one (ds_set (i := 1) false sc_whole_root.nd rfl (by first | exact Or.inl rfl | exact Or.inr rfl) (by exact of_decide_eq_true rfl) (xv 3)))
  (dss_one (ds_set (i := 2) false sc_whole_root.nd rfl (by first | exact Or.inl rfl | exact Or.inr rfl) (by exact of_decide_eq_true rfl) (xv 3)))))))
  (dss_one (ds_ret (xv 1))))))
theorem ok_l_bag (H : Facts K mg) (h : Def0 K mg "_law_bag" s_l_bag ["_law_script", "_law_at"])  : CalD P w K mg base 1 "_law_bag" n_l_bag [] :=
  cal_def h sc_l_bag rfl rfl rfl fun f cdv A outer s H0 E hr =>
(dss_cons (ds_set (i := 2) false sc_l_bag.nd rfl (by first | exact Or.inl rfl | exact Or.inr rfl) (by exact of_decide_eq_true rfl) de_int)
  (dss_cons (ds_if (dt_cmp op_lt o2_lt (xv 1) (de_callB cl_len on_len (by rfl) H.b_len PySem.boot_len (da_cons (xv 0) da_nil)) (nomark _))
  (dss_one (ds_set (i := 2) false sc_l_bag.nd rfl (by first | exact Or.inl rfl | exact Or.inr rfl) (by exact of_decide_eq_true rfl) (de_ix (xv 0) (xv 1) rfl (fun _ _ => rfl))))
  dss_nil)
  (dss_cons (ds_set (i := 3) false sc_l_bag.nd rfl (by first | exact Or.inl rfl | exact Or.inr rfl) (by exact of_decide_eq_true rfl) de_int)
  (dss_cons (ds_if (dt_cmp op_ge o2_ge (de_callB call_abs on_abs (by rfl) H.b_abs (by decide +kernel) (da_cons (xv 2) da_nil)) (de_op2 op_powB o2_pow de_int de_int) (nomark _))
  (dss_one (ds_set (i := 3) false sc_l_bag.nd rfl (by first | exact Or.inl rfl | exact Or.inr rfl) (by exact of_decide_eq_true rfl) (de_callB call_abs on_abs (by rfl) H.b_abs (by decide +kernel) (da_cons (xv 2) da_nil))))
  dss_nil)
  (dss_cons (ds_set (i := 4) false sc_l_bag.nd rfl (by first | exact Or.inl rfl | exact Or.inr rfl) (by exact of_decide_eq_true rfl) (de_lst (da_cons de_int (da_cons de_int (da_cons de_int (da_cons de_int (da_cons de_int (da_cons de_int (da_cons de_int (da_cons de_int da_nil))))))))))
  (dss_cons (ds_set (i := 5) false sc_l_bag.nd rfl (by first | exact Or.inl rfl | exact Or.inr rfl) (by exact of_decide_eq_true rfl) (de_op2 or_add o2_add (de_op2 or_add o2_add (de_op2 or_add o2_add (de_op2 or_mulA o2_mul (de_op2 op_modN o2_mod (xv 2) de_int) de_int) (de_op2 or_mulA o2_mul (de_op2 or_mulA o2_mul de_int (xv 1)) (xv 1))) (de_op2 or_mulA o2_mul de_int (xv 1))) de_int))
  (dss_one (ds_ret (de_lst (da_cons (xv 3) (da_cons (de_op2 op_modN o2_mod (xv 5) (de_ix (xv 4) (de_op2 op_modN o2_mod (xv 1) de_int) rfl (fun _ _ => rfl))) da_nil)))))))))))
theorem ok_l_take (H : Facts K mg) (h : Def0 K mg "_law_take" s_l_take ["_law_bag_here", "_law_many"])  : CalD P w K mg base 1 "_law_take" n_l_take [] :=
  cal_def h sc_l_take rfl rfl rfl fun f cdv A outer s H0 E hr =>
(dss_cons (ds_if (dt_cmp op_gt o2_gt (de_ixOwn (i := 0) rfl rfl (by first | exact Or.inl rfl | exact Or.inr (Or.inl rfl) | exact Or.inr (Or.inr rfl)) de_int (fun _ _ => rfl)) de_int (nomark _))
  (dss_cons (ds_set (i := 2) false sc_l_take.nd rfl (by first | exact Or.inl rfl | exact Or.inr rfl) (by exact of_decide_eq_true rfl) (de_op2 op_modN o2_mod (de_ixOwn (i := 0) rfl rfl (by first | exact Or.inl rfl | exact Or.inr (Or.inl rfl) | exact Or.inr (Or.inr rfl)) de_int (fun _ _ => rfl)) (xv 1)))
  (dss_cons (ds_setitem (i := 0) false rfl (by first | exact Or.inl rfl | exact Or.inr (Or.inl rfl) | exact Or.inr (Or.inr rfl)) (de_op2 or_div o2_div (de_ixOwn (i := 0) rfl rfl (by first | exact Or.inl rfl | exact Or.inr (Or.inl rfl) | exact Or.inr (Or.inr rfl)) de_int (fun _ _ => rfl)) (xv 1)) de_int)
  (dss_one (ds_ret (xv 2)))))
  dss_nil)
  (dss_cons (ds_setitem (i := 0) false rfl (by first | exact Or.inl rfl | exact Or.inr (Or.inl rfl) | exact Or.inr (Or.inr rfl)) (de_op2 op_modN o2_mod (de_op2 or_add o2_add (de_op2 or_mulA o2_mul (de_ixOwn (i := 0) rfl rfl (by first | exact Or.inl rfl | exact Or.inr (Or.inl rfl) | exact Or.inr (Or.inr rfl)) de_int (fun _ _ => rfl)) de_int) de_int) de_int) de_int)
  (dss_one (ds_ret (de_op2 op_modN o2_mod (de_op2 or_div o2_div (de_op2 op_modN o2_mod (de_op2 op_powB o2_pow (de_ixOwn (i := 0) rfl rfl (by first | exact Or.inl rfl | exact Or.inr (Or.inl rfl) | exact Or.inr (Or.inr rfl)) de_int (fun _ _ => rfl)) de_int) de_int) de_int) (xv 1))))))
theorem ok_l_is_whole (H : Facts K mg) (h : Def0 K mg "_law_is_whole" s_l_is_whole ["_law_thing"])  : CalD P w K mg base 1 "_law_is_whole" n_l_is_whole [] :=
  cal_def h sc_l_is_whole rfl rfl rfl fun f cdv A outer s H0 E hr =>
(dss_one (ds_ret (de_and (de_isi (T := "int") rfl (by rfl) H.b_isinstance (xv 0) (by rfl) H.b_int (by decide +kernel) (by decide +kernel)) (de_one (de_not (de_isi (T := "bool") rfl (by rfl) H.b_isinstance (xv 0) (by rfl) H.b_bool (by decide +kernel) (by decide +kernel)))))))
theorem ok_l_shared (H : Facts K mg) (h : Def0 K mg "_law_shared" s_l_shared ["_law_one", "_law_other"])  : CalD P w K mg base 1 "_law_shared" n_l_shared [] :=
  cal_def h sc_l_shared rfl rfl rfl fun f cdv A outer s H0 E hr =>
(dss_cons (ds_par (i := 0) (j := 1) false false rfl sc_l_shared.nd rfl rfl (by exact of_decide_eq_true rfl) (by exact of_decide_eq_true rfl) rfl rfl (de_callB call_abs on_abs (by rfl) H.b_abs (by decide +kernel) (da_cons (xv 0) da_nil)) (de_callB call_abs on_abs (by rfl) H.b_abs (by decide +kernel) (da_cons (xv 1) da_nil)) (by exact of_decide_eq_true rfl) (by rfl))
  (dss_cons (ds_while PassesOwn.never (dt_cmp op_gt o2_gt (xv 1) de_int (nomark _))
  (dss_one (ds_par (i := 0) (j := 1) false false rfl sc_l_shared.nd rfl rfl (by exact of_decide_eq_true rfl) (by exact of_decide_eq_true rfl) rfl rfl (xv 1) (de_op2 op_modN o2_mod (xv 0) (xv 1)) (by exact of_decide_eq_true rfl) (by rfl))))
  (dss_one (ds_ret (xv 0)))))
theorem ok_l_refusal (H : Facts K mg) (X : XF K mg) (h : Def0 K mg "_law_refusal" s_l_refusal ["_law_deed"]) : TryD P w K mg base "_law_refusal" tr_l_refusal (.non) := by
  obtain ⟨M0, m0⟩ := X.h_MirrorError
  obtain ⟨M1, m1⟩ := X.h_OverNought
  obtain ⟨M2, m2⟩ := X.h_Flat
  obtain ⟨M3, m3⟩ := X.h_NoName
  refine tryD_def (wh := (hitW K 6 (.ref M0) (fun D a cls d τ G => tsH K mg 1 (["NoNumber"] : List Str) h_l_refusal_0 a cls d (Ends.out D 1) (τ.set 1 (some (.ref a))) G) (hitW K 6 (.ref M1) (fun D a cls d τ G => tsO K mg h_l_refusal_1 a cls d D τ G) (hitW K 6 (.ref M2) (fun D a cls d τ G => tsO K mg h_l_refusal_2 a cls d D τ G) (hitW K 6 (.ref M3) (fun D a cls d τ G => tsO K mg h_l_refusal_3 a cls d D τ G) (fun _ _ _ _ _ => False)))))) (bR := b_l_refusal) h sc_l_refusal rfl sc_l_refusal.nd (by first | exact Or.inl rfl | exact Or.inr (Or.inl rfl) | exact Or.inr (Or.inr rfl)) (by rfl) (fun g cdv A outer s H0 hu => ?hh) ?hw (fun g cdv A outer s H0 => ?hr) (fun n => ⟨_, rfl⟩)
  case hr => exact (dss_one (ds_ret de_non))
  case hh => exact .named (i := 1) rfl rfl ⟨(by rfl), by decide, .inl m0⟩ (suiteH (CS := (["NoNumber"] : List Str)) (bh := h_l_refusal_0) fun c hc Dc m a o l vs z hd => by
    have m : mg c = some (.ref Dc) := m
    have hE : ExcC K Dc := by
      simp only [List.mem_cons, List.not_mem_nil, or_false] at hc
      rcases hc with rfl
      · obtain ⟨D2, m2, hE⟩ := X.c_NoNumber; rw [m] at m2; cases m2; exact hE
    exact (dss_cons (ds_set (i := 2) false sc_l_refusal.nd rfl (by first | exact Or.inl rfl | exact Or.inr rfl) (by exact of_decide_eq_true rfl) (de_lst (da_cons (de_tup (da_cons de_str (da_cons (de_isE (i := 1) z hd hE (X.i_NoGround c hc Dc m) rfl (by first | exact Or.inl rfl | exact Or.inr (Or.inl rfl) | exact Or.inr (Or.inr rfl)) List.mem_cons_self (by rfl) H.b_isinstance (by rfl)) da_nil))) (da_cons (de_tup (da_cons de_str (da_cons (de_isE (i := 1) z hd hE (X.i_NoNumber c hc Dc m) rfl (by first | exact Or.inl rfl | exact Or.inr (Or.inl rfl) | exact Or.inr (Or.inr rfl)) List.mem_cons_self (by rfl) H.b_isinstance (by rfl)) da_nil))) (da_cons (de_tup (da_cons de_str (da_cons (de_isE (i := 1) z hd hE (X.i_NoRow c hc Dc m) rfl (by first | exact Or.inl rfl | exact Or.inr (Or.inl rfl) | exact Or.inr (Or.inr rfl)) List.mem_cons_self (by rfl) H.b_isinstance (by rfl)) da_nil))) (da_cons (de_tup (da_cons de_str (da_cons (de_isE (i := 1) z hd hE (X.i_NoTable c hc Dc m) rfl (by first | exact Or.inl rfl | exact Or.inr (Or.inl rfl) | exact Or.inr (Or.inr rfl)) List.mem_cons_self (by rfl) H.b_isinstance (by rfl)) da_nil))) (da_cons (de_tup (da_cons de_str (da_cons (de_isE (i := 1) z hd hE (X.i_NoForm c hc Dc m) rfl (by first | exact Or.inl rfl | exact Or.inr (Or.inl rfl) | exact Or.inr (Or.inr rfl)) List.mem_cons_self (by rfl) H.b_isinstance (by rfl)) da_nil))) (da_cons (de_tup (da_cons de_str (da_cons (de_isE (i := 1) z hd hE (X.i_NoKeeper c hc Dc m) rfl (by first | exact Or.inl rfl | exact Or.inr (Or.inl rfl) | exact Or.inr (Or.inr rfl)) List.mem_cons_self (by rfl) H.b_isinstance (by rfl)) da_nil))) (da_cons (de_tup (da_cons de_str (da_cons (de_isE (i := 1) z hd hE (X.i_NoWorth c hc Dc m) rfl (by first | exact Or.inl rfl | exact Or.inr (Or.inl rfl) | exact Or.inr (Or.inr rfl)) List.mem_cons_self (by rfl) H.b_isinstance (by rfl)) da_nil))) (da_cons (de_tup (da_cons de_str (da_cons (de_isE (i := 1) z hd hE (X.i_NoSeat c hc Dc m) rfl (by first | exact Or.inl rfl | exact Or.inr (Or.inl rfl) | exact Or.inr (Or.inr rfl)) List.mem_cons_self (by rfl) H.b_isinstance (by rfl)) da_nil))) (da_cons (de_tup (da_cons de_str (da_cons (de_isE (i := 1) z hd hE (X.i_NoFour c hc Dc m) rfl (by first | exact Or.inl rfl | exact Or.inr (Or.inl rfl) | exact Or.inr (Or.inr rfl)) List.mem_cons_self (by rfl) H.b_isinstance (by rfl)) da_nil))) (da_cons (de_tup (da_cons de_str (da_cons (de_isE (i := 1) z hd hE (X.i_NoPlace c hc Dc m) rfl (by first | exact Or.inl rfl | exact Or.inr (Or.inl rfl) | exact Or.inr (Or.inr rfl)) List.mem_cons_self (by rfl) H.b_isinstance (by rfl)) da_nil))) (da_cons (de_tup (da_cons de_str (da_cons (de_isE (i := 1) z hd hE (X.i_NoClaim c hc Dc m) rfl (by first | exact Or.inl rfl | exact Or.inr (Or.inl rfl) | exact Or.inr (Or.inr rfl)) List.mem_cons_self (by rfl) H.b_isinstance (by rfl)) da_nil))) (da_cons (de_tup (da_cons de_str (da_cons (de_isE (i := 1) z hd hE (X.i_NoText c hc Dc m) rfl (by first | exact Or.inl rfl | exact Or.inr (Or.inl rfl) | exact Or.inr (Or.inr rfl)) List.mem_cons_self (by rfl) H.b_isinstance (by rfl)) da_nil))) (da_cons (de_tup (da_cons de_str (da_cons (de_isE (i := 1) z hd hE (X.i_NoSaying c hc Dc m) rfl (by first | exact Or.inl rfl | exact Or.inr (Or.inl rfl) | exact Or.inr (Or.inr rfl)) List.mem_cons_self (by rfl) H.b_isinstance (by rfl)) da_nil))) (da_cons (de_tup (da_cons de_str (da_cons (de_isE (i := 1) z hd hE (X.i_TooMany c hc Dc m) rfl (by first | exact Or.inl rfl | exact Or.inr (Or.inl rfl) | exact Or.inr (Or.inr rfl)) List.mem_cons_self (by rfl) H.b_isinstance (by rfl)) da_nil))) (da_cons (de_tup (da_cons de_str (da_cons (de_isE (i := 1) z hd hE (X.i_NotKept c hc Dc m) rfl (by first | exact Or.inl rfl | exact Or.inr (Or.inl rfl) | exact Or.inr (Or.inr rfl)) List.mem_cons_self (by rfl) H.b_isinstance (by rfl)) da_nil))) da_nil)))))))))))))))))
      (dss_cons (ds_lcX (i := 3) (own := [("_law_name", 4), ("_law_is_so", 5)]) z hd rfl false (by exact of_decide_eq_true rfl) (by exact of_decide_eq_true rfl) (by exact of_decide_eq_true rfl) sc_l_refusal.nd rfl rfl (sw_true rfl rfl rfl (by decide +kernel)) (xv 2) (blkOk_by (by kernel_rfl)) (fun _ _ _ _ _ hot => (dg_tupX hot rfl (dgs_cons (dg_name (i := 4) (by exact of_decide_eq_true rfl) sc_l_refusal.nd rfl (by first | exact Or.inl rfl | exact Or.inr rfl) (by exact of_decide_eq_true rfl)) (dgs_cons (dg_name (i := 5) (by exact of_decide_eq_true rfl) sc_l_refusal.nd rfl (by first | exact Or.inl rfl | exact Or.inr rfl) (by exact of_decide_eq_true rfl)) dgs_nil)))) (fun _ _ _ _ _ => (dts_one (dt_val (xv 5)))) (fun _ _ _ _ _ => (xv 4)))
      (dss_cons (ds_if (PW.pt (dw_and (dt_cmp (op_eqD hu) o2_eq (de_callB cl_len on_len (by rfl) H.b_len PySem.boot_len (da_cons (xv 3) da_nil)) de_int (nomark _)) (dw_and1 (dt_val (de_isE (i := 1) z hd hE (X.i_ValueError c hc Dc m) rfl (by first | exact Or.inl rfl | exact Or.inr (Or.inl rfl) | exact Or.inr (Or.inr rfl)) List.mem_cons_self (by rfl) H.b_isinstance (by rfl))))))
      (dss_one (ds_ret (de_ix (xv 3) de_int rfl (fun _ _ => rfl))))
      dss_nil)
      (dss_one (ds_ret de_str)))))) (.only ⟨(by rfl), by decide, .inl m1⟩ (suiteO (b := h_l_refusal_1) fun a l => (dss_one (ds_ret de_str))) (.only ⟨(by rfl), by decide, .inl m2⟩ (suiteO (b := h_l_refusal_2) fun a l => (dss_one (ds_ret de_str))) (.only ⟨(by rfl), by decide, .inl m3⟩ (suiteO (b := h_l_refusal_3) fun a l => (dss_one (ds_ret de_str))) (.nil))))
  case hw =>
    intro D cls dx τ G Z e r hp hx ht hB
    unfold tr_l_refusal at ht
    split at ht
    · rename_i q; cases ht
      obtain ⟨Dc, mD, _⟩ := X.c_NoNumber
      obtain ⟨ec, ed⟩ := hx.plain q.2 (by rw [q.1]; exact mD)
      subst ec ed
      exact wish_named (c := "NoNumber") (by decide) (X.x_NoNumber_MirrorError _ _ mD m0) mD (by simp) hp hB (retD_ex (by kernel_rfl))
    cases ht
theorem ok_l_root_beneath (H : Facts K mg) (h : Def0 K mg "_law_root_beneath" s_l_root_beneath ["_law_whole"])  : CalD P w K mg base 1 "_law_root_beneath" n_l_root_beneath [] :=
  cal_def h sc_l_root_beneath rfl rfl rfl fun f cdv A outer s H0 E hr =>
(dss_cons (ds_asg (sl := [1, 2]) (de_tup (da_cons de_int (da_cons de_int da_nil))) (dg_tup rfl rfl (dgs_cons (dg_name (i := 1) (by exact of_decide_eq_true rfl) sc_l_root_beneath.nd rfl (by first | exact Or.inl rfl | exact Or.inr rfl) (by exact of_decide_eq_true rfl)) (dgs_cons (dg_name (i := 2) (by exact of_decide_eq_true rfl) sc_l_root_beneath.nd rfl (by first | exact Or.inl rfl | exact Or.inr rfl) (by exact of_decide_eq_true rfl)) dgs_nil))))
  (dss_cons (ds_while PassesOwn.never (dt_cmp op_le o2_le (de_op2 or_mulA o2_mul (xv 2) (xv 2)) (xv 0) (nomark _))
  (dss_one (ds_set (i := 2) false sc_l_root_beneath.nd rfl (by first | exact Or.inl rfl | exact Or.inr rfl) (by exact of_decide_eq_true rfl) (de_op2 or_mulA o2_mul de_int (xv 2)))))
  (dss_cons (ds_while PassesOwn.never (dt_cmp op_gt o2_gt (de_op2 op_sub o2_sub (xv 2) (xv 1)) de_int (nomark _))
  (dss_cons (ds_set (i := 3) false sc_l_root_beneath.nd rfl (by first | exact Or.inl rfl | exact Or.inr rfl) (by exact of_decide_eq_true rfl) (de_op2 or_div o2_div (de_op2 or_add o2_add (xv 1) (xv 2)) de_int))
  (dss_one (ds_if (dt_cmp op_le o2_le (de_op2 or_mulA o2_mul (xv 3) (xv 3)) (xv 0) (nomark _))
  (dss_one (ds_set (i := 1) false sc_l_root_beneath.nd rfl (by first | exact Or.inl rfl | exact Or.inr rfl) (by exact of_decide_eq_true rfl) (xv 3)))
  (dss_one (ds_set (i := 2) false sc_l_root_beneath.nd rfl (by first | exact Or.inl rfl | exact Or.inr rfl) (by exact of_decide_eq_true rfl) (xv 3)))))))
  (dss_one (ds_ret (xv 1))))))
theorem ok_is_number (H : Facts K mg) (h : Def0 K mg "is_number" s_is_number ["ground", "thing"]) (c_is_whole : CalD P w K mg base 1 "is_whole" n_is_whole []) (c_shared : CalD P w K mg base 1 "shared" n_shared []) : CalD P w K mg base 2 "is_number" n_is_number [] :=
  cal_def h sc_is_number rfl rfl rfl fun f cdv A outer s H0 E hr =>
(dss_cons (ds_if (PW.pt (dw_or (dt_not (dt_val (de_isi (T := "tuple") rfl (by rfl) H.b_isinstance (xv 1) (by rfl) H.b_tuple (by decide +kernel) (by decide +kernel)))) (dw_or (dt_cmp (op_neD hr.units) o2_ne (de_callB cl_len on_len (by rfl) H.b_len PySem.boot_len (da_cons (xv 1) da_nil)) de_int (nomark _)) (dw_or1 (dt_not (dt_val (de_callB (cr_all rfl) on_bs (by rfl) H.b_all (by decide +kernel) (da_cons (de_comp (own := [("part", 4)]) (by exact of_decide_eq_true rfl) (by exact of_decide_eq_true rfl) rfl sc_is_number.nd (di_seq rfl (xv 1)) (blkOk_by (by kernel_rfl)) (fun _ _ _ _ _ => (dg_name (i := 4) (by exact of_decide_eq_true rfl) sc_is_number.nd rfl (by first | exact Or.inl rfl | exact Or.inr rfl) (by exact of_decide_eq_true rfl))) (fun _ _ _ _ _ => dts_nil) (fun _ _ _ _ _ => (de_call c_is_whole hr (by rfl) rfl rfl rfl (dv_val false (xv 4) dv_nil)))) da_nil))))))))
  (dss_one (ds_ret de_bl))
  dss_nil)
  (dss_cons (ds_asg (sl := [2, 3]) (xv 1) (dg_tup rfl rfl (dgs_cons (dg_name (i := 2) (by exact of_decide_eq_true rfl) sc_is_number.nd rfl (by first | exact Or.inl rfl | exact Or.inr rfl) (by exact of_decide_eq_true rfl)) (dgs_cons (dg_name (i := 3) (by exact of_decide_eq_true rfl) sc_is_number.nd rfl (by first | exact Or.inl rfl | exact Or.inr rfl) (by exact of_decide_eq_true rfl)) dgs_nil))))
  (dss_cons (ds_if (dt_cmp op_gt o2_gt (xv 0) de_int (nomark _))
  (dss_one (ds_ret (de_and (de_chain op_le op_lt de_int (xv 2) (xv 0)) (de_one (de_cmp (op_eqD hr.units) o2_eq (xv 3) de_int (nomark _))))))
  dss_nil)
  (dss_one (ds_ret (de_and (de_cmp op_ge o2_ge (xv 3) de_int (nomark _)) (de_one (de_cmp (op_eqD hr.units) o2_eq (de_call c_shared hr (by rfl) rfl rfl rfl (dv_val false (xv 2) (dv_val false (xv 3) dv_nil))) de_int (nomark _)))))))))
theorem ok_lowest (H : Facts K mg) (h : Def0 K mg "lowest" s_lowest ["ground", "top", "bottom"]) (c_contrary_on : CalD P w K mg base 1 "contrary_on" n_contrary_on []) (c_shared : CalD P w K mg base 1 "shared" n_shared []) : CalD P w K mg base 2 "lowest" n_lowest [] :=
  cal_def h sc_lowest rfl rfl rfl fun f cdv A outer s H0 E hr =>
(dss_cons (ds_if (PW.pt (dw_and (dt_cmp op_gt o2_gt (xv 0) de_int (nomark _)) (dw_and1 (dt_cmp (op_eqD hr.units) o2_eq (xv 2) de_int (nomark _)))))
  (dss_one (ds_ret (de_tup (da_cons (de_op2 op_modN o2_mod (xv 1) (xv 0)) (da_cons de_int da_nil)))))
  dss_nil)
  (dss_cons (ds_if (dt_cmp op_gt o2_gt (xv 0) de_int (nomark _))
  (dss_one (ds_ret (de_tup (da_cons (de_op2 op_modN o2_mod (de_op2 or_mulA o2_mul (xv 1) (de_call c_contrary_on hr (by rfl) rfl rfl rfl (dv_val false (xv 0) (dv_val false (de_op2 op_modN o2_mod (xv 2) (xv 0)) dv_nil)))) (xv 0)) (da_cons de_int da_nil)))))
  dss_nil)
  (dss_cons (ds_set (i := 3) false sc_lowest.nd rfl (by first | exact Or.inl rfl | exact Or.inr rfl) (by exact of_decide_eq_true rfl) (de_call c_shared hr (by rfl) rfl rfl rfl (dv_val false (xv 1) (dv_val false (xv 2) dv_nil))))
  (dss_cons (ds_if (dt_cmp op_lt o2_lt (xv 2) de_int (nomark _))
  (dss_one (ds_set (i := 3) false sc_lowest.nd rfl (by first | exact Or.inl rfl | exact Or.inr rfl) (by exact of_decide_eq_true rfl) (de_op2 op_sub o2_sub de_int (xv 3))))
  dss_nil)
  (dss_one (ds_ret (de_tup (da_cons (de_op2 or_div o2_div (xv 1) (xv 3)) (da_cons (de_op2 or_div o2_div (xv 2) (xv 3)) da_nil)))))))))
theorem ok_root_in (H : Facts K mg) (h : Def0 K mg "root_in" s_root_in ["ground", "x"]) (c_whole_root : CalD P w K mg base 1 "whole_root" n_whole_root []) : CalD P w K mg base 2 "root_in" n_root_in [] :=
  cal_def h sc_root_in rfl rfl rfl fun f cdv A outer s H0 E hr =>
(dss_cons (ds_if (dt_cmp op_gt o2_gt (xv 0) de_int (nomark _))
  (dss_cons (ds_setComp (i := 2) (own := [("one", 5)]) false (by exact of_decide_eq_true rfl) (by exact of_decide_eq_true rfl) (by exact of_decide_eq_true rfl) rfl sc_root_in.nd rfl rfl (sw_true rfl rfl rfl (by decide +kernel)) (di_rng1 (by rfl) H.b_range (xv 0)) (blkOk_by (by kernel_rfl)) (fun _ _ _ _ _ => (dg_name (i := 5) (by exact of_decide_eq_true rfl) sc_root_in.nd rfl (by first | exact Or.inl rfl | exact Or.inr rfl) (by exact of_decide_eq_true rfl))) (fun _ _ _ _ _ => (dts_one (dt_cmp (op_eqD hr.units) o2_eq (de_op2 op_modN o2_mod (de_op2 or_mulA o2_mul (xv 5) (xv 5)) (xv 0)) (de_ix (xv 1) de_int rfl (fun _ _ => rfl)) (nomark _)))) (fun _ _ _ _ _ => (xv 5)))
  (dss_one (ds_ret (de_if (dt_cmp (op_neD hr.units) o2_ne (xv 2) (de_lst da_nil) (nomark _)) (de_tup (da_cons (de_callB (cr_min rfl) on_minL (by rfl) H.b_min (by decide +kernel) (da_cons (xv 2) da_nil)) (da_cons de_int da_nil))) de_non))))
  dss_nil)
  (dss_cons (ds_if (dt_cmp op_lt o2_lt (de_ix (xv 1) de_int rfl (fun _ _ => rfl)) de_int (nomark _))
  (dss_one (ds_ret de_non))
  dss_nil)
  (dss_cons (ds_par (i := 3) (j := 4) false false rfl sc_root_in.nd rfl rfl (by exact of_decide_eq_true rfl) (by exact of_decide_eq_true rfl) rfl rfl (de_call c_whole_root hr (by rfl) rfl rfl rfl (dv_val false (de_ix (xv 1) de_int rfl (fun _ _ => rfl)) dv_nil)) (de_call c_whole_root hr (by rfl) rfl rfl rfl (dv_val false (de_ix (xv 1) de_int rfl (fun _ _ => rfl)) dv_nil)) (by exact of_decide_eq_true rfl) (by rfl))
  (dss_one (ds_ret (de_if (dt_cmp (op_eqD hr.units) o2_eq (de_tup (da_cons (de_op2 or_mulA o2_mul (xv 3) (xv 3)) (da_cons (de_op2 or_mulA o2_mul (xv 4) (xv 4)) da_nil))) (xv 1) (nomark _)) (de_tup (da_cons (xv 3) (da_cons (xv 4) da_nil))) de_non))))))
theorem ok_l_low (H : Facts K mg) (h : Def0 K mg "_law_low" s_l_low ["_law_g", "_law_up", "_law_down"]) (c_l_shared : CalD P w K mg base 1 "_law_shared" n_l_shared []) : CalD P w K mg base 2 "_law_low" n_l_low [] :=
  cal_def h sc_l_low rfl rfl rfl fun f cdv A outer s H0 E hr =>
(dss_cons (ds_if (dt_cmp op_gt o2_gt (xv 0) de_int (nomark _))
  (dss_one (ds_for (sl := [3]) PassesOwn.never rfl (di_rng1 (by rfl) H.b_range (xv 0)) (dg_name (i := 3) (by exact of_decide_eq_true rfl) sc_l_low.nd rfl (by first | exact Or.inl rfl | exact Or.inr rfl) (by exact of_decide_eq_true rfl))
  (dss_one (ds_if (dt_cmp (op_eqD hr.units) o2_eq (de_op2 op_modN o2_mod (de_op2 or_mulA o2_mul (xv 3) (xv 2)) (xv 0)) (de_op2 op_modN o2_mod (xv 1) (xv 0)) (nomark _))
  (dss_one (ds_ret (de_tup (da_cons (xv 3) (da_cons de_int da_nil)))))
  dss_nil))))
  dss_nil)
  (dss_cons (ds_set (i := 4) false sc_l_low.nd rfl (by first | exact Or.inl rfl | exact Or.inr rfl) (by exact of_decide_eq_true rfl) (de_op2 or_mulA o2_mul (de_call c_l_shared hr (by rfl) rfl rfl rfl (dv_val false (xv 1) (dv_val false (xv 2) dv_nil))) (de_ix (de_lst (da_cons de_int (da_cons (de_un un_neg o1_neg de_int) da_nil))) (de_callTy call_int1 on_int (by rfl) H.b_int (by decide +kernel) (da_cons (de_cmp op_lt o2_lt (xv 2) de_int (nomark _)) da_nil)) rfl (fun _ _ => rfl))))
  (dss_one (ds_ret (de_tup (da_cons (de_op2 or_div o2_div (xv 1) (xv 4)) (da_cons (de_op2 or_div o2_div (xv 2) (xv 4)) da_nil)))))))
theorem ok_l_is_number (H : Facts K mg) (h : Def0 K mg "_law_is_number" s_l_is_number ["_law_g", "_law_thing"]) (c_l_is_whole : CalD P w K mg base 1 "_law_is_whole" n_l_is_whole []) (c_l_shared : CalD P w K mg base 1 "_law_shared" n_l_shared []) : CalD P w K mg base 2 "_law_is_number" n_l_is_number [] :=
  cal_def h sc_l_is_number rfl rfl rfl fun f cdv A outer s H0 E hr =>
(dss_cons (ds_if (PW.pt (dw_or (dt_not (dt_val (de_isi (T := "tuple") rfl (by rfl) H.b_isinstance (xv 1) (by rfl) H.b_tuple (by decide +kernel) (by decide +kernel)))) (dw_or (dt_cmp (op_neD hr.units) o2_ne (de_callB cl_len on_len (by rfl) H.b_len PySem.boot_len (da_cons (xv 1) da_nil)) de_int (nomark _)) (dw_or1 (dt_not (dt_val (de_callB (cr_all rfl) on_bs (by rfl) H.b_all (by decide +kernel) (da_cons (de_comp (own := [("_law_one", 2)]) (by exact of_decide_eq_true rfl) (by exact of_decide_eq_true rfl) rfl sc_l_is_number.nd (di_seq rfl (xv 1)) (blkOk_by (by kernel_rfl)) (fun _ _ _ _ _ => (dg_name (i := 2) (by exact of_decide_eq_true rfl) sc_l_is_number.nd rfl (by first | exact Or.inl rfl | exact Or.inr rfl) (by exact of_decide_eq_true rfl))) (fun _ _ _ _ _ => dts_nil) (fun _ _ _ _ _ => (de_call c_l_is_whole hr (by rfl) rfl rfl rfl (dv_val false (xv 2) dv_nil)))) da_nil))))))))
  (dss_one (ds_ret de_bl))
  dss_nil)
  (dss_cons (ds_if (dt_cmp op_gt o2_gt (xv 0) de_int (nomark _))
  (dss_one (ds_ret (de_and (de_chain op_le op_lt de_int (de_ix (xv 1) de_int rfl (fun _ _ => rfl)) (xv 0)) (de_one (de_cmp (op_eqD hr.units) o2_eq (de_ix (xv 1) de_int rfl (fun _ _ => rfl)) de_int (nomark _))))))
  dss_nil)
  (dss_one (ds_ret (de_and (de_cmp op_gt o2_gt (de_ix (xv 1) de_int rfl (fun _ _ => rfl)) de_int (nomark _)) (de_one (de_cmp (op_eqD hr.units) o2_eq (de_call c_l_shared hr (by rfl) rfl rfl rfl (dv_val false (de_ix (xv 1) de_int rfl (fun _ _ => rfl)) (dv_val false (de_ix (xv 1) de_int rfl (fun _ _ => rfl)) dv_nil))) de_int (nomark _))))))))
theorem ok_l_ground (H : Facts K mg) (h : Def0 K mg "_law_ground" s_l_ground ["_law_bag_here"]) (c_l_take : CalD P w K mg base 1 "_law_take" n_l_take []) : CalD P w K mg base 2 "_law_ground" n_l_ground [] :=
  cal_def h sc_l_ground rfl rfl rfl fun f cdv A outer s H0 E hr =>
(dss_one (ds_ret (de_ix (de_lst (da_cons de_int (da_cons de_int (da_cons de_int (da_cons de_int (da_cons de_int (da_cons de_int (da_cons de_int (da_cons (de_ix (de_lst (da_cons de_int (da_cons de_int (da_cons de_int da_nil)))) (de_call c_l_take hr (by rfl) rfl rfl rfl (dv_ref (i := 0) rfl (by first | exact Or.inl rfl | exact Or.inr (Or.inl rfl) | exact Or.inr (Or.inr rfl)) (dv_val false de_int dv_nil))) rfl (fun _ _ => rfl)) da_nil))))))))) (de_call c_l_take hr (by rfl) rfl rfl rfl (dv_ref (i := 0) rfl (by first | exact Or.inl rfl | exact Or.inr (Or.inl rfl) | exact Or.inr (Or.inr rfl)) (dv_val false de_int dv_nil))) rfl (fun _ _ => rfl))))
theorem ok_l_odd (H : Facts K mg) (h : Def0 K mg "_law_odd" s_l_odd ["_law_bag_here"]) (c_l_take : CalD P w K mg base 1 "_law_take" n_l_take []) : CalD P w K mg base 2 "_law_odd" n_l_odd [] :=
  cal_def h sc_l_odd rfl rfl rfl fun f cdv A outer s H0 E hr =>
(dss_cons (ds_set (i := 1) false sc_l_odd.nd rfl (by first | exact Or.inl rfl | exact Or.inr rfl) (by exact of_decide_eq_true rfl) (de_lst (da_cons de_non (da_cons de_bl (da_cons de_bl (da_cons de_str (da_cons de_str (da_cons (de_un un_neg o1_neg de_int) (da_cons de_int (da_cons de_int (da_cons (de_op2 op_powB o2_pow de_int de_int) (da_cons (de_tup da_nil) (da_cons (de_lst da_nil) (da_cons (de_lst (da_cons de_int da_nil)) (da_cons (de_tup (da_cons de_int (da_cons de_int da_nil))) (da_cons (de_tup (da_cons de_int (da_cons de_int da_nil))) (da_cons (de_tup (da_cons de_int (da_cons de_int da_nil))) (da_cons (de_tup (da_cons de_bl (da_cons de_int da_nil))) (da_cons (de_tup (da_cons de_int (da_cons (de_un un_neg o1_neg de_int) da_nil))) (da_cons (de_tup (da_cons de_int da_nil)) (da_cons (de_lst (da_cons de_int (da_cons de_int da_nil))) (da_cons (de_tup (da_cons de_int (da_cons de_int (da_cons de_int da_nil)))) da_nil))))))))))))))))))))))
  (dss_one (ds_ret (de_ix (xv 1) (de_call c_l_take hr (by rfl) rfl rfl rfl (dv_ref (i := 0) rfl (by first | exact Or.inl rfl | exact Or.inr (Or.inl rfl) | exact Or.inr (Or.inr rfl)) (dv_val false de_int dv_nil))) rfl (fun _ _ => rfl)))))
theorem ok_l_is_square (H : Facts K mg) (h : Def0 K mg "_law_is_square" s_l_is_square ["_law_g", "_law_x"]) (c_l_root_beneath : CalD P w K mg base 1 "_law_root_beneath" n_l_root_beneath []) : CalD P w K mg base 2 "_law_is_square" n_l_is_square [] :=
  cal_def h sc_l_is_square rfl rfl rfl fun f cdv A outer s H0 E hr =>
(dss_cons (ds_if (dt_cmp op_gt o2_gt (xv 0) de_int (nomark _))
  (dss_one (ds_ret (de_callB (cr_any rfl) on_bs (by rfl) H.b_any (by decide +kernel) (da_cons (de_comp (own := [("_law_one", 2)]) (by exact of_decide_eq_true rfl) (by exact of_decide_eq_true rfl) rfl sc_l_is_square.nd (di_rng1 (by rfl) H.b_range (xv 0)) (blkOk_by (by kernel_rfl)) (fun _ _ _ _ _ => (dg_name (i := 2) (by exact of_decide_eq_true rfl) sc_l_is_square.nd rfl (by first | exact Or.inl rfl | exact Or.inr rfl) (by exact of_decide_eq_true rfl))) (fun _ _ _ _ _ => dts_nil) (fun _ _ _ _ _ => (de_cmp (op_eqD hr.units) o2_eq (de_op2 op_modN o2_mod (de_op2 or_mulA o2_mul (xv 2) (xv 2)) (xv 0)) (de_ix (xv 1) de_int rfl (fun _ _ => rfl)) (nomark _)))) da_nil))))
  dss_nil)
  (dss_one (ds_ret (de_and (de_cmp op_ge o2_ge (de_ix (xv 1) de_int rfl (fun _ _ => rfl)) de_int (nomark _)) (de_one (de_callB (cr_all rfl) on_bs (by rfl) H.b_all (by decide +kernel) (da_cons (de_comp (own := [("_law_one", 2)]) (by exact of_decide_eq_true rfl) (by exact of_decide_eq_true rfl) rfl sc_l_is_square.nd (di_seq rfl (xv 1)) (blkOk_by (by kernel_rfl)) (fun _ _ _ _ _ => (dg_name (i := 2) (by exact of_decide_eq_true rfl) sc_l_is_square.nd rfl (by first | exact Or.inl rfl | exact Or.inr rfl) (by exact of_decide_eq_true rfl))) (fun _ _ _ _ _ => dts_nil) (fun _ _ _ _ _ => (de_cmp (op_eqD hr.units) o2_eq (de_op2 op_powB o2_pow (de_call c_l_root_beneath hr (by rfl) rfl rfl rfl (dv_val false (xv 2) dv_nil)) de_int) (xv 2) (nomark _)))) da_nil)))))))
theorem ok_times (H : Facts K mg) (h : Def0 K mg "times" s_times ["ground", "x", "y"]) (c_lowest : CalD P w K mg base 2 "lowest" n_lowest []) : CalD P w K mg base 3 "times" n_times [] :=
  cal_def h sc_times rfl rfl rfl fun f cdv A outer s H0 E hr =>
(dss_one (ds_ret (de_call c_lowest hr (by rfl) rfl rfl rfl (dv_val false (xv 0) (dv_val false (de_op2 or_mulA o2_mul (de_ix (xv 1) de_int rfl (fun _ _ => rfl)) (de_ix (xv 2) de_int rfl (fun _ _ => rfl))) (dv_val false (de_op2 or_mulA o2_mul (de_ix (xv 1) de_int rfl (fun _ _ => rfl)) (de_ix (xv 2) de_int rfl (fun _ _ => rfl))) dv_nil))))))
theorem ok_is_square (H : Facts K mg) (h : Def0 K mg "is_square" s_is_square ["ground", "x"]) (c_root_in : CalD P w K mg base 2 "root_in" n_root_in []) : CalD P w K mg base 3 "is_square" n_is_square [] :=
  cal_def h sc_is_square rfl rfl rfl fun f cdv A outer s H0 E hr =>
(dss_one (ds_ret (de_cmp op_notN o2_notN (de_call c_root_in hr (by rfl) rfl rfl rfl (dv_val false (xv 0) (dv_val false (xv 1) dv_nil))) de_non (nomark _))))
theorem ok_look_class (H : Facts K mg) (h : Def0 K mg "look_class" s_look_class ["ground", "thing"]) (c_is_number : CalD P w K mg base 2 "is_number" n_is_number []) : CalX P w K mg base 3 "look_class" n_look_class [] :=
  calX_def h sc_look_class rfl rfl rfl fun f cdv A outer s H0 E hr tk =>
(dss_one (ds_if (PW.pt (dw_or (dt_not (dt_val (de_callN c_is_number hr (by rfl) rfl rfl (dv_val false (xv 0) (dv_val false (xv 1) dv_nil))))) (dw_or1 (dt_cmp (op_eqD hr.units) o2_eq (xv 1) (de_globC H.g_NOUGHT (by rfl) rfl rfl) (nomark _)))))
  (dss_one (ds_raise H.r_NoNumber rfl rfl tk rfl (by rfl)))
  dss_nil))
theorem ok_l_plus (H : Facts K mg) (h : Def0 K mg "_law_plus" s_l_plus ["_law_g", "_law_x", "_law_y"]) (c_l_low : CalD P w K mg base 2 "_law_low" n_l_low []) : CalD P w K mg base 3 "_law_plus" n_l_plus [] :=
  cal_def h sc_l_plus rfl rfl rfl fun f cdv A outer s H0 E hr =>
(dss_one (ds_ret (de_call c_l_low hr (by rfl) rfl rfl rfl (dv_val false (xv 0) (dv_val false (de_op2 or_add o2_add (de_op2 or_mulA o2_mul (de_ix (xv 1) de_int rfl (fun _ _ => rfl)) (de_ix (xv 2) de_int rfl (fun _ _ => rfl))) (de_op2 or_mulA o2_mul (de_ix (xv 2) de_int rfl (fun _ _ => rfl)) (de_ix (xv 1) de_int rfl (fun _ _ => rfl)))) (dv_val false (de_op2 or_mulA o2_mul (de_ix (xv 1) de_int rfl (fun _ _ => rfl)) (de_ix (xv 2) de_int rfl (fun _ _ => rfl))) dv_nil))))))
theorem ok_l_times (H : Facts K mg) (h : Def0 K mg "_law_times" s_l_times ["_law_g", "_law_x", "_law_y"]) (c_l_low : CalD P w K mg base 2 "_law_low" n_l_low []) : CalD P w K mg base 3 "_law_times" n_l_times [] :=
  cal_def h sc_l_times rfl rfl rfl fun f cdv A outer s H0 E hr =>
(dss_one (ds_ret (de_call c_l_low hr (by rfl) rfl rfl rfl (dv_val false (xv 0) (dv_val false (de_op2 or_mulA o2_mul (de_ix (xv 1) de_int rfl (fun _ _ => rfl)) (de_ix (xv 2) de_int rfl (fun _ _ => rfl))) (dv_val false (de_op2 or_mulA o2_mul (de_ix (xv 1) de_int rfl (fun _ _ => rfl)) (de_ix (xv 2) de_int rfl (fun _ _ => rfl))) dv_nil))))))
theorem ok_l_minus (H : Facts K mg) (h : Def0 K mg "_law_minus" s_l_minus ["_law_g", "_law_x"]) (c_l_low : CalD P w K mg base 2 "_law_low" n_l_low []) : CalD P w K mg base 3 "_law_minus" n_l_minus [] :=
  cal_def h sc_l_minus rfl rfl rfl fun f cdv A outer s H0 E hr =>
(dss_one (ds_ret (de_call c_l_low hr (by rfl) rfl rfl rfl (dv_val false (xv 0) (dv_val false (de_op2 op_sub o2_sub de_int (de_ix (xv 1) de_int rfl (fun _ _ => rfl))) (dv_val false (de_ix (xv 1) de_int rfl (fun _ _ => rfl)) dv_nil))))))
theorem ok_l_number (H : Facts K mg) (h : Def0 K mg "_law_number" s_l_number ["_law_bag_here", "_law_g"]) (c_l_low : CalD P w K mg base 2 "_law_low" n_l_low []) (c_l_take : CalD P w K mg base 1 "_law_take" n_l_take []) : CalD P w K mg base 3 "_law_number" n_l_number [] :=
  cal_def h sc_l_number rfl rfl rfl fun f cdv A outer s H0 E hr =>
(dss_cons (ds_if (dt_cmp op_gt o2_gt (xv 1) de_int (nomark _))
  (dss_one (ds_ret (de_tup (da_cons (de_call (c_l_take.mono (by exact of_decide_eq_true rfl)) hr (by rfl) rfl rfl rfl (dv_ref (i := 0) rfl (by first | exact Or.inl rfl | exact Or.inr (Or.inl rfl) | exact Or.inr (Or.inr rfl)) (dv_val false (xv 1) dv_nil))) (da_cons de_int da_nil)))))
  dss_nil)
  (dss_cons (ds_set (i := 2) false sc_l_number.nd rfl (by first | exact Or.inl rfl | exact Or.inr rfl) (by exact of_decide_eq_true rfl) (de_ix (de_lst (da_cons de_int (da_cons de_int (da_cons de_int (da_cons de_int (da_cons de_int (da_cons de_int da_nil))))))) (de_call (c_l_take.mono (by exact of_decide_eq_true rfl)) hr (by rfl) rfl rfl rfl (dv_ref (i := 0) rfl (by first | exact Or.inl rfl | exact Or.inr (Or.inl rfl) | exact Or.inr (Or.inr rfl)) (dv_val false de_int dv_nil))) rfl (fun _ _ => rfl)))
  (dss_cons (ds_set (i := 3) false sc_l_number.nd rfl (by first | exact Or.inl rfl | exact Or.inr rfl) (by exact of_decide_eq_true rfl) (de_ix (de_lst (da_cons de_int (da_cons de_int (da_cons de_int (da_cons (de_op2 or_add o2_add de_int (de_call (c_l_take.mono (by exact of_decide_eq_true rfl)) hr (by rfl) rfl rfl rfl (dv_ref (i := 0) rfl (by first | exact Or.inl rfl | exact Or.inr (Or.inl rfl) | exact Or.inr (Or.inr rfl)) (dv_val false de_int dv_nil)))) da_nil))))) (de_call (c_l_take.mono (by exact of_decide_eq_true rfl)) hr (by rfl) rfl rfl rfl (dv_ref (i := 0) rfl (by first | exact Or.inl rfl | exact Or.inr (Or.inl rfl) | exact Or.inr (Or.inr rfl)) (dv_val false de_int dv_nil))) rfl (fun _ _ => rfl)))
  (dss_one (ds_ret (de_call c_l_low hr (by rfl) rfl rfl rfl (dv_val false de_int (dv_val false (de_op2 op_sub o2_sub (de_call (c_l_take.mono (by exact of_decide_eq_true rfl)) hr (by rfl) rfl rfl rfl (dv_ref (i := 0) rfl (by first | exact Or.inl rfl | exact Or.inr (Or.inl rfl) | exact Or.inr (Or.inr rfl)) (dv_val false (xv 2) dv_nil))) (de_op2 or_div o2_div (xv 2) de_int)) (dv_val false (xv 3) dv_nil)))))))))
theorem ok_are_alike (H : Facts K mg) (h : Def0 K mg "are_alike" s_are_alike ["ground", "x", "y"]) (c_is_square : CalD P w K mg base 3 "is_square" n_is_square []) (c_look_class : CalX P w K mg base 3 "look_class" n_look_class []) (c_times : CalD P w K mg base 3 "times" n_times []) : CalX P w K mg base 4 "are_alike" n_are_alike [] :=
  calX_def h sc_are_alike rfl rfl rfl fun f cdv A outer s H0 E hr tk =>
(dss_cons (ds_expr (de_callX c_look_class hr (by rfl) rfl rfl tk (dv_val false (xv 0) (dv_val false (xv 1) dv_nil))))
  (dss_cons (ds_expr (de_callX c_look_class hr (by rfl) rfl rfl tk (dv_val false (xv 0) (dv_val false (xv 2) dv_nil))))
  (dss_one (ds_ret (de_callN c_is_square hr (by rfl) rfl rfl (dv_val false (xv 0) (dv_val false (de_callN c_times hr (by rfl) rfl rfl (dv_val false (xv 0) (dv_val false (xv 1) (dv_val false (xv 2) dv_nil)))) dv_nil)))))))
theorem ok_l_other_than_nought (H : Facts K mg) (h : Def0 K mg "_law_other_than_nought" s_l_other_than_nought ["_law_bag_here", "_law_g"]) (c_l_number : CalD P w K mg base 3 "_law_number" n_l_number []) : CalD P w K mg base 4 "_law_other_than_nought" n_l_other_than_nought [] :=
  cal_def h sc_l_other_than_nought rfl rfl rfl fun f cdv A outer s H0 E hr =>
(dss_cons (ds_set (i := 2) false sc_l_other_than_nought.nd rfl (by first | exact Or.inl rfl | exact Or.inr rfl) (by exact of_decide_eq_true rfl) (de_call c_l_number hr (by rfl) rfl rfl rfl (dv_ref (i := 0) rfl (by first | exact Or.inl rfl | exact Or.inr (Or.inl rfl) | exact Or.inr (Or.inr rfl)) (dv_val false (xv 1) dv_nil))))
  (dss_one (ds_ret (de_ix (de_lst (da_cons (xv 2) (da_cons (de_tup (da_cons de_int (da_cons de_int da_nil))) da_nil))) (de_callTy call_int1 on_int (by rfl) H.b_int (by decide +kernel) (da_cons (de_cmp (op_eqD hr.units) o2_eq (xv 2) (de_tup (da_cons de_int (da_cons de_int da_nil))) (nomark _)) da_nil)) rfl (fun _ _ => rfl)))))
theorem ok_l_great (H : Facts K mg) (h : Def0 K mg "_law_great" s_l_great ["_law_bag_here", "_law_g"]) (c_l_other_than_nought : CalD P w K mg base 4 "_law_other_than_nought" n_l_other_than_nought []) (c_l_take : CalD P w K mg base 1 "_law_take" n_l_take []) (c_l_times : CalD P w K mg base 3 "_law_times" n_l_times []) : CalD P w K mg base 5 "_law_great" n_l_great [] :=
  cal_def h sc_l_great rfl rfl rfl fun f cdv A outer s H0 E hr =>
(dss_cons (ds_set (i := 2) false sc_l_great.nd rfl (by first | exact Or.inl rfl | exact Or.inr rfl) (by exact of_decide_eq_true rfl) (de_call c_l_other_than_nought hr (by rfl) rfl rfl rfl (dv_ref (i := 0) rfl (by first | exact Or.inl rfl | exact Or.inr (Or.inl rfl) | exact Or.inr (Or.inr rfl)) (dv_val false (xv 1) dv_nil))))
  (dss_cons (ds_for (sl := [3]) PassesOwn.never rfl (di_rng1 (by rfl) H.b_range (de_call (c_l_take.mono (by exact of_decide_eq_true rfl)) hr (by rfl) rfl rfl rfl (dv_ref (i := 0) rfl (by first | exact Or.inl rfl | exact Or.inr (Or.inl rfl) | exact Or.inr (Or.inr rfl)) (dv_val false de_int dv_nil)))) (dg_name (i := 3) (by exact of_decide_eq_true rfl) sc_l_great.nd rfl (by first | exact Or.inl rfl | exact Or.inr rfl) (by exact of_decide_eq_true rfl))
  (dss_one (ds_set (i := 2) false sc_l_great.nd rfl (by first | exact Or.inl rfl | exact Or.inr rfl) (by exact of_decide_eq_true rfl) (de_call (c_l_times.mono (by exact of_decide_eq_true rfl)) hr (by rfl) rfl rfl rfl (dv_val false (xv 1) (dv_val false (xv 2) (dv_val false (de_call c_l_other_than_nought hr (by rfl) rfl rfl rfl (dv_ref (i := 0) rfl (by first | exact Or.inl rfl | exact Or.inr (Or.inl rfl) | exact Or.inr (Or.inr rfl)) (dv_val false (xv 1) dv_nil))) dv_nil)))))))
  (dss_one (ds_ret (xv 2)))))
theorem ok_l_is_told (H : Facts K mg) (h : Def0 K mg "_law_is_told" s_l_is_told ["_law_g", "_law_x", "_law_y"]) (c_l_is_square : CalD P w K mg base 2 "_law_is_square" n_l_is_square []) (c_l_times : CalD P w K mg base 3 "_law_times" n_l_times []) (c_are_alike : CalX P w K mg base 4 "are_alike" n_are_alike []) : CalD P w K mg base 5 "_law_is_told" n_l_is_told [] :=
  cal_def h sc_l_is_told rfl rfl rfl fun f cdv A outer s H0 E hr =>
(dss_cons (ds_set (i := 3) false sc_l_is_told.nd rfl (by first | exact Or.inl rfl | exact Or.inr rfl) (by exact of_decide_eq_true rfl) (de_call (c_l_is_square.mono (by exact of_decide_eq_true rfl)) hr (by rfl) rfl rfl rfl (dv_val false (xv 0) (dv_val false (de_call (c_l_times.mono (by exact of_decide_eq_true rfl)) hr (by rfl) rfl rfl rfl (dv_val false (xv 0) (dv_val false (xv 1) (dv_val false (xv 2) dv_nil)))) dv_nil))))
  (dss_cons (ds_set (i := 4) false sc_l_is_told.nd rfl (by first | exact Or.inl rfl | exact Or.inr rfl) (by exact of_decide_eq_true rfl) (de_lst (da_cons (de_callX c_are_alike hr (by rfl) rfl rfl takesF (dv_val false (xv 0) (dv_val false (xv 1) (dv_val false (xv 2) dv_nil)))) (da_cons (de_callX c_are_alike hr (by rfl) rfl rfl takesF (dv_val false (xv 0) (dv_val false (xv 2) (dv_val false (xv 1) dv_nil)))) da_nil))))
  (dss_one (ds_ret (de_and (de_cmp (op_eqD hr.units) o2_eq (xv 4) (de_lst (da_cons (xv 3) (da_cons (xv 3) da_nil))) (nomark _)) (de_one (de_callB (cr_all rfl) on_bs (by rfl) H.b_all (by decide +kernel) (da_cons (de_comp (own := [("_law_one", 5)]) (by exact of_decide_eq_true rfl) (by exact of_decide_eq_true rfl) rfl sc_l_is_told.nd (di_seq rfl (xv 4)) (blkOk_by (by kernel_rfl)) (fun _ _ _ _ _ => (dg_name (i := 5) (by exact of_decide_eq_true rfl) sc_l_is_told.nd rfl (by first | exact Or.inl rfl | exact Or.inr rfl) (by exact of_decide_eq_true rfl))) (fun _ _ _ _ _ => dts_nil) (fun _ _ _ _ _ => (de_isi (T := "bool") rfl (by rfl) H.b_isinstance (xv 5) (by rfl) H.b_bool (by decide +kernel) (by decide +kernel)))) da_nil))))))))
theorem ok_law (H : Facts K mg) {f : Addr} {fd : FuncData} (h : Def K mg "law" s_law ["_law_script"] f fd) (c_l_bag : CalD P w K mg base 1 "_law_bag" n_l_bag []) (c_l_great : CalD P w K mg base 5 "_law_great" n_l_great []) (c_l_ground : CalD P w K mg base 2 "_law_ground" n_l_ground []) (c_l_is_number : CalD P w K mg base 2 "_law_is_number" n_l_is_number []) (c_l_is_told : CalD P w K mg base 5 "_law_is_told" n_l_is_told []) (c_l_low : CalD P w K mg base 2 "_law_low" n_l_low []) (c_l_minus : CalD P w K mg base 3 "_law_minus" n_l_minus []) (c_l_odd : CalD P w K mg base 2 "_law_odd" n_l_odd []) (c_l_plus : CalD P w K mg base 3 "_law_plus" n_l_plus []) (c_l_refusal : TryD P w K mg base "_law_refusal" tr_l_refusal (.non)) (c_l_take : CalD P w K mg base 1 "_law_take" n_l_take []) (c_l_times : CalD P w K mg base 3 "_law_times" n_l_times []) (c_are_alike : CalX P w K mg base 4 "are_alike" n_are_alike []) (L : LamH K mg base "law") : FnOk P w K mg base CX0 7 f fd ["_law_script"] (fun vs H Q _ => spD K mg n_law vs H Q fun _ _ _ => False) :=
  fnL_def L h sc_law rfl rfl rfl fun cdv A outer s H0 E la hr =>
(dss_cons (ds_for (sl := [1]) PassesOwn.never rfl (di_rng1 (by rfl) H.b_range (de_callB (call_max2 rfl) on_i2 (by rfl) H.b_max (by decide +kernel) (da_cons de_int (da_cons (de_callB (call_min2 rfl) on_i2 (by rfl) H.b_min (by decide +kernel) (da_cons de_int (da_cons (de_callB cl_len on_len (by rfl) H.b_len PySem.boot_len (da_cons (xv 0) da_nil)) da_nil))) da_nil)))) (dg_name (i := 1) (by exact of_decide_eq_true rfl) sc_law.nd rfl (by first | exact Or.inl rfl | exact Or.inr rfl) (by exact of_decide_eq_true rfl))
  (dss_cons (ds_set (i := 2) true sc_law.nd rfl (by first | exact Or.inl rfl | exact Or.inr rfl) (by exact of_decide_eq_true rfl) (de_call (c_l_bag.mono (by exact of_decide_eq_true rfl)) hr (by rfl) rfl rfl rfl (dv_val false (xv 0) (dv_val false (xv 1) dv_nil))))
  (dss_cons (ds_set (i := 3) false sc_law.nd rfl (by first | exact Or.inl rfl | exact Or.inr rfl) (by exact of_decide_eq_true rfl) (de_call (c_l_ground.mono (by exact of_decide_eq_true rfl)) hr (by rfl) rfl rfl rfl (dv_ref (i := 2) rfl (by first | exact Or.inl rfl | exact Or.inr (Or.inl rfl) | exact Or.inr (Or.inr rfl)) dv_nil)))
  (dss_cons (ds_asg (sl := [4, 5]) (de_tup (da_cons (de_call (c_l_great.mono (by exact of_decide_eq_true rfl)) hr (by rfl) rfl rfl rfl (dv_ref (i := 2) rfl (by first | exact Or.inl rfl | exact Or.inr (Or.inl rfl) | exact Or.inr (Or.inr rfl)) (dv_val false (xv 3) dv_nil))) (da_cons (de_call (c_l_great.mono (by exact of_decide_eq_true rfl)) hr (by rfl) rfl rfl rfl (dv_ref (i := 2) rfl (by first | exact Or.inl rfl | exact Or.inr (Or.inl rfl) | exact Or.inr (Or.inr rfl)) (dv_val false (xv 3) dv_nil))) da_nil))) (dg_tup rfl rfl (dgs_cons (dg_name (i := 4) (by exact of_decide_eq_true rfl) sc_law.nd rfl (by first | exact Or.inl rfl | exact Or.inr rfl) (by exact of_decide_eq_true rfl)) (dgs_cons (dg_name (i := 5) (by exact of_decide_eq_true rfl) sc_law.nd rfl (by first | exact Or.inl rfl | exact Or.inr rfl) (by exact of_decide_eq_true rfl)) dgs_nil))))
  (dss_cons (ds_if (dt_cmp (op_eqD hr.units) o2_eq (de_call (c_l_take.mono (by exact of_decide_eq_true rfl)) hr (by rfl) rfl rfl rfl (dv_ref (i := 2) rfl (by first | exact Or.inl rfl | exact Or.inr (Or.inl rfl) | exact Or.inr (Or.inr rfl)) (dv_val false de_int dv_nil))) de_int (nomark _))
  (dss_cons (ds_set (i := 6) false sc_law.nd rfl (by first | exact Or.inl rfl | exact Or.inr rfl) (by exact of_decide_eq_true rfl) (de_op2 or_add o2_add (de_op2 or_add o2_add (de_op2 or_mulA o2_mul (de_op2 or_mulA o2_mul (de_op2 op_powB o2_pow de_int de_int) (de_op2 op_powB o2_pow de_int de_int)) (de_op2 op_powB o2_pow de_int de_int)) de_int) (de_op2 or_mulA o2_mul de_int (de_call (c_l_take.mono (by exact of_decide_eq_true rfl)) hr (by rfl) rfl rfl rfl (dv_ref (i := 2) rfl (by first | exact Or.inl rfl | exact Or.inr (Or.inl rfl) | exact Or.inr (Or.inr rfl)) (dv_val false de_int dv_nil))))))
  (dss_one (ds_set (i := 5) false sc_law.nd rfl (by first | exact Or.inl rfl | exact Or.inr rfl) (by exact of_decide_eq_true rfl) (de_call (c_l_low.mono (by exact of_decide_eq_true rfl)) hr (by rfl) rfl rfl rfl (dv_val false (xv 3) (dv_val false (xv 6) (dv_val false (de_ix (de_lst (da_cons (de_op2 or_add o2_add de_int (de_call (c_l_take.mono (by exact of_decide_eq_true rfl)) hr (by rfl) rfl rfl rfl (dv_ref (i := 2) rfl (by first | exact Or.inl rfl | exact Or.inr (Or.inl rfl) | exact Or.inr (Or.inr rfl)) (dv_val false de_int dv_nil)))) (da_cons de_int da_nil))) (de_callTy call_int1 on_int (by rfl) H.b_int (by decide +kernel) (da_cons (de_cmp op_gt o2_gt (xv 3) de_int (nomark _)) da_nil)) rfl (fun _ _ => rfl)) dv_nil)))))))
  dss_nil)
  (dss_cons (ds_set (i := 5) false sc_law.nd rfl (by first | exact Or.inl rfl | exact Or.inr rfl) (by exact of_decide_eq_true rfl) (de_ix (de_lst (da_cons (xv 5) (da_cons (de_tup (da_cons de_int (da_cons de_int da_nil))) da_nil))) (de_callTy call_int1 on_int (by rfl) H.b_int (by decide +kernel) (da_cons (de_cmp (op_eqD hr.units) o2_eq (xv 5) (de_tup (da_cons de_int (da_cons de_int da_nil))) (nomark _)) da_nil)) rfl (fun _ _ => rfl)))
  (dss_cons (ds_set (i := 7) false sc_law.nd rfl (by first | exact Or.inl rfl | exact Or.inr rfl) (by exact of_decide_eq_true rfl) (de_call (c_l_times.mono (by exact of_decide_eq_true rfl)) hr (by rfl) rfl rfl rfl (dv_val false (xv 3) (dv_val false (xv 5) (dv_val false (xv 5) dv_nil)))))
  (dss_cons (ds_set (i := 8) false sc_law.nd rfl (by first | exact Or.inl rfl | exact Or.inr rfl) (by exact of_decide_eq_true rfl) (de_call (c_l_plus.mono (by exact of_decide_eq_true rfl)) hr (by rfl) rfl rfl rfl (dv_val false (xv 3) (dv_val false (xv 7) (dv_val false (de_call (c_l_low.mono (by exact of_decide_eq_true rfl)) hr (by rfl) rfl rfl rfl (dv_val false (xv 3) (dv_val false de_int (dv_val false de_int dv_nil)))) dv_nil)))))
  (dss_cons (ds_set (i := 9) false sc_law.nd rfl (by first | exact Or.inl rfl | exact Or.inr rfl) (by exact of_decide_eq_true rfl) (de_lst (da_cons (xv 4) (da_cons (xv 5) (da_cons (xv 7) (da_cons (de_call (c_l_times.mono (by exact of_decide_eq_true rfl)) hr (by rfl) rfl rfl rfl (dv_val false (xv 3) (dv_val false (xv 4) (dv_val false (xv 7) dv_nil)))) (da_cons (de_call (c_l_times.mono (by exact of_decide_eq_true rfl)) hr (by rfl) rfl rfl rfl (dv_val false (xv 3) (dv_val false (xv 4) (dv_val false (xv 5) dv_nil)))) (da_cons (de_call (c_l_minus.mono (by exact of_decide_eq_true rfl)) hr (by rfl) rfl rfl rfl (dv_val false (xv 3) (dv_val false (xv 4) dv_nil))) da_nil))))))))
  (dss_cons (ds_set (i := 9) false sc_law.nd rfl (by first | exact Or.inl rfl | exact Or.inr rfl) (by exact of_decide_eq_true rfl) (de_op2 or_add o2_add (xv 9) (de_op2 or_mulA o2_mul (de_lst (da_cons (xv 8) da_nil)) (de_callTy call_int1 on_int (by rfl) H.b_int (by decide +kernel) (da_cons (de_cmp (op_neD hr.units) o2_ne (xv 8) (de_tup (da_cons de_int (da_cons de_int da_nil))) (nomark _)) da_nil)))))
  (dss_cons (ds_if (dt_not (dt_val (de_callB (cr_all rfl) on_bs (by rfl) H.b_all (by decide +kernel) (da_cons (de_comp (own := [("_law_one", 12)]) (by exact of_decide_eq_true rfl) (by exact of_decide_eq_true rfl) rfl sc_law.nd (di_seq rfl (xv 9)) (blkOk_by (by kernel_rfl)) (fun _ _ _ _ _ => (dg_name (i := 12) (by exact of_decide_eq_true rfl) sc_law.nd rfl (by first | exact Or.inl rfl | exact Or.inr rfl) (by exact of_decide_eq_true rfl))) (fun _ _ _ _ _ => dts_nil) (fun _ _ _ _ _ => (de_and (de_call (c_l_is_told.mono (by exact of_decide_eq_true rfl)) hr (by rfl) rfl rfl rfl (dv_val false (xv 3) (dv_val false (xv 4) (dv_val false (xv 12) dv_nil)))) (de_one (de_call (c_l_is_told.mono (by exact of_decide_eq_true rfl)) hr (by rfl) rfl rfl rfl (dv_val false (xv 3) (dv_val false (xv 5) (dv_val false (xv 12) dv_nil)))))))) da_nil))))
  (dss_one (ds_ret de_bl))
  dss_nil)
  (dss_cons (ds_if (PW.pt (dw_or (dt_not (dt_val (de_callX (c_are_alike.mono (by exact of_decide_eq_true rfl)) hr (by rfl) rfl rfl takesF (dv_val false (xv 3) (dv_val false (xv 4) (dv_val false (de_call (c_l_times.mono (by exact of_decide_eq_true rfl)) hr (by rfl) rfl rfl rfl (dv_val false (xv 3) (dv_val false (xv 4) (dv_val false (xv 7) dv_nil)))) dv_nil)))))) (dw_or1 (dt_not (dt_val (de_callX (c_are_alike.mono (by exact of_decide_eq_true rfl)) hr (by rfl) rfl rfl takesF (dv_val false (xv 3) (dv_val false (xv 7) (dv_val false (de_tup (da_cons de_int (da_cons de_int da_nil))) dv_nil)))))))))
  (dss_one (ds_ret de_bl))
  dss_nil)
  (dss_one (ds_for (sl := [10]) PassesOwn.never rfl (di_seq rfl (de_lst (da_cons (de_tup (da_cons de_int (da_cons de_int da_nil))) (da_cons (de_call (c_l_odd.mono (by exact of_decide_eq_true rfl)) hr (by rfl) rfl rfl rfl (dv_ref (i := 2) rfl (by first | exact Or.inl rfl | exact Or.inr (Or.inl rfl) | exact Or.inr (Or.inr rfl)) dv_nil)) (da_cons (de_call (c_l_odd.mono (by exact of_decide_eq_true rfl)) hr (by rfl) rfl rfl rfl (dv_ref (i := 2) rfl (by first | exact Or.inl rfl | exact Or.inr (Or.inl rfl) | exact Or.inr (Or.inr rfl)) dv_nil)) (da_cons (de_lst (da_cons de_int (da_cons de_int da_nil))) (da_cons (de_tup (da_cons (de_op2 or_add o2_add (xv 3) de_int) (da_cons de_int da_nil))) (da_cons (de_tup (da_cons de_int (da_cons de_int da_nil))) da_nil)))))))) (dg_name (i := 10) (by exact of_decide_eq_true rfl) sc_law.nd rfl (by first | exact Or.inl rfl | exact Or.inr rfl) (by exact of_decide_eq_true rfl))
  (dss_cons (ds_set (i := 11) false sc_law.nd rfl (by first | exact Or.inl rfl | exact Or.inr rfl) (by exact of_decide_eq_true rfl) (de_if (PW.pt (dw_and (dt_val (de_call (c_l_is_number.mono (by exact of_decide_eq_true rfl)) hr (by rfl) rfl rfl rfl (dv_val false (xv 3) (dv_val false (xv 10) dv_nil)))) (dw_and1 (dt_cmp (op_neD hr.units) o2_ne (xv 10) (de_tup (da_cons de_int (da_cons de_int da_nil))) (nomark _))))) de_non de_str))
  (dss_cons (ds_if (dt_cmp (op_neD hr.units) o2_ne (de_lam c_l_refusal la rfl rfl rfl (by rfl) hr (LamX.lamS_by (by kernel_rfl)) (fun A1 O1 s1 H1 E1 k1 k2 C1 hK1 hM1 hr1 tk1 => (de_callX c_are_alike hr1 (by rfl) hK1.symm hM1.symm tk1 (dv_val false (xv 3) (dv_val false (xv 4) (dv_val false (xv 10) dv_nil)))))) (xv 11) (nomark _))
  (dss_one (ds_ret de_bl))
  dss_nil)
  (dss_one (ds_if (dt_cmp (op_neD hr.units) o2_ne (de_lam c_l_refusal la rfl rfl rfl (by rfl) hr (LamX.lamS_by (by kernel_rfl)) (fun A1 O1 s1 H1 E1 k1 k2 C1 hK1 hM1 hr1 tk1 => (de_callX c_are_alike hr1 (by rfl) hK1.symm hM1.symm tk1 (dv_val false (xv 3) (dv_val false (xv 10) (dv_val false (xv 4) dv_nil)))))) (xv 11) (nomark _))
  (dss_one (ds_ret de_bl))
  dss_nil))))))))))))))))))
  (dss_cons (ds_for (sl := [3]) PassesOwn.never rfl (di_seq rfl (de_lst (da_cons de_int (da_cons de_int (da_cons de_int (da_cons de_int (da_cons de_int (da_cons de_int (da_cons de_int (da_cons de_int (da_cons de_int (da_cons de_int da_nil)))))))))))) (dg_name (i := 3) (by exact of_decide_eq_true rfl) sc_law.nd rfl (by first | exact Or.inl rfl | exact Or.inr rfl) (by exact of_decide_eq_true rfl))
  (dss_one (ds_if (dt_not (dt_val (de_callB (cr_all rfl) on_bs (by rfl) H.b_all (by decide +kernel) (da_cons (de_comp (own := [("_law_a", 13), ("_law_b", 14)]) (by exact of_decide_eq_true rfl) (by exact of_decide_eq_true rfl) rfl sc_law.nd (di_seq rfl (de_lst (da_cons (de_tup (da_cons de_int (da_cons de_int da_nil))) (da_cons (de_tup (da_cons de_int (da_cons de_int da_nil))) (da_cons (de_tup (da_cons de_int (da_cons de_int da_nil))) (da_cons (de_tup (da_cons de_int (da_cons de_int da_nil))) da_nil)))))) (blkOk_by (by kernel_rfl)) (fun _ _ _ _ _ => (dg_tup rfl rfl (dgs_cons (dg_name (i := 13) (by exact of_decide_eq_true rfl) sc_law.nd rfl (by first | exact Or.inl rfl | exact Or.inr rfl) (by exact of_decide_eq_true rfl)) (dgs_cons (dg_name (i := 14) (by exact of_decide_eq_true rfl) sc_law.nd rfl (by first | exact Or.inl rfl | exact Or.inr rfl) (by exact of_decide_eq_true rfl)) dgs_nil)))) (fun _ _ _ _ _ => dts_nil) (fun _ _ _ _ _ => (de_call (c_l_is_told.mono (by exact of_decide_eq_true rfl)) hr (by rfl) rfl rfl rfl (dv_val false (xv 3) (dv_val false (de_tup (da_cons (xv 13) (da_cons de_int da_nil))) (dv_val false (de_tup (da_cons (xv 14) (da_cons de_int da_nil))) dv_nil)))))) da_nil))))
  (dss_one (ds_ret de_bl))
  dss_nil)))
  (dss_one (ds_ret de_bl))))
end
end DD.K33

namespace DD.K33
open PySem PySem.Spec L2
open PyProof.Rows hiding St
local macro_rules | `(tactic| fail "z") => `(tactic| first | (refine sz_of ?_; simp only [List.length_cons, List.length_nil, List.length_map, List.length_range, List.length_set, List.length_append, Int.reduceNeg, Int.reduceSub, Int.reduceToNat, Nat.reduceAdd, Nat.zero_add, Nat.reduceLT, Nat.reduceLeDiff, ne_eq, Nat.reduceEqDiff, not_false_eq_true]; done) | (refine szl_of ?_; simp only [List.length_cons, List.length_nil, List.length_map, List.length_range, List.length_set, List.length_append, Int.reduceNeg, Int.reduceSub, Int.reduceToNat, Nat.reduceAdd, Nat.zero_add, Nat.reduceLT, Nat.reduceLeDiff, ne_eq, Nat.reduceEqDiff, not_false_eq_true]; done) | (simp only [List.length_cons, List.length_nil, List.length_map, List.length_range, List.length_set, List.length_append, Int.reduceNeg, Int.reduceSub, Int.reduceToNat, Nat.reduceAdd, Nat.zero_add, Nat.reduceLT, Nat.reduceLeDiff, ne_eq, Nat.reduceEqDiff, not_false_eq_true]; done))
local macro_rules | `(tactic| fail "w") => `(tactic| with_reducible first
  | refine w_seq ?_ | refine w_setF ?_ | refine w_setT ?_ | refine w_ret ?_ | refine w_ifS ?_ | refine w_expr ?_ | refine w_for ?_ | refine w_parF ?_ | refine w_asg ?_ | refine w_skip ?_
  | refine w_var (by with_unfolding_all rfl) ?_ | refine w_c ?_ | refine w_op2 ?_ | refine w_op1 ?_ | refine w_test ?_ | refine wb ?_ | refine w_nil ?_ | refine w_cons ?_
  | refine w_tup ?_ | refine w_lst ?_ | refine w_if ?_ | refine w_andT ?_ | refine w_orT ?_ | refine w_notT ?_ | refine w_andV ?_ | refine w_orV ?_ | refine w_notV ?_
  | refine wk_t ?_ | refine wk_f ?_ | refine wk_n ?_
  | refine wf_nx ?_ | refine wf_ret ?_ | refine wf_bk ?_ | refine wf_ct ?_ | refine wl_nx ?_ | refine wl_ct ?_ | refine wl_bk ?_ | refine wl_ret ?_ | refine wr_nx ?_ | refine wr_ret ?_
  | refine w_gset (by fail "z") ?_ | refine w_gtup (by with_unfolding_all rfl) ?_ | refine w_gcons ?_ | refine w_gnil ?_ | refine w_items ?_ | refine w_rng1 ?_ | refine w_rng2 ?_
  | refine w_blt ?_ | refine w_isi ?_ | refine w_vnil ?_ | refine w_vvalF ?_ | refine w_vvalT ?_ | refine w_vref (by with_unfolding_all rfl) ?_ | refine w_call ?_
  | refine w_appendF (by with_unfolding_all rfl) ?_ | refine w_extend (by with_unfolding_all rfl) ?_ | refine w_setitemF ?_ | refine w_ixOwn (by with_unfolding_all rfl) ?_ | refine w_lenOwn (by with_unfolding_all rfl) ?_ | refine w_move (by with_unfolding_all rfl) ?_ | refine w_frz (by with_unfolding_all rfl) ?_
  | refine wix (by with_unfolding_all rfl) (by with_unfolding_all rfl) ?_ | refine wap (by with_unfolding_all rfl) (by fail "z") ?_ | refine wxt (by with_unfolding_all rfl) (by with_unfolding_all rfl) (by fail "z") ?_ | refine wmm (by with_unfolding_all rfl) ?_ | refine wst (by with_unfolding_all rfl) (by with_unfolding_all rfl) ?_ | refine win ?_
  | refine w_fmt ?_ | refine w_jscons ?_ | refine w_jsnil ?_ | refine wjs ?_ | refine w_join ?_ | refine w_zip ?_ | refine w_zipS ?_ | refine w_enum ?_ | refine w_bor ?_ | refine w_borT ?_ | refine wfl_bl ?_ | refine wfl_int ?_
  | refine w_no ?_ | refine w_so ?_ | refine w_sl ?_ | refine w_rev ?_ | refine w_comp ?_ | refine w_chain ?_ | refine w_compnil ?_ | refine w_compcons ?_ | refine wp_pure ?_
  | refine wo_add ?_ | refine wo_sub ?_ | refine wo_neg ?_ | refine wo_lt ?_ | refine wo_le ?_ | refine wo_gt ?_ | refine wo_ge ?_ | refine wo_eqI ?_ | refine wo_neI ?_ | refine wo_notB ?_ | refine wo_isB ?_
  | refine wo_abs ?_ | refine wo_lenT ?_ | refine wo_lenL ?_ | refine wo_lenF ?_ | refine wo_lenM ?_ | refine wo_some ?_ | refine ix_at (by with_unfolding_all rfl) (by with_unfolding_all rfl) ?_
  | refine wo_mod (by omega) ?_ | refine wo_div (divc64 (by omega) (by omega) (by omega)) ?_ | refine wo_mul (mulc64 (by omega) (by omega) (by omega) (by omega)) ?_ | refine wo_pow (cpow64 (by omega) (by omega) (by omega) (by omega)) ?_
  | refine And.intro (by fail "z") ?_ | refine And.intro (And.intro (by fail "z") (And.intro (by fail "z") (by fail "z"))) ?_)
local macro_rules | `(tactic| fail "e") => `(tactic| simp only [List.map_cons, List.map_nil, List.replicate, List.cons_append, List.nil_append, List.append_nil, List.set_cons_zero, List.set_cons_succ, List.set_nil, A.frz, frzs_v, frzs, Nat.reduceSub, gath, back, List.getElem?_cons_zero, List.getElem?_cons_succ, Option.map_some, lentL, List.contains_cons, List.contains_nil, List.elem_nil, List.elem_cons, Nat.reduceAdd, Nat.reduceBEq, Bool.or_false, Bool.or_true, Bool.false_or, Bool.true_or, beq_self_eq_true, if_true, if_false, reduceIte, Bool.false_eq_true, Int.reduceToNat, iBool_bl, iBool_int, iInt_bl, iInt_int, isI_int, isI_bl, iTup_tup, iTup_lst, iTup_int, Int.reducePow, List.getElem?_nil, wipeE, wipeF, parkL, putL, Nat.reduceLT, Nat.reduceLeDiff, frzE])
local macro_rules | `(tactic| fail "s") => `(tactic| repeat (first | fail "w" | fail "e"))
local macro_rules | `(tactic| fail "t") => `(tactic| refine take_s (by omega) (by omega) (by omega) (by omega) (by omega) ?_)
local macro_rules | `(tactic| fail "w") => `(tactic| with_reducible first | refine w_raise ?_ | refine w_lam ?_ | refine w_step ?_ | refine w_par3 ?_)
theorem take_s {a b k : Int} {Q : A → List A → Prop} {E : Ex → List A → Prop} (ha : 0 ≤ a) (hb : 0 ≤ b) (hb2 : b < 2147483647) (hk : 0 < k) (hk2 : k ≤ 10000000000)
    (q : ∀ d a' b', 0 ≤ a' → 0 ≤ b' → b' < 2147483647 → 0 ≤ d → d < k → Q (.v (.int d)) [.m [.v (.int a'), .v (.int b')], .v (.int k)]) :
    Wc (n_l_take [.m [.v (.int a), .v (.int b)], .v (.int k)]) Q E := by
  refine wc_fn rfl rfl ?_
  unfold b_l_take
  fail "e"
  repeat fail "w"
  refine wk_d (fun h => ?_) (fun h => ?_)
  · repeat fail "w"
    fail "e"
    have h1 := fmod_range (i := a) hk
    have h2 := fdiv_range ha hk
    exact wo_some (q _ _ _ (by omega) hb hb2 (by omega) (by omega))
  · repeat fail "w"
    fail "e"
    have h1 := fmod_range (i := b * 48271 + 2531011) (j := 2147483647) (by omega)
    repeat fail "w"
    fail "e"
    have h2 := fmod_range (i := (((b * 48271 + 2531011).fmod 2147483647 ^ 3).fmod 2147483629).fdiv 64) hk
    exact wo_some (q _ _ _ (by omega) (by omega) (by omega) (by omega) (by omega))

local macro_rules | `(tactic| fail "t") => `(tactic| refine take_s (by omega) (by omega) (by omega) (by omega) (by omega) ?_)
theorem bag_s {ns : List Int} {at_ : Int} {Q : A → List A → Prop} {E : Ex → List A → Prop} (h0 : 0 ≤ at_) (h1 : at_ < 1000)
    (q : ∀ a b, 0 ≤ a → 0 ≤ b → b < 2147483647 → Q (.m [.v (.int a), .v (.int b)]) [script ns, .v (.int at_)]) : Wc (n_l_bag [script ns, .v (.int at_)]) Q E := by
  refine wc_fn rfl rfl ?_
  unfold b_l_bag script
  fail "e"
  iterate 5 fail "w"
  fail "e"
  refine w_seqJ (fun ρ1 => ∃ c, ρ1 = [some (.v (.fz (ns.map .int))), some (.v (.int at_)), some (.v (.int c)), none, none, none]) ?_ ?_
  · repeat fail "w"
    refine wk_d (fun h => ?_) (fun h => ?_)
    · repeat fail "w"
      refine wo_ix rfl h0 h fun d hd => ?_
      obtain ⟨z, _, rfl⟩ := List.mem_map.mp hd
      repeat fail "w"
      exact ⟨_, rfl⟩
    · repeat fail "w"
      exact ⟨_, rfl⟩
  · rintro _ ⟨cell, rfl⟩
    have hk := fmod_range (i := cell) (j := 2147483647) (by omega)
    have h8 := fmod_range (i := at_) (j := 8) (by omega)
    repeat fail "w"
    refine wk_d (fun h => ?_) (fun h => ?_)
    all_goals
      repeat fail "w"
      fail "e"
      refine wo_ixI (fun p => 0 < p ∧ p ≤ 2147483647) rfl h8.1 h8.2 (by simp) fun p hp => ?_
      have hm := fmod_range (i := cell.fmod 2147483647 * 69623 + 104729 * at_ * at_ + 7919 * at_ + 12345) hp.1
      repeat fail "w"
      fail "e"
      exact wo_some (q _ _ (by omega) (by omega) (by omega))
theorem is_whole_s {d : D} {Q : A → List A → Prop} {E : Ex → List A → Prop} (hd : kindD d ≠ "") (q : Q (.v (.bl (isI d))) [.v d]) : Wc (n_is_whole [.v d]) Q E := by
  refine wc_fn rfl rfl ?_
  unfold b_is_whole
  fail "e"
  repeat fail "w"
  refine wo_isInt hd ?_
  repeat fail "w"
  refine wk_b (fun h => ?_) (fun h => ?_)
  · repeat fail "w"
    refine wo_isBool hd ?_
    repeat fail "w"
    fail "e"
    rw [isI_eq h]
    exact wo_some q
  · repeat fail "w"
    rw [isI_f h]
    exact wo_some q
theorem shared_s {a b : Int} {Q : A → List A → Prop} {E : Ex → List A → Prop} (q : Q (.v (.int (Int.gcd a b))) [.v (.int a), .v (.int b)]) : Wc (n_shared [.v (.int a), .v (.int b)]) Q E := by
  refine wc_fn rfl rfl ?_
  unfold b_shared b_shared_1
  fail "e"
  repeat fail "w"
  fail "e"
  refine w_while (fun n ρ => ∃ x y : Nat, ρ = [some (.v (.int x)), some (.v (.int y))] ∧ Nat.gcd x y = Int.gcd a b ∧ y = n) ⟨_, _, rfl, rfl, rfl⟩ fun n ρ ⟨x, y, e1, e2, e3⟩ => ?_
  subst e1 e3
  repeat fail "w"
  refine wk_d (fun h => ?_) (fun h => ?_)
  · repeat fail "w"
    fail "e"
    have hy : 0 < y := by omega
    refine ⟨x % y, Nat.mod_lt _ hy, y, x % y, ?_, ?_, rfl⟩
    · rw [Int.fmod_eq_emod_of_nonneg _ (by omega), ← Int.natCast_emod]
    · rw [← e2, Nat.gcd_comm x y, Nat.gcd_rec y x, Nat.gcd_comm]
  · repeat fail "w"
    have hy : y = 0 := by omega
    subst hy
    rw [Nat.gcd_zero_right] at e2
    subst e2
    exact wo_some q
theorem l_is_whole_s {d : D} {Q : A → List A → Prop} {E : Ex → List A → Prop} (hd : kindD d ≠ "") (q : Q (.v (.bl (isI d))) [.v d]) : Wc (n_l_is_whole [.v d]) Q E := by
  refine wc_fn rfl rfl ?_
  unfold b_l_is_whole
  fail "e"
  repeat fail "w"
  refine wo_isInt hd ?_
  repeat fail "w"
  refine wk_b (fun h => ?_) (fun h => ?_)
  · repeat fail "w"
    refine wo_isBool hd ?_
    repeat fail "w"
    fail "e"
    rw [isI_eq h]
    exact wo_some q
  · repeat fail "w"
    rw [isI_f h]
    exact wo_some q
theorem l_shared_s {a b : Int} {Q : A → List A → Prop} {E : Ex → List A → Prop} (q : Q (.v (.int (Int.gcd a b))) [.v (.int a), .v (.int b)]) : Wc (n_l_shared [.v (.int a), .v (.int b)]) Q E := by
  refine wc_fn rfl rfl ?_
  unfold b_l_shared b_l_shared_1
  fail "e"
  repeat fail "w"
  fail "e"
  refine w_while (fun n ρ => ∃ x y : Nat, ρ = [some (.v (.int x)), some (.v (.int y))] ∧ Nat.gcd x y = Int.gcd a b ∧ y = n) ⟨_, _, rfl, rfl, rfl⟩ fun n ρ ⟨x, y, e1, e2, e3⟩ => ?_
  subst e1 e3
  repeat fail "w"
  refine wk_d (fun h => ?_) (fun h => ?_)
  · repeat fail "w"
    fail "e"
    have hy : 0 < y := by omega
    refine ⟨x % y, Nat.mod_lt _ hy, y, x % y, ?_, ?_, rfl⟩
    · rw [Int.fmod_eq_emod_of_nonneg _ (by omega), ← Int.natCast_emod]
    · rw [← e2, Nat.gcd_comm x y, Nat.gcd_rec y x, Nat.gcd_comm]
  · repeat fail "w"
    have hy : y = 0 := by omega
    subst hy
    rw [Nat.gcd_zero_right] at e2
    subst e2
    exact wo_some q

/-- the grounds that are drawn -/
def Gr (g : Int) : Prop := g = 0 ∨ g = 3 ∨ g = 5 ∨ g = 7 ∨ g = 11 ∨ g = 13
theorem Gr.le {g : Int} (h : Gr g) : (g = 0 ∨ 2 ≤ g) ∧ g ≤ 13 := by unfold Gr at h; omega
theorem ground_s {a b : Int} {Q : A → List A → Prop} {E : Ex → List A → Prop} (ha : 0 ≤ a) (hb : 0 ≤ b) (hb2 : b < 2147483647)
    (q : ∀ g a' b', 0 ≤ a' → 0 ≤ b' → b' < 2147483647 → Gr g → Q (.v (.int g)) [.m [.v (.int a'), .v (.int b')]]) : Wc (n_l_ground [.m [.v (.int a), .v (.int b)]]) Q E := by
  refine wc_fn rfl rfl ?_
  unfold b_l_ground
  fail "s"
  fail "t"
  intro d a1 b1 ha1 hb1 hb11 h0 h1
  fail "s"
  refine wo_ixM (fun i => i = 7 ∨ i = 11 ∨ i = 13) h0 h1 (by simp) fun g hg => ?_
  fail "s"
  fail "t"
  intro d2 a2 b2 ha2 hb2 hb21 h20 h21
  fail "s"
  refine wo_ixM Gr h20 h21 (by simp [Gr]; omega) fun g hg => ?_
  fail "s"
  exact q _ _ _ ha2 hb2 hb21 hg
theorem sgn_ix2 {w : Int} {P : A → Prop} (k : P (.v (.int (if w < 0 then -1 else 1)))) : Wo (opIx (.m [.v (.int 1), .v (.int (-1))]) (.v (.int (if decide (w < 0) = true then 1 else 0)))) P := by
  by_cases h : w < 0
  · rw [if_pos (decide_eq_true h)]
    rw [if_pos h] at k
    exact wo_eq rfl k
  · rw [if_neg (by simpa using h)]
    rw [if_neg h] at k
    exact wo_eq rfl k
theorem cmn_bd {n : Nat} {u w : Int} (hw : Bd n w) (h0 : w ≠ 0) : Bd (n + 1) (cmn u w) ∧ Bd n (Int.gcd u w) := by
  have hle : Int.gcd u w ≤ w.natAbs := Nat.le_of_dvd (by omega) (Int.gcd_dvd_natAbs_right u w)
  have hB : Bd n (Int.gcd u w) := hw.le (by simpa using hle)
  have hs : Bd 1 (if w < 0 then -1 else 1) := by split <;> unfold Bd <;> decide
  exact ⟨hB.mul hs, hB⟩
theorem l_low_s {n : Nat} {g u w : Int} {Q : A → List A → Prop} {E : Ex → List A → Prop} (hg : g = 0 ∨ 2 ≤ g) (hg2 : g ≤ 13) (hn : n ≤ 8000) (hu : Bd n u) (hw : Bd n w) (ok : okd g w)
    (q : Q (.v (canon g u w)) [.v (.int g), .v (.int u), .v (.int w)]) : Wc (n_l_low [.v (.int g), .v (.int u), .v (.int w)]) Q E := by
  refine wc_fn rfl rfl ?_
  unfold b_l_low b_l_low_1
  rcases hg with rfl | hg
  · unfold okd at ok
    rw [if_neg (by decide)] at ok
    fail "s"
    refine wk_d (fun h => absurd h (by decide)) (fun _ => ?_)
    fail "s"
    refine l_shared_s ?_
    fail "s"
    refine wo_eq rfl ?_
    fail "s"
    refine sgn_ix2 ?_
    obtain ⟨h1, h2⟩ := cmn_bd (u := u) hw ok
    have hs : Bd 1 (if w < 0 then -1 else 1) := by split <;> unfold Bd <;> decide
    fail "s"
    refine wo_mul (h2.mulC hs (by omega)) ?_
    have hc0 := cmn_ne (u := u) ok
    unfold canon at q
    rw [if_neg (by decide)] at q
    change Bd (n + 1) ((Int.gcd u w : Int) * (if w < 0 then -1 else 1)) at h1
    change (Int.gcd u w : Int) * (if w < 0 then -1 else 1) ≠ 0 at hc0
    change Q (.v (dN (u.fdiv ((Int.gcd u w : Int) * (if w < 0 then -1 else 1))) (w.fdiv ((Int.gcd u w : Int) * (if w < 0 then -1 else 1))))) _ at q
    fail "s"
    refine wo_div (h1.divC hc0 (by omega)) ?_
    fail "s"
    refine wo_div (h1.divC hc0 (by omega)) ?_
    fail "s"
    exact q
  · unfold okd at ok
    rw [if_pos (by omega)] at ok
    subst ok
    unfold canon at q
    rw [if_pos (by omega)] at q
    have hr := fmod_range (i := u) (j := g) (by omega)
    fail "s"
    refine wk_d (fun _ => ?_) (fun h => absurd (by omega) h)
    fail "s"
    refine ⟨⟨by omega, by omega⟩, ?_⟩
    refine w_forL (fun ds ρ => (∃ x, ρ = [some (.v (.int g)), some (.v (.int u)), some (.v (.int 1)), x, none]) ∧ (∀ d ∈ ds, ∃ z : Int, d = .int z ∧ 0 ≤ z ∧ z < g) ∧ D.int (u.fmod g) ∈ ds) ⟨⟨_, rfl⟩, ?_, ?_⟩ ?_ ?_
    · intro d hd
      obtain ⟨i, hi, rfl⟩ := List.mem_map.mp hd
      have := List.mem_range.mp hi
      exact ⟨_, rfl, by omega, by omega⟩
    · refine List.mem_map.mpr ⟨(u.fmod g).toNat, List.mem_range.mpr (by omega), ?_⟩
      rw [Int.toNat_of_nonneg hr.1]
    · rintro d ds _ ⟨⟨x, rfl⟩, hds, hm⟩
      obtain ⟨z, rfl, hz0, hz⟩ := hds d (by simp)
      fail "s"
      have hz1 : (z * 1).fmod g = z := by rw [Int.mul_one, Int.fmod_eq_of_lt hz0 hz]
      rw [hz1]
      refine wk_d (fun h => ?_) (fun h => ?_)
      · fail "s"
        rw [← h] at q
        exact q
      · fail "s"
        refine ⟨⟨_, rfl⟩, fun d hd => hds d (List.mem_cons_of_mem _ hd), ?_⟩
        rcases List.mem_cons.mp hm with e | e
        · cases e; exact absurd rfl h
        · exact e
    · rintro _ ⟨⟨x, rfl⟩, _, hm⟩
      cases hm
theorem lowest_s {n : Nat} {g u w : Int} {Q : A → List A → Prop} {E : Ex → List A → Prop} (hg : g = 0 ∨ 2 ≤ g) (hg2 : g ≤ 13) (hn : n ≤ 8000) (hu : Bd n u) (hw : Bd n w) (ok : okd g w)
    (q : Q (.v (canon g u w)) [.v (.int g), .v (.int u), .v (.int w)]) : Wc (n_lowest [.v (.int g), .v (.int u), .v (.int w)]) Q E := by
  refine wc_fn rfl rfl ?_
  unfold b_lowest
  rcases hg with rfl | hg
  · unfold okd at ok
    rw [if_neg (by decide)] at ok
    fail "s"
    refine wk_d (fun h => absurd h (by decide)) (fun _ => ?_)
    fail "s"
    refine wk_d (fun h => absurd h (by decide)) (fun _ => ?_)
    fail "s"
    refine shared_s ?_
    obtain ⟨h1, h2⟩ := cmn_bd (u := u) hw ok
    have hc0 := cmn_ne (u := u) ok
    unfold canon at q
    rw [if_neg (by decide)] at q
    repeat' (fail_if_success (with_reducible refine w_seq ?_)); first | fail "w" | fail "e"
    refine w_seqJ (fun ρ1 => ρ1 = [some (.v (.int 0)), some (.v (.int u)), some (.v (.int w)), some (.v (.int (cmn u w)))]) ?_ ?_
    · fail "s"
      refine wk_d (fun h => ?_) (fun h => ?_)
      · fail "s"
        unfold cmn
        rw [if_pos h]
        rw [Int.zero_sub, Int.mul_neg, Int.mul_one]
      · fail "s"
        unfold cmn
        rw [if_neg h, Int.mul_one]
    rintro _ rfl
    fail "s"
    refine wo_div (h1.divC hc0 (by omega)) ?_
    fail "s"
    refine wo_div (h1.divC hc0 (by omega)) ?_
    fail "s"
    exact q
  · unfold okd at ok
    rw [if_pos (by omega)] at ok
    subst ok
    unfold canon at q
    rw [if_pos (by omega)] at q
    fail "s"
    refine wk_d (fun _ => ?_) (fun h => absurd (by omega) h)
    fail "s"
    refine wk_d (fun _ => ?_) (fun h => absurd trivial h)
    fail "s"
    exact q
section
variable {g : Int} {R : Type} [Lean.Grind.CommRing R] {N : Num g R} {a b : Nat} {r s : R} {Q : A → List A → Prop} {E : Ex → List A → Prop}
theorem l_plus_s (hg : g = 0 ∨ 2 ≤ g) (hg2 : g ≤ 13) (h4 : 4 ≤ a) (hab : a + b ≤ 7000) (hr : N.B a r) (hs : N.B b s) (q : N.B (a + b + 1) (r + s) → Q (.v (N.nm (r + s))) [.v (.int g), .v (N.nm r), .v (N.nm s)]) : Wc (n_l_plus [.v (.int g), .v (N.nm r), .v (N.nm s)]) Q E := by
  have q := q (hr.add h4 hg2 hs)
  refine wc_fn rfl rfl ?_
  unfold b_l_plus
  unfold Num.nm dN at q ⊢
  fail "s"
  refine wo_mul (hr.p.mulC hs.q (by omega)) ?_
  fail "s"
  refine wo_mul (hs.p.mulC hr.q (by omega)) ?_
  fail "s"
  refine wo_mul (hr.q.mulC hs.q (by omega)) ?_
  fail "s"
  refine l_low_s hg hg2 (n := a + b + 1) (by omega) (hr.sums hs) (hr.dens hs) (N.okp r s) ?_
  fail "s"
  rw [N.add]
  exact q
theorem times_s (hg : g = 0 ∨ 2 ≤ g) (hg2 : g ≤ 13) (h4 : 4 ≤ a) (hab : a + b ≤ 7000) (hr : N.B a r) (hs : N.B b s) (q : N.B (a + b) (r * s) → Q (.v (N.nm (r * s))) [.v (.int g), .v (N.nm r), .v (N.nm s)]) : Wc (n_times [.v (.int g), .v (N.nm r), .v (N.nm s)]) Q E := by
  have q := q (hr.mul h4 hg2 hs)
  refine wc_fn rfl rfl ?_
  unfold b_times
  unfold Num.nm dN at q ⊢
  fail "s"
  refine wo_mul (hr.p.mulC hs.p (by omega)) ?_
  fail "s"
  refine wo_mul (hr.q.mulC hs.q (by omega)) ?_
  fail "s"
  refine lowest_s hg hg2 (n := a + b) (by omega) (hr.p.mul hs.p) (hr.q.mul hs.q) (N.okp r s) ?_
  fail "s"
  rw [N.mul]
  exact q
theorem l_times_s (hg : g = 0 ∨ 2 ≤ g) (hg2 : g ≤ 13) (h4 : 4 ≤ a) (hab : a + b ≤ 7000) (hr : N.B a r) (hs : N.B b s) (q : N.B (a + b) (r * s) → Q (.v (N.nm (r * s))) [.v (.int g), .v (N.nm r), .v (N.nm s)]) : Wc (n_l_times [.v (.int g), .v (N.nm r), .v (N.nm s)]) Q E := by
  have q := q (hr.mul h4 hg2 hs)
  refine wc_fn rfl rfl ?_
  unfold b_l_times
  unfold Num.nm dN at q ⊢
  fail "s"
  refine wo_mul (hr.p.mulC hs.p (by omega)) ?_
  fail "s"
  refine wo_mul (hr.q.mulC hs.q (by omega)) ?_
  fail "s"
  refine l_low_s hg hg2 (n := a + b) (by omega) (hr.p.mul hs.p) (hr.q.mul hs.q) (N.okp r s) ?_
  fail "s"
  rw [N.mul]
  exact q
theorem l_minus_s (hg : g = 0 ∨ 2 ≤ g) (hg2 : g ≤ 13) (h4 : 4 ≤ a) (hab : a ≤ 7000) (hr : N.B a r) (q : N.B a (-r) → Q (.v (N.nm (-r))) [.v (.int g), .v (N.nm r)]) : Wc (n_l_minus [.v (.int g), .v (N.nm r)]) Q E := by
  have q := q (hr.neg h4 hg2)
  refine wc_fn rfl rfl ?_
  unfold b_l_minus
  unfold Num.nm dN at q ⊢
  fail "s"
  refine l_low_s hg hg2 (n := a) (by omega) (by rw [Int.zero_sub]; exact hr.p.neg) hr.q (N.ok1 r) ?_
  fail "s"
  rw [N.neg]
  exact q
end
def okT (d : D) : Prop := kindD d ≠ "" ∧ ∀ l, d = .tup l → ∀ e ∈ l, kindD e ≠ ""
theorem numB_nt {g : Int} {d : D} (h : iTup d = false) : numB g d = false := by
  cases d <;> first | rfl | cases h
theorem numB_len {g : Int} {l : List D} (h : ¬ ((l.length : Int) = 2)) : numB g (.tup l) = false := by
  unfold numB
  split
  · rename_i e; cases e; exact absurd rfl h
  · rfl
theorem numB_el {g : Int} {x y : D} (h : [isI x, isI y].all id = false) : numB g (.tup [x, y]) = false := by
  cases x <;> cases y <;> first | rfl | simp [isI] at h
theorem is_number_s {g : Int} {d : D} {Q : A → List A → Prop} {E : Ex → List A → Prop} (hd : okT d) (q : Q (.v (.bl (numB g d))) [.v (.int g), .v d]) : Wc (n_is_number [.v (.int g), .v d]) Q E := by
  refine wc_fn rfl rfl ?_
  unfold b_is_number
  fail "e"
  repeat fail "w"
  refine wo_isTup hd.1 ?_
  repeat fail "w"
  refine wk_b (fun h => ?_) (fun h => ?_)
  case refine_2 =>
    repeat fail "w"
    rw [numB_nt h] at q
    exact wo_some q
  obtain ⟨l, rfl⟩ : ∃ l, d = .tup l := by cases d <;> first | exact ⟨_, rfl⟩ | cases h
  repeat fail "w"
  refine wk_d (fun h2 => ?_) (fun h2 => ?_)
  case refine_2 =>
    repeat fail "w"
    rw [numB_len h2] at q
    exact wo_some q
  obtain ⟨x, y, rfl⟩ : ∃ x y, l = [x, y] := by
    match l, h2 with
    | [x, y], _ => exact ⟨x, y, rfl⟩
    | [], h2 => simp at h2
    | [_], h2 => simp at h2
    | _ :: _ :: _ :: _, h2 => simp at h2; omega
  have hx := hd.2 _ rfl x (by simp)
  have hy := hd.2 _ rfl y (by simp)
  fail "s"
  refine wo_eq rfl ?_
  fail "s"
  refine is_whole_s hx ?_
  fail "s"
  refine is_whole_s hy ?_
  fail "s"
  refine wo_eq rfl ?_
  fail "s"
  refine wk_b (fun h3 => ?_) (fun h3 => ?_)
  case refine_2 =>
    fail "s"
    rw [numB_el h3] at q
    exact q
  obtain ⟨a, rfl⟩ : ∃ a, x = .int a := by cases x <;> first | exact ⟨_, rfl⟩ | simp [isI] at h3
  obtain ⟨b, rfl⟩ : ∃ b, y = .int b := by cases y <;> first | exact ⟨_, rfl⟩ | simp [isI] at h3
  fail "s"
  refine wk_d (fun hg => ?_) (fun hg => ?_)
  · fail "s"
    refine wk_d (fun ha => ?_) (fun ha => ?_)
    · fail "s"
      refine wk_d (fun hb => ?_) (fun hb => ?_)
      · fail "s"
        simpa [numB, hg, ha, hb] using q
      · fail "s"
        simpa [numB, hg, ha, hb] using q
    · fail "s"
      simpa [numB, hg, ha] using q
  · fail "s"
    refine wk_d (fun hb => ?_) (fun hb => ?_)
    · fail "s"
      refine shared_s ?_
      fail "s"
      have e : numB g (.tup [.int a, .int b]) = decide (((Int.gcd a b : Nat) : Int) = 1) := by
        unfold numB; dsimp only
        rw [if_neg hg, decide_eq_true hb, Bool.true_and]
      rwa [e] at q
    · fail "s"
      simpa [numB, hg, hb] using q
theorem l_is_number_s {g : Int} {d : D} {Q : A → List A → Prop} {E : Ex → List A → Prop} (hd : okT d) (q : Q (.v (.bl (numB g d))) [.v (.int g), .v d]) : Wc (n_l_is_number [.v (.int g), .v d]) Q E := by
  refine wc_fn rfl rfl ?_
  unfold b_l_is_number
  fail "e"
  repeat fail "w"
  refine wo_isTup hd.1 ?_
  repeat fail "w"
  refine wk_b (fun h => ?_) (fun h => ?_)
  case refine_2 =>
    repeat fail "w"
    rw [numB_nt h] at q
    exact wo_some q
  obtain ⟨l, rfl⟩ : ∃ l, d = .tup l := by cases d <;> first | exact ⟨_, rfl⟩ | cases h
  repeat fail "w"
  refine wk_d (fun h2 => ?_) (fun h2 => ?_)
  case refine_2 =>
    repeat fail "w"
    rw [numB_len h2] at q
    exact wo_some q
  obtain ⟨x, y, rfl⟩ : ∃ x y, l = [x, y] := by
    match l, h2 with
    | [x, y], _ => exact ⟨x, y, rfl⟩
    | [], h2 => simp at h2
    | [_], h2 => simp at h2
    | _ :: _ :: _ :: _, h2 => simp at h2; omega
  have hx := hd.2 _ rfl x (by simp)
  have hy := hd.2 _ rfl y (by simp)
  fail "s"
  refine wo_eq rfl ?_
  fail "s"
  refine l_is_whole_s hx ?_
  fail "s"
  refine l_is_whole_s hy ?_
  fail "s"
  refine wo_eq rfl ?_
  fail "s"
  refine wk_b (fun h3 => ?_) (fun h3 => ?_)
  case refine_2 =>
    fail "s"
    rw [numB_el h3] at q
    exact q
  obtain ⟨a, rfl⟩ : ∃ a, x = .int a := by cases x <;> first | exact ⟨_, rfl⟩ | simp [isI] at h3
  obtain ⟨b, rfl⟩ : ∃ b, y = .int b := by cases y <;> first | exact ⟨_, rfl⟩ | simp [isI] at h3
  fail "s"
  refine wk_d (fun hg => ?_) (fun hg => ?_)
  · fail "s"
    refine wk_d (fun ha => ?_) (fun ha => ?_)
    · fail "s"
      refine wk_d (fun hb => ?_) (fun hb => ?_)
      · fail "s"
        simpa [numB, hg, ha, hb] using q
      · fail "s"
        simpa [numB, hg, ha, hb] using q
    · fail "s"
      simpa [numB, hg, ha] using q
  · fail "s"
    refine wk_d (fun hb => ?_) (fun hb => ?_)
    · fail "s"
      refine l_shared_s ?_
      fail "s"
      have e : numB g (.tup [.int a, .int b]) = decide (((Int.gcd a b : Nat) : Int) = 1) := by
        unfold numB; dsimp only
        rw [if_neg hg, decide_eq_true (show 1 ≤ b by omega), Bool.true_and]
      rwa [e] at q
    · fail "s"
      have e : numB g (.tup [.int a, .int b]) = false := by
        unfold numB; dsimp only
        rw [if_neg hg, decide_eq_false (show ¬ 1 ≤ b by omega), Bool.false_and]
      rwa [e] at q
end DD.K33

namespace DD.K33
open PySem PySem.Spec L2
open PyProof.Rows hiding St
local macro_rules | `(tactic| fail "z") => `(tactic| first | (refine sz_of ?_; simp only [List.length_cons, List.length_nil, List.length_map, List.length_range, List.length_set, List.length_append, Int.reduceNeg, Int.reduceSub, Int.reduceToNat, Nat.reduceAdd, Nat.zero_add, Nat.reduceLT, Nat.reduceLeDiff, ne_eq, Nat.reduceEqDiff, not_false_eq_true]; done) | (refine szl_of ?_; simp only [List.length_cons, List.length_nil, List.length_map, List.length_range, List.length_set, List.length_append, Int.reduceNeg, Int.reduceSub, Int.reduceToNat, Nat.reduceAdd, Nat.zero_add, Nat.reduceLT, Nat.reduceLeDiff, ne_eq, Nat.reduceEqDiff, not_false_eq_true]; done) | (simp only [List.length_cons, List.length_nil, List.length_map, List.length_range, List.length_set, List.length_append, Int.reduceNeg, Int.reduceSub, Int.reduceToNat, Nat.reduceAdd, Nat.zero_add, Nat.reduceLT, Nat.reduceLeDiff, ne_eq, Nat.reduceEqDiff, not_false_eq_true]; done))
local macro_rules | `(tactic| fail "w") => `(tactic| with_reducible first
  | refine w_seq ?_ | refine w_setF ?_ | refine w_setT ?_ | refine w_ret ?_ | refine w_ifS ?_ | refine w_expr ?_ | refine w_for ?_ | refine w_parF ?_ | refine w_asg ?_ | refine w_skip ?_
  | refine w_var (by with_unfolding_all rfl) ?_ | refine w_c ?_ | refine w_op2 ?_ | refine w_op1 ?_ | refine w_test ?_ | refine wb ?_ | refine w_nil ?_ | refine w_cons ?_
  | refine w_tup ?_ | refine w_lst ?_ | refine w_if ?_ | refine w_andT ?_ | refine w_orT ?_ | refine w_notT ?_ | refine w_andV ?_ | refine w_orV ?_ | refine w_notV ?_
  | refine wk_t ?_ | refine wk_f ?_ | refine wk_n ?_
  | refine wf_nx ?_ | refine wf_ret ?_ | refine wf_bk ?_ | refine wf_ct ?_ | refine wl_nx ?_ | refine wl_ct ?_ | refine wl_bk ?_ | refine wl_ret ?_ | refine wr_nx ?_ | refine wr_ret ?_
  | refine w_gset (by fail "z") ?_ | refine w_gtup (by with_unfolding_all rfl) ?_ | refine w_gcons ?_ | refine w_gnil ?_ | refine w_items ?_ | refine w_rng1 ?_ | refine w_rng2 ?_
  | refine w_blt ?_ | refine w_isi ?_ | refine w_vnil ?_ | refine w_vvalF ?_ | refine w_vvalT ?_ | refine w_vref (by with_unfolding_all rfl) ?_ | refine w_call ?_
  | refine w_appendF (by with_unfolding_all rfl) ?_ | refine w_extend (by with_unfolding_all rfl) ?_ | refine w_setitemF ?_ | refine w_ixOwn (by with_unfolding_all rfl) ?_ | refine w_lenOwn (by with_unfolding_all rfl) ?_ | refine w_move (by with_unfolding_all rfl) ?_ | refine w_frz (by with_unfolding_all rfl) ?_
  | refine wix (by with_unfolding_all rfl) (by with_unfolding_all rfl) ?_ | refine wap (by with_unfolding_all rfl) (by fail "z") ?_ | refine wxt (by with_unfolding_all rfl) (by with_unfolding_all rfl) (by fail "z") ?_ | refine wmm (by with_unfolding_all rfl) ?_ | refine wst (by with_unfolding_all rfl) (by with_unfolding_all rfl) ?_ | refine win ?_
  | refine w_fmt ?_ | refine w_jscons ?_ | refine w_jsnil ?_ | refine wjs ?_ | refine w_join ?_ | refine w_zip ?_ | refine w_zipS ?_ | refine w_enum ?_ | refine w_bor ?_ | refine w_borT ?_ | refine wfl_bl ?_ | refine wfl_int ?_
  | refine w_no ?_ | refine w_so ?_ | refine w_sl ?_ | refine w_rev ?_ | refine w_comp ?_ | refine w_chain ?_ | refine w_compnil ?_ | refine w_compcons ?_ | refine wp_pure ?_
  | refine wo_add ?_ | refine wo_sub ?_ | refine wo_neg ?_ | refine wo_lt ?_ | refine wo_le ?_ | refine wo_gt ?_ | refine wo_ge ?_ | refine wo_eqI ?_ | refine wo_neI ?_ | refine wo_notB ?_ | refine wo_isB ?_
  | refine wo_abs ?_ | refine wo_lenT ?_ | refine wo_lenL ?_ | refine wo_lenF ?_ | refine wo_lenM ?_ | refine wo_some ?_ | refine ix_at (by with_unfolding_all rfl) (by with_unfolding_all rfl) ?_
  | refine wo_mod (by omega) ?_ | refine wo_div (divc64 (by omega) (by omega) (by omega)) ?_ | refine wo_mul (mulc64 (by omega) (by omega) (by omega) (by omega)) ?_ | refine wo_pow (cpow64 (by omega) (by omega) (by omega) (by omega)) ?_
  | refine And.intro (by fail "z") ?_ | refine And.intro (And.intro (by fail "z") (And.intro (by fail "z") (by fail "z"))) ?_)
local macro_rules | `(tactic| fail "e") => `(tactic| simp only [List.map_cons, List.map_nil, List.replicate, List.cons_append, List.nil_append, List.append_nil, List.set_cons_zero, List.set_cons_succ, List.set_nil, A.frz, frzs_v, frzs, Nat.reduceSub, gath, back, List.getElem?_cons_zero, List.getElem?_cons_succ, Option.map_some, lentL, List.contains_cons, List.contains_nil, List.elem_nil, List.elem_cons, Nat.reduceAdd, Nat.reduceBEq, Bool.or_false, Bool.or_true, Bool.false_or, Bool.true_or, beq_self_eq_true, if_true, if_false, reduceIte, Bool.false_eq_true, Int.reduceToNat, iBool_bl, iBool_int, iInt_bl, iInt_int, isI_int, isI_bl, iTup_tup, iTup_lst, iTup_int, Int.reducePow, List.getElem?_nil, wipeE, wipeF, parkL, putL, Nat.reduceLT, Nat.reduceLeDiff, frzE])
local macro_rules | `(tactic| fail "s") => `(tactic| repeat (first | fail "w" | fail "e"))
local macro_rules | `(tactic| fail "t") => `(tactic| refine take_s (by omega) (by omega) (by omega) (by omega) (by omega) ?_)
local macro_rules | `(tactic| fail "w") => `(tactic| with_reducible first | refine w_raise ?_ | refine w_lam ?_ | refine w_step ?_ | refine w_par3 ?_)
local macro_rules | `(tactic| fail "t") => `(tactic| refine take_s (by omega) (by omega) (by omega) (by omega) (by omega) ?_)
/-- r is the whole root of s -/
def Isq (s r : Int) : Prop := 0 ≤ r ∧ r * r ≤ s ∧ s < (r + 1) * (r + 1)
theorem Isq.uniq {s r t : Int} (h : Isq s r) (k : Isq s t) : r = t := by
  obtain ⟨h0, h1, h2⟩ := h
  obtain ⟨k0, k1, k2⟩ := k
  rcases Int.lt_trichotomy r t with c | c | c
  · have : (r + 1) * (r + 1) ≤ t * t := Int.mul_le_mul (by omega) (by omega) (by omega) (by omega)
    omega
  · exact c
  · have : (t + 1) * (t + 1) ≤ r * r := Int.mul_le_mul (by omega) (by omega) (by omega) (by omega)
    omega
theorem le_sq {r s : Int} (h0 : 0 ≤ r) (h : r * r ≤ s) : r ≤ s := by
  rcases Int.lt_or_le 0 r with c | c
  · have : r * 1 ≤ r * r := Int.mul_le_mul_of_nonneg_left (by omega) h0
    omega
  · have : r = 0 := by omega
    subst this
    omega
theorem bd_of {n : Nat} {s z : Int} {k : Nat} (h0 : 0 ≤ s) (hs : Bd n s) (hz0 : 0 ≤ z) (hz : z ≤ 3 * s + 1) (hk : n + 2 ≤ k) : Bd k z := by
  unfold Bd at *
  have : 2 ^ (n + 2) ≤ 2 ^ k := Nat.pow_le_pow_right (by decide) hk
  rw [Nat.pow_add] at this
  omega
theorem half {z : Int} : z.fdiv 2 = z / 2 := Int.fdiv_eq_ediv_of_nonneg _ (by decide)
theorem half_facts {st s : Int} (h : 0 < st) (k : st ≤ 2 * s + 1) : (st / 2).toNat < st.toNat ∧ 0 ≤ st / 2 ∧ st / 2 ≤ 2 * s + 1 := by omega
theorem bd2 : Bd 2 2 := by unfold Bd; decide
theorem whole_root_s {n : Nat} {s : Int} {Q : A → List A → Prop} {E : Ex → List A → Prop} (h0 : 0 ≤ s) (hs : Bd n s) (hn : n ≤ 8000) (q : ∀ r, Isq s r → Q (.v (.int r)) [.v (.int s)]) : Wc (n_whole_root [.v (.int s)]) Q E := by
  refine wc_fn rfl rfl ?_
  unfold b_whole_root b_whole_root_1 b_whole_root_2
  fail "s"
  refine w_while (fun m ρ => ∃ h : Int, ρ = [some (.v (.int s)), some (.v (.int 0)), some (.v (.int h)), none] ∧ 1 ≤ h ∧ h ≤ 2 * s + 1 ∧ m = (2 * s + 2 - h).toNat) ⟨_, rfl, by decide, by omega, rfl⟩ fun m ρ ⟨h, e1, b1, b2, e2⟩ => ?_
  subst e1
  have hB : Bd (n + 2) h := bd_of h0 hs (by omega) (by omega) (by omega)
  fail "s"
  refine wo_mul (hB.mulC hB (by omega)) ?_
  fail "s"
  refine wk_d (fun c => ?_) (fun c => ?_)
  · have hle := le_sq (by omega) c
    refine w_aug (by with_unfolding_all rfl) ?_
    fail "s"
    refine ⟨⟨hB.mulC bd2 (by omega), by simp⟩, ?_⟩
    fail "s"
    exact ⟨(2 * s + 2 - h * 2).toNat, by omega, h * 2, rfl, by omega, by omega, rfl⟩
  · have c2 : s < h * h := by omega
    fail "s"
    refine w_while (fun m ρ => ∃ (a t : Int) (x : Option A), ρ = [some (.v (.int s)), some (.v (.int a)), some (.v (.int t)), x] ∧ 0 ≤ a ∧ a < t ∧ t ≤ 2 * s + 1 ∧ a * a ≤ s ∧ s < t * t ∧ m = (t - a).toNat) ⟨_, _, _, rfl, by omega, by omega, b2, by omega, c2, rfl⟩ fun m ρ ⟨a, t, x, e1, k1, k2, k3, k4, k5, e2⟩ => ?_
    subst e1
    fail "s"
    refine wk_d (fun c3 => ?_) (fun c3 => ?_)
    · fail "s"
      rw [half]
      generalize hm : (a + t) / 2 = mid
      have hmB : Bd (n + 2) mid := bd_of h0 hs (by omega) (by omega) (by omega)
      fail "s"
      refine wo_mul (hmB.mulC hmB (by omega)) ?_
      fail "s"
      refine wk_d (fun c4 => ?_) (fun c4 => ?_)
      · fail "s"
        exact ⟨_, by omega, mid, t, _, rfl, by omega, by omega, by omega, c4, k5, rfl⟩
      · fail "s"
        exact ⟨_, by omega, a, mid, _, rfl, by omega, by omega, by omega, k4, by omega, rfl⟩
    · fail "s"
      have e : t = a + 1 := by omega
      subst e
      exact q _ ⟨k1, k4, k5⟩
theorem l_root_beneath_s {n : Nat} {s : Int} {Q : A → List A → Prop} {E : Ex → List A → Prop} (h0 : 0 ≤ s) (hs : Bd n s) (hn : n ≤ 8000) (q : ∀ r, Isq s r → Q (.v (.int r)) [.v (.int s)]) : Wc (n_l_root_beneath [.v (.int s)]) Q E := by
  refine wc_fn rfl rfl ?_
  unfold b_l_root_beneath b_l_root_beneath_1 b_l_root_beneath_2
  fail "s"
  refine w_while (fun m ρ => ∃ h : Int, ρ = [some (.v (.int s)), some (.v (.int 0)), some (.v (.int h)), none] ∧ 1 ≤ h ∧ h ≤ 2 * s + 1 ∧ m = (2 * s + 2 - h).toNat) ⟨_, rfl, by decide, by omega, rfl⟩ fun m ρ ⟨h, e1, b1, b2, e2⟩ => ?_
  subst e1
  have hB : Bd (n + 2) h := bd_of h0 hs (by omega) (by omega) (by omega)
  fail "s"
  refine wo_mul (hB.mulC hB (by omega)) ?_
  fail "s"
  refine wk_d (fun c => ?_) (fun c => ?_)
  · have hle := le_sq (by omega) c
    fail "s"
    refine wo_mul (bd2.mulC hB (by omega)) ?_
    fail "s"
    exact ⟨(2 * s + 2 - 2 * h).toNat, by omega, 2 * h, rfl, by omega, by omega, rfl⟩
  · have c2 : s < h * h := by omega
    fail "s"
    refine w_while (fun m ρ => ∃ (a t : Int) (x : Option A), ρ = [some (.v (.int s)), some (.v (.int a)), some (.v (.int t)), x] ∧ 0 ≤ a ∧ a < t ∧ t ≤ 2 * s + 1 ∧ a * a ≤ s ∧ s < t * t ∧ m = (t - a).toNat) ⟨_, _, _, rfl, by omega, by omega, b2, by omega, c2, rfl⟩ fun m ρ ⟨a, t, x, e1, k1, k2, k3, k4, k5, e2⟩ => ?_
    subst e1
    fail "s"
    refine wk_d (fun c3 => ?_) (fun c3 => ?_)
    · fail "s"
      rw [half]
      generalize hm : (a + t) / 2 = mid
      have hmB : Bd (n + 2) mid := bd_of h0 hs (by omega) (by omega) (by omega)
      fail "s"
      refine wo_mul (hmB.mulC hmB (by omega)) ?_
      fail "s"
      refine wk_d (fun c4 => ?_) (fun c4 => ?_)
      · fail "s"
        exact ⟨_, by omega, mid, t, _, rfl, by omega, by omega, by omega, c4, k5, rfl⟩
      · fail "s"
        exact ⟨_, by omega, a, mid, _, rfl, by omega, by omega, by omega, k4, by omega, rfl⟩
    · fail "s"
      have e : t = a + 1 := by omega
      subst e
      exact q _ ⟨k1, k4, k5⟩
end DD.K33

namespace DD.K33
open PySem PySem.Spec L2
open PyProof.Rows hiding St
local macro_rules | `(tactic| fail "z") => `(tactic| first | (refine sz_of ?_; simp only [List.length_cons, List.length_nil, List.length_map, List.length_range, List.length_set, List.length_append, Int.reduceNeg, Int.reduceSub, Int.reduceToNat, Nat.reduceAdd, Nat.zero_add, Nat.reduceLT, Nat.reduceLeDiff, ne_eq, Nat.reduceEqDiff, not_false_eq_true]; done) | (refine szl_of ?_; simp only [List.length_cons, List.length_nil, List.length_map, List.length_range, List.length_set, List.length_append, Int.reduceNeg, Int.reduceSub, Int.reduceToNat, Nat.reduceAdd, Nat.zero_add, Nat.reduceLT, Nat.reduceLeDiff, ne_eq, Nat.reduceEqDiff, not_false_eq_true]; done) | (simp only [List.length_cons, List.length_nil, List.length_map, List.length_range, List.length_set, List.length_append, Int.reduceNeg, Int.reduceSub, Int.reduceToNat, Nat.reduceAdd, Nat.zero_add, Nat.reduceLT, Nat.reduceLeDiff, ne_eq, Nat.reduceEqDiff, not_false_eq_true]; done))
local macro_rules | `(tactic| fail "w") => `(tactic| with_reducible first
  | refine w_seq ?_ | refine w_setF ?_ | refine w_setT ?_ | refine w_ret ?_ | refine w_ifS ?_ | refine w_expr ?_ | refine w_for ?_ | refine w_parF ?_ | refine w_asg ?_ | refine w_skip ?_
  | refine w_var (by with_unfolding_all rfl) ?_ | refine w_c ?_ | refine w_op2 ?_ | refine w_op1 ?_ | refine w_test ?_ | refine wb ?_ | refine w_nil ?_ | refine w_cons ?_
  | refine w_tup ?_ | refine w_lst ?_ | refine w_if ?_ | refine w_andT ?_ | refine w_orT ?_ | refine w_notT ?_ | refine w_andV ?_ | refine w_orV ?_ | refine w_notV ?_
  | refine wk_t ?_ | refine wk_f ?_ | refine wk_n ?_
  | refine wf_nx ?_ | refine wf_ret ?_ | refine wf_bk ?_ | refine wf_ct ?_ | refine wl_nx ?_ | refine wl_ct ?_ | refine wl_bk ?_ | refine wl_ret ?_ | refine wr_nx ?_ | refine wr_ret ?_
  | refine w_gset (by fail "z") ?_ | refine w_gtup (by with_unfolding_all rfl) ?_ | refine w_gcons ?_ | refine w_gnil ?_ | refine w_items ?_ | refine w_rng1 ?_ | refine w_rng2 ?_
  | refine w_blt ?_ | refine w_isi ?_ | refine w_vnil ?_ | refine w_vvalF ?_ | refine w_vvalT ?_ | refine w_vref (by with_unfolding_all rfl) ?_ | refine w_call ?_
  | refine w_appendF (by with_unfolding_all rfl) ?_ | refine w_extend (by with_unfolding_all rfl) ?_ | refine w_setitemF ?_ | refine w_ixOwn (by with_unfolding_all rfl) ?_ | refine w_lenOwn (by with_unfolding_all rfl) ?_ | refine w_move (by with_unfolding_all rfl) ?_ | refine w_frz (by with_unfolding_all rfl) ?_
  | refine wix (by with_unfolding_all rfl) (by with_unfolding_all rfl) ?_ | refine wap (by with_unfolding_all rfl) (by fail "z") ?_ | refine wxt (by with_unfolding_all rfl) (by with_unfolding_all rfl) (by fail "z") ?_ | refine wmm (by with_unfolding_all rfl) ?_ | refine wst (by with_unfolding_all rfl) (by with_unfolding_all rfl) ?_ | refine win ?_
  | refine w_fmt ?_ | refine w_jscons ?_ | refine w_jsnil ?_ | refine wjs ?_ | refine w_join ?_ | refine w_zip ?_ | refine w_zipS ?_ | refine w_enum ?_ | refine w_bor ?_ | refine w_borT ?_ | refine wfl_bl ?_ | refine wfl_int ?_
  | refine w_no ?_ | refine w_so ?_ | refine w_sl ?_ | refine w_rev ?_ | refine w_comp ?_ | refine w_chain ?_ | refine w_compnil ?_ | refine w_compcons ?_ | refine wp_pure ?_
  | refine wo_add ?_ | refine wo_sub ?_ | refine wo_neg ?_ | refine wo_lt ?_ | refine wo_le ?_ | refine wo_gt ?_ | refine wo_ge ?_ | refine wo_eqI ?_ | refine wo_neI ?_ | refine wo_notB ?_ | refine wo_isB ?_
  | refine wo_abs ?_ | refine wo_lenT ?_ | refine wo_lenL ?_ | refine wo_lenF ?_ | refine wo_lenM ?_ | refine wo_some ?_ | refine ix_at (by with_unfolding_all rfl) (by with_unfolding_all rfl) ?_
  | refine wo_mod (by omega) ?_ | refine wo_div (divc64 (by omega) (by omega) (by omega)) ?_ | refine wo_mul (mulc64 (by omega) (by omega) (by omega) (by omega)) ?_ | refine wo_pow (cpow64 (by omega) (by omega) (by omega) (by omega)) ?_
  | refine And.intro (by fail "z") ?_ | refine And.intro (And.intro (by fail "z") (And.intro (by fail "z") (by fail "z"))) ?_)
local macro_rules | `(tactic| fail "e") => `(tactic| simp only [List.map_cons, List.map_nil, List.replicate, List.cons_append, List.nil_append, List.append_nil, List.set_cons_zero, List.set_cons_succ, List.set_nil, A.frz, frzs_v, frzs, Nat.reduceSub, gath, back, List.getElem?_cons_zero, List.getElem?_cons_succ, Option.map_some, lentL, List.contains_cons, List.contains_nil, List.elem_nil, List.elem_cons, Nat.reduceAdd, Nat.reduceBEq, Bool.or_false, Bool.or_true, Bool.false_or, Bool.true_or, beq_self_eq_true, if_true, if_false, reduceIte, Bool.false_eq_true, Int.reduceToNat, iBool_bl, iBool_int, iInt_bl, iInt_int, isI_int, isI_bl, iTup_tup, iTup_lst, iTup_int, Int.reducePow, List.getElem?_nil, wipeE, wipeF, parkL, putL, Nat.reduceLT, Nat.reduceLeDiff, frzE])
local macro_rules | `(tactic| fail "s") => `(tactic| repeat (first | fail "w" | fail "e"))
local macro_rules | `(tactic| fail "t") => `(tactic| refine take_s (by omega) (by omega) (by omega) (by omega) (by omega) ?_)
local macro_rules | `(tactic| fail "w") => `(tactic| with_reducible first | refine w_raise ?_ | refine w_lam ?_ | refine w_step ?_ | refine w_par3 ?_)
local macro_rules | `(tactic| fail "t") => `(tactic| refine take_s (by omega) (by omega) (by omega) (by omega) (by omega) ?_)
/-- the numbers on the wheel g whose square is p -/
def sqs (g p : Int) : List Int := ((List.range g.toNat).map fun n : Nat => (n : Int)).filter fun z => decide ((z * z).fmod g = p)
theorem sqs_mem {g p z : Int} (h : z ∈ sqs g p) : 0 ≤ z ∧ z < g := by
  obtain ⟨h1, _⟩ := List.mem_filter.mp h
  obtain ⟨n, hn, rfl⟩ := List.mem_map.mp h1
  have := List.mem_range.mp hn
  omega
theorem sqs_sorted (g p : Int) : (sqs g p).Pairwise (· < ·) := by
  refine List.Pairwise.filter _ ?_
  rw [List.pairwise_map]
  exact List.pairwise_lt_range.imp fun h => by omega
theorem sqs_len {g p : Int} (h : g ≤ 13) : (sqs g p).length ≤ 13 := by
  refine Nat.le_trans (List.length_filter_le _ _) ?_
  simp
  omega
theorem least_sorted {i : Int} {l : List Int} (h : (i :: l).Pairwise (· < ·)) : leastI (i :: l) = some i := by
  obtain ⟨h1, h2, h3⟩ := foldl_min l i
  have hl : ∀ x ∈ l, i < x := (List.pairwise_cons.mp h).1
  have : l.foldl min i = i := by
    rcases h1 with e | e
    · exact e
    · have := hl _ e; omega
  show some (l.foldl min i) = some i
  rw [this]
theorem intsD_map : ∀ l : List Int, intsD (l.map .int) = some l
  | [] => rfl
  | i :: l => by rw [List.map_cons]; unfold intsD; rw [intsD_map l]; rfl
/-- d is the root of p over q -/
def RootR (g p q : Int) (d : D) : Prop := (0 < g ∧ d = match sqs g p with | [] => .non | i :: _ => .tup [.int i, .int 1]) ∨ (¬ 0 < g ∧ p < 0 ∧ d = .non) ∨
  (¬ 0 < g ∧ 0 ≤ p ∧ ∃ a b, Isq p a ∧ Isq q b ∧ d = if a * a = p ∧ b * b = q then .tup [.int a, .int b] else .non)
theorem RootR.uniq {g p q : Int} {d e : D} (h : RootR g p q d) (k : RootR g p q e) : d = e := by
  rcases h with ⟨h0, h⟩ | ⟨h0, h1, h⟩ | ⟨h0, h1, a, b, ha, hb, h⟩ <;> rcases k with ⟨k0, k⟩ | ⟨k0, k1, k⟩ | ⟨k0, k1, a', b', ka, kb, k⟩
  · rw [h, k]
  · exact absurd h0 k0
  · exact absurd h0 k0
  · exact absurd k0 h0
  · rw [h, k]
  · omega
  · exact absurd k0 h0
  · omega
  · rw [ha.uniq ka, hb.uniq kb] at h
    rw [h, k]
theorem eqv2 {a b c d : Int} : PyData.eqv (D.tup [.int a, .int b]).py (D.tup [.int c, .int d]).py = (decide (a = c) && decide (b = d)) := by
  simp [D.py, pys, PyData.eqv, PyData.eqvAll, eqv_int]
  rfl
theorem okc2 {a b : Int} : okc 1 (.tup [.int a, .int b]) = true := okc_tup fun d hd => by simp at hd; rcases hd with rfl | rfl <;> exact okc_int
theorem okc_ints {l : List Int} : okc 1 (.lst (l.map .int)) = true := okc_lst fun d hd => by
  obtain ⟨i, _, rfl⟩ := List.mem_map.mp hd
  exact okc_int
/-- the comprehension of the wheel's roots -/
theorem sq_comp {g p : Int} {i : Nat} {ρ0 : DEnv} {QL : List A → DEnv → Prop} {E : Ex → DEnv → Prop} {t : M Bool} (hg : 0 < g) (hg2 : g ≤ 13) (k : QL ((sqs g p).map fun z => A.v (.int z)) ρ0)
    (step : ∀ z : Int, 0 ≤ z → z < g → Wp (gSet i (.int z) ρ0) (fun _ ρ1 => Wp (t ρ1) (fun b ρ2 => b = decide ((z * z).fmod g = p) ∧ Wp (dVar i ρ2) (fun a ρ3 => a = .v (.int z) ∧ wipeE ρ3 [i] = ρ0) E ∧ wipeE ρ2 [i] = ρ0) E) E) :
    Wp (compL [i] (gSet i) t (dVar i) ((List.range g.toNat).map fun n : Nat => D.int n) ρ0) QL E := by
  refine w_compL (fun l ds ρ => ρ = ρ0 ∧ ∃ pre suf : List Int, (∀ z ∈ suf, 0 ≤ z ∧ z < g) ∧ ds = suf.map D.int ∧ pre ++ suf = (List.range g.toNat).map (fun n : Nat => (n : Int)) ∧ l = (pre.filter fun z => decide ((z * z).fmod g = p)).map fun z => A.v (.int z)) (l := []) ?_ ?_ ?_
  · refine ⟨rfl, [], (List.range g.toNat).map (fun n : Nat => (n : Int)), ?_, by rw [List.map_map]; rfl, rfl, rfl⟩
    · intro z hz
      obtain ⟨n, hn, rfl⟩ := List.mem_map.mp hz
      have := List.mem_range.mp hn
      omega
  · rintro l d ds _ ⟨rfl, pre, suf, hs, e1, e2, rfl⟩
    cases suf with
    | nil => cases e1
    | cons z suf =>
      simp only [List.map_cons, List.cons.injEq] at e1
      obtain ⟨rfl, rfl⟩ := e1
      have hz := hs z (by simp)
      refine wp_mono (step z hz.1 hz.2) (fun _ ρ1 k1 => wp_mono k1 (fun b ρ2 k2 => ?_) fun _ _ x => x) fun _ _ x => x
      obtain ⟨rfl, k3, k4⟩ := k2
      have hs' : ∀ z ∈ suf, 0 ≤ z ∧ z < g := fun y hy => hs y (List.mem_cons_of_mem _ hy)
      refine ⟨fun c => wp_mono k3 (fun a ρ3 ⟨e3, e4⟩ => ?_) fun _ _ x => x, fun c => ?_⟩
      · subst e3
        refine ⟨e4, pre ++ [z], suf, hs', rfl, by rw [List.append_assoc]; exact e2, ?_⟩
        rw [List.filter_append, List.map_append]
        simp only [List.filter_cons, c, if_true, List.filter_nil, List.map_cons, List.map_nil]
      · refine ⟨k4, pre ++ [z], suf, hs', rfl, by rw [List.append_assoc]; exact e2, ?_⟩
        rw [List.filter_append, List.map_append]
        simp only [List.filter_cons, c, Bool.false_eq_true, if_false, List.filter_nil, List.map_nil, List.append_nil]
  · rintro l' ρ ⟨rfl, pre, suf, _, e1, e2, e3⟩
    cases suf with
    | cons _ _ => cases e1
    | nil =>
      rw [List.append_nil] at e2
      rw [List.nil_append] at e3
      rw [e3, e2]
      exact k
theorem bd_le {n : Nat} {s r : Int} (h0 : 0 ≤ s) (hs : Bd n s) (h : Isq s r) : Bd n r := by
  have := le_sq h.1 h.2.1
  have := h.1
  unfold Bd at *
  omega
theorem root_in_s {n : Nat} {g p q : Int} {Q : A → List A → Prop} {E : Ex → List A → Prop} (hg : 0 ≤ g) (hg2 : g ≤ 13) (hn : n ≤ 8000) (hp : Bd n p) (hq : Bd n q) (h0 : 0 < q)
    (k : ∀ d, RootR g p q d → Q (.v d) [.v (.int g), .v (.tup [.int p, .int q])]) : Wc (n_root_in [.v (.int g), .v (.tup [.int p, .int q])]) Q E := by
  refine wc_fn rfl rfl ?_
  unfold b_root_in
  fail "s"
  refine wk_d (fun c => ?_) (fun c => ?_)
  · fail "s"
    refine ⟨⟨by omega, by omega⟩, by simp [sizeLine]; omega, ?_⟩
    refine sq_comp (p := p) c hg2 ?_ ?_
    · fail "s"
      have hl := sqs_len (p := p) hg2
      have k := k _ (.inl ⟨c, rfl⟩)
      have so := sqs_sorted g p
      rw [show (sqs g p).map (fun z => A.v (.int z)) = ((sqs g p).map D.int).map A.v by rw [List.map_map]; rfl]
      fail "s"
      refine wo_neNil okc_ints (by decide) ?_
      generalize sqs g p = l at *
      cases l with
      | nil =>
        simp only [List.map_nil, List.map_cons, List.isEmpty_nil, List.isEmpty_cons, Bool.not_true, Bool.not_false]
        fail "s"
        exact k
      | cons i l =>
        simp only [List.map_nil, List.map_cons, List.isEmpty_nil, List.isEmpty_cons, Bool.not_true, Bool.not_false]
        fail "s"
        refine wo_eq (show opMinL [.v (.lst (D.int i :: l.map D.int))] = some (.v (.int i)) by
          rw [← List.map_cons]
          unfold opMinL
          dsimp only [A.frz, lstD]
          rw [intsD_map, Option.bind_some, least_sorted so]
          rfl) ?_
        fail "s"
        exact k
    · intro z hz0 hz
      have hzB : Bd 4 z := by unfold Bd; omega
      fail "s"
      refine ⟨?_, trivial⟩
      fail "s"
  · fail "s"
    refine wk_d (fun c2 => ?_) (fun c2 => ?_)
    · fail "s"
      exact k _ (.inr (.inl ⟨c, c2, rfl⟩))
    · fail "s"
      refine whole_root_s (by omega) hp hn fun a ha => ?_
      fail "s"
      refine whole_root_s (by omega) hq hn fun b hb => ?_
      have k := k _ (.inr (.inr ⟨c, by omega, a, b, ha, hb, rfl⟩))
      have haB : Bd n a := bd_le (by omega) hp ha
      have hbB : Bd n b := bd_le (by omega) hq hb
      fail "s"
      refine wo_mul (haB.mulC haB (by omega)) ?_
      fail "s"
      refine wo_mul (hbB.mulC hbB (by omega)) ?_
      fail "s"
      refine wo_eqD (k := 1) (j := 1) okc2 okc2 (by decide) (by decide) ?_
      dsimp only [A.frz]
      rw [eqv2]
      by_cases e1 : a * a = p
      · by_cases e2 : b * b = q
        · rw [if_pos ⟨e1, e2⟩] at k
          rw [decide_eq_true e1, decide_eq_true e2, Bool.and_self]
          fail "s"
          exact k
        · rw [if_neg (fun z => e2 z.2)] at k
          rw [decide_eq_true e1, decide_eq_false e2, Bool.true_and]
          fail "s"
          exact k
      · rw [if_neg (fun z => e1 z.1)] at k
        rw [decide_eq_false e1, Bool.false_and]
        fail "s"
        exact k
end DD.K33

namespace DD.K33
open PySem PySem.Spec L2
open PyProof.Rows hiding St
local macro_rules | `(tactic| fail "z") => `(tactic| first | (refine sz_of ?_; simp only [List.length_cons, List.length_nil, List.length_map, List.length_range, List.length_set, List.length_append, Int.reduceNeg, Int.reduceSub, Int.reduceToNat, Nat.reduceAdd, Nat.zero_add, Nat.reduceLT, Nat.reduceLeDiff, ne_eq, Nat.reduceEqDiff, not_false_eq_true]; done) | (refine szl_of ?_; simp only [List.length_cons, List.length_nil, List.length_map, List.length_range, List.length_set, List.length_append, Int.reduceNeg, Int.reduceSub, Int.reduceToNat, Nat.reduceAdd, Nat.zero_add, Nat.reduceLT, Nat.reduceLeDiff, ne_eq, Nat.reduceEqDiff, not_false_eq_true]; done) | (simp only [List.length_cons, List.length_nil, List.length_map, List.length_range, List.length_set, List.length_append, Int.reduceNeg, Int.reduceSub, Int.reduceToNat, Nat.reduceAdd, Nat.zero_add, Nat.reduceLT, Nat.reduceLeDiff, ne_eq, Nat.reduceEqDiff, not_false_eq_true]; done))
local macro_rules | `(tactic| fail "w") => `(tactic| with_reducible first
  | refine w_seq ?_ | refine w_setF ?_ | refine w_setT ?_ | refine w_ret ?_ | refine w_ifS ?_ | refine w_expr ?_ | refine w_for ?_ | refine w_parF ?_ | refine w_asg ?_ | refine w_skip ?_
  | refine w_var (by with_unfolding_all rfl) ?_ | refine w_c ?_ | refine w_op2 ?_ | refine w_op1 ?_ | refine w_test ?_ | refine wb ?_ | refine w_nil ?_ | refine w_cons ?_
  | refine w_tup ?_ | refine w_lst ?_ | refine w_if ?_ | refine w_andT ?_ | refine w_orT ?_ | refine w_notT ?_ | refine w_andV ?_ | refine w_orV ?_ | refine w_notV ?_
  | refine wk_t ?_ | refine wk_f ?_ | refine wk_n ?_
  | refine wf_nx ?_ | refine wf_ret ?_ | refine wf_bk ?_ | refine wf_ct ?_ | refine wl_nx ?_ | refine wl_ct ?_ | refine wl_bk ?_ | refine wl_ret ?_ | refine wr_nx ?_ | refine wr_ret ?_
  | refine w_gset (by fail "z") ?_ | refine w_gtup (by with_unfolding_all rfl) ?_ | refine w_gcons ?_ | refine w_gnil ?_ | refine w_items ?_ | refine w_rng1 ?_ | refine w_rng2 ?_
  | refine w_blt ?_ | refine w_isi ?_ | refine w_vnil ?_ | refine w_vvalF ?_ | refine w_vvalT ?_ | refine w_vref (by with_unfolding_all rfl) ?_ | refine w_call ?_
  | refine w_appendF (by with_unfolding_all rfl) ?_ | refine w_extend (by with_unfolding_all rfl) ?_ | refine w_setitemF ?_ | refine w_ixOwn (by with_unfolding_all rfl) ?_ | refine w_lenOwn (by with_unfolding_all rfl) ?_ | refine w_move (by with_unfolding_all rfl) ?_ | refine w_frz (by with_unfolding_all rfl) ?_
  | refine wix (by with_unfolding_all rfl) (by with_unfolding_all rfl) ?_ | refine wap (by with_unfolding_all rfl) (by fail "z") ?_ | refine wxt (by with_unfolding_all rfl) (by with_unfolding_all rfl) (by fail "z") ?_ | refine wmm (by with_unfolding_all rfl) ?_ | refine wst (by with_unfolding_all rfl) (by with_unfolding_all rfl) ?_ | refine win ?_
  | refine w_fmt ?_ | refine w_jscons ?_ | refine w_jsnil ?_ | refine wjs ?_ | refine w_join ?_ | refine w_zip ?_ | refine w_zipS ?_ | refine w_enum ?_ | refine w_bor ?_ | refine w_borT ?_ | refine wfl_bl ?_ | refine wfl_int ?_
  | refine w_no ?_ | refine w_so ?_ | refine w_sl ?_ | refine w_rev ?_ | refine w_comp ?_ | refine w_chain ?_ | refine w_compnil ?_ | refine w_compcons ?_ | refine wp_pure ?_
  | refine wo_add ?_ | refine wo_sub ?_ | refine wo_neg ?_ | refine wo_lt ?_ | refine wo_le ?_ | refine wo_gt ?_ | refine wo_ge ?_ | refine wo_eqI ?_ | refine wo_neI ?_ | refine wo_notB ?_ | refine wo_isB ?_
  | refine wo_abs ?_ | refine wo_lenT ?_ | refine wo_lenL ?_ | refine wo_lenF ?_ | refine wo_lenM ?_ | refine wo_some ?_ | refine ix_at (by with_unfolding_all rfl) (by with_unfolding_all rfl) ?_
  | refine wo_mod (by omega) ?_ | refine wo_div (divc64 (by omega) (by omega) (by omega)) ?_ | refine wo_mul (mulc64 (by omega) (by omega) (by omega) (by omega)) ?_ | refine wo_pow (cpow64 (by omega) (by omega) (by omega) (by omega)) ?_
  | refine And.intro (by fail "z") ?_ | refine And.intro (And.intro (by fail "z") (And.intro (by fail "z") (by fail "z"))) ?_)
local macro_rules | `(tactic| fail "e") => `(tactic| simp only [List.map_cons, List.map_nil, List.replicate, List.cons_append, List.nil_append, List.append_nil, List.set_cons_zero, List.set_cons_succ, List.set_nil, A.frz, frzs_v, frzs, Nat.reduceSub, gath, back, List.getElem?_cons_zero, List.getElem?_cons_succ, Option.map_some, lentL, List.contains_cons, List.contains_nil, List.elem_nil, List.elem_cons, Nat.reduceAdd, Nat.reduceBEq, Bool.or_false, Bool.or_true, Bool.false_or, Bool.true_or, beq_self_eq_true, if_true, if_false, reduceIte, Bool.false_eq_true, Int.reduceToNat, iBool_bl, iBool_int, iInt_bl, iInt_int, isI_int, isI_bl, iTup_tup, iTup_lst, iTup_int, Int.reducePow, List.getElem?_nil, wipeE, wipeF, parkL, putL, Nat.reduceLT, Nat.reduceLeDiff, frzE])
local macro_rules | `(tactic| fail "s") => `(tactic| repeat (first | fail "w" | fail "e"))
local macro_rules | `(tactic| fail "t") => `(tactic| refine take_s (by omega) (by omega) (by omega) (by omega) (by omega) ?_)
local macro_rules | `(tactic| fail "w") => `(tactic| with_reducible first | refine w_raise ?_ | refine w_lam ?_ | refine w_step ?_ | refine w_par3 ?_)
local macro_rules | `(tactic| fail "t") => `(tactic| refine take_s (by omega) (by omega) (by omega) (by omega) (by omega) ?_)
theorem wo_isN {d : D} {P : A → Prop} (h : P (.v (.bl (isN d)))) : Wo (opIsN (.v d) (.v .non)) P := ⟨_, rfl, h⟩
theorem wo_notN {d : D} {P : A → Prop} (h : P (.v (.bl (!isN d)))) : Wo (opNotN (.v d) (.v .non)) P := ⟨_, rfl, h⟩
/-- whether p over q is a square over g -/
def SqB (g p q : Int) (b : Bool) : Prop := ∃ d, RootR g p q d ∧ b = !isN d
theorem SqB.uniq {g p q : Int} {b c : Bool} (h : SqB g p q b) (k : SqB g p q c) : b = c := by
  obtain ⟨d, hd, rfl⟩ := h
  obtain ⟨e, he, rfl⟩ := k
  rw [hd.uniq he]
theorem sqs_any {g p : Int} : (List.range g.toNat).any (fun n : Nat => decide (((n : Int) * n).fmod g = p)) = !(sqs g p).isEmpty := by
  unfold sqs
  generalize List.range g.toNat = l
  induction l with
  | nil => rfl
  | cons n l ih =>
    rw [List.any_cons, ih, List.map_cons, List.filter_cons]
    cases decide (((n : Int) * n).fmod g = p) <;> simp
theorem any_map {α : Type} {F : α → Bool} {l : List α} : opAny [.m (l.map fun d => A.v (.bl (F d)))] = some (.v (.bl (l.any F))) := by
  have e : (A.m (l.map fun d => A.v (.bl (F d)))).frz = .lst (l.map fun d => .bl (F d)) := by
    show D.lst (frzs _) = _
    rw [frzs_eq, List.map_map]
    rfl
  unfold opAny opBs
  dsimp only
  rw [e]
  unfold lstD
  rw [Option.bind_some, bls_map, Option.map_some]
  congr 3
  rw [List.any_map]
  rfl
theorem is_square_s {n : Nat} {g p q : Int} {Q : A → List A → Prop} {E : Ex → List A → Prop} (hg : 0 ≤ g) (hg2 : g ≤ 13) (hn : n ≤ 8000) (hp : Bd n p) (hq : Bd n q) (h0 : 0 < q)
    (k : ∀ b, SqB g p q b → Q (.v (.bl b)) [.v (.int g), .v (.tup [.int p, .int q])]) : Wc (n_is_square [.v (.int g), .v (.tup [.int p, .int q])]) Q E := by
  refine wc_fn rfl rfl ?_
  unfold b_is_square
  fail "s"
  refine root_in_s hg hg2 hn hp hq h0 fun d hd => ?_
  fail "s"
  refine wo_notN ?_
  fail "s"
  exact k _ ⟨d, hd, rfl⟩
theorem sq0 {g p q : Int} {a b : Int} (c : ¬ 0 < g) (hp : 0 ≤ p) (ha : Isq p a) (hb : Isq q b) : SqB g p q (decide (a * a = p) && decide (b * b = q)) := by
  refine ⟨_, .inr (.inr ⟨c, hp, a, b, ha, hb, rfl⟩), ?_⟩
  by_cases e1 : a * a = p
  · by_cases e2 : b * b = q
    · rw [if_pos ⟨e1, e2⟩, decide_eq_true e1, decide_eq_true e2]
      rfl
    · rw [if_neg (fun z => e2 z.2), decide_eq_false e2, Bool.and_false]
      rfl
  · rw [if_neg (fun z => e1 z.1), decide_eq_false e1, Bool.false_and]
    rfl
theorem l_is_square_s {n : Nat} {g p q : Int} {Q : A → List A → Prop} {E : Ex → List A → Prop} (hg : 0 ≤ g) (hg2 : g ≤ 13) (hn : n ≤ 8000) (hp : Bd n p) (hq : Bd n q) (h0 : 0 < q)
    (k : ∀ b, SqB g p q b → Q (.v (.bl b)) [.v (.int g), .v (.tup [.int p, .int q])]) : Wc (n_l_is_square [.v (.int g), .v (.tup [.int p, .int q])]) Q E := by
  refine wc_fn rfl rfl ?_
  unfold b_l_is_square
  fail "s"
  refine wk_d (fun c => ?_) (fun c => ?_)
  · fail "s"
    refine ⟨⟨by omega, by omega⟩, by simp [sizeLine]; omega, ?_⟩
    refine w_compMap (fun n : Nat => D.int n) (fun n : Nat => A.v (.bl (decide (((n : Int) * n).fmod g = p)))) (xs := List.range g.toNat) rfl ?_ ?_
    · intro z hz
      have := List.mem_range.mp hz
      fail "s"
    · fail "s"
      refine wo_eq any_map ?_
      rw [sqs_any]
      fail "s"
      exact k (!(sqs g p).isEmpty) ⟨_, .inl ⟨c, rfl⟩, by cases sqs g p <;> rfl⟩
  · fail "s"
    refine wk_d (fun c2 => ?_) (fun c2 => ?_)
    · fail "s"
      refine wo_some ?_
      refine ⟨sz_of (by simp), ?_⟩
      fail "s"
      refine l_root_beneath_s (by omega) hp hn fun a ha => ?_
      have haB : Bd n a := bd_le (by omega) hp ha
      fail "s"
      refine wo_pow (haB.pow2 (by omega)) ?_
      fail "s"
      refine l_root_beneath_s (by omega) hq hn fun b hb => ?_
      have hbB : Bd n b := bd_le (by omega) hq hb
      fail "s"
      refine wo_pow (hbB.pow2 (by omega)) ?_
      fail "s"
      have k := k _ (sq0 c (by omega) ha hb)
      refine wo_eq rfl ?_
      dsimp only
      simp only [show ∀ z : Int, z ^ 2 = z * z from fun z => by rw [Int.pow_succ, Int.pow_succ, Int.pow_zero, Int.one_mul]]
      fail "s"
      simpa using k
    · fail "s"
      exact k false ⟨_, .inr (.inl ⟨c, by omega, rfl⟩), rfl⟩
theorem canon_pos {g u : Int} (h0 : 0 ≤ u) (h : u < g) : canon g u 1 = dN u 1 := by
  unfold canon
  rw [if_pos (by omega), Int.fmod_eq_of_lt h0 h]
theorem numB_two {g a b : Int} (h : numB g (dN a b) = true) : (0 < g ∧ 0 ≤ a ∧ a < g ∧ b = 1) ∨ (¬ 0 < g ∧ 1 ≤ b ∧ Int.gcd a b = 1) := by
  unfold numB dN at h
  dsimp only at h
  split at h
  · rename_i c
    simp at h
    exact .inl ⟨c, h.1, h.2.1, h.2.2⟩
  · rename_i c
    simp at h
    exact .inr ⟨c, by omega, by omega⟩
theorem numB_canon {g a b : Int} (h : numB g (dN a b) = true) : canon g a b = dN a b ∧ 0 < b ∧ okd g b := by
  rcases numB_two h with ⟨c, h1, h2, rfl⟩ | ⟨c, h1, h2⟩
  · exact ⟨canon_pos h1 h2, by decide, by unfold okd; rw [if_pos c]⟩
  · refine ⟨?_, by omega, by unfold okd; rw [if_neg c]; omega⟩
    unfold canon cmn
    rw [if_neg c, if_neg (by omega), h2, Int.mul_one, show ((1 : Nat) : Int) = 1 from rfl, Int.fdiv_one, Int.fdiv_one]
theorem numB_form {g : Int} {d : D} (h : numB g d = true) : ∃ a b, d = dN a b := by
  match d, h with
  | .tup [.int a, .int b], _ => exact ⟨a, b, rfl⟩
section
variable {g : Int} {R : Type} [Lean.Grind.CommRing R] {N : NumX g R} {n m : Nat} {Q : A → List A → Prop} {E : Ex → List A → Prop}
theorem num_is {d : D} (h : numB g d = true) : ∃ s, d = N.nm s := by
  obtain ⟨a, b, rfl⟩ := numB_form h
  obtain ⟨h1, h2, h3⟩ := numB_canon h
  obtain ⟨r, e⟩ := N.ex a b h2 h3
  exact ⟨r, h1.symm.trans e⟩
theorem q_pos (r : R) : 0 < N.q r := by
  rcases numB_two (N.good r) with ⟨_, _, _, h⟩ | ⟨_, h, _⟩ <;> omega
theorem isq_sq {r : Int} (h : 0 ≤ r) : Isq (r * r) r := ⟨h, Int.le_refl _, by
  have : (r + 1) * (r + 1) = r * r + (r + r + 1) := by rw [Int.add_mul, Int.mul_add]; omega
  omega⟩
theorem sqp_mul (r : R) : SqB g (N.p (r * r)) (N.q (r * r)) true := by
  have e := N.mul r r
  rcases numB_two (N.good r) with ⟨c, h1, h2, h3⟩ | ⟨c, h1, h2⟩
  · rw [h3, Int.mul_one] at e
    unfold canon at e
    rw [if_pos c] at e
    obtain ⟨e1, e2⟩ := dN_inj e
    refine ⟨_, .inl ⟨c, rfl⟩, ?_⟩
    have hm : N.p r ∈ sqs g (N.p (r * r)) := by
      unfold sqs
      refine List.mem_filter.mpr ⟨List.mem_map.mpr ⟨(N.p r).toNat, List.mem_range.mpr (by omega), by omega⟩, ?_⟩
      rw [e1]
      exact decide_eq_true rfl
    cases h : sqs g (N.p (r * r)) with
    | nil => rw [h] at hm; cases hm
    | cons _ _ => rfl
  · have hgc : Int.gcd (N.p r * N.p r) (N.q r * N.q r) = 1 := by
      rw [Int.gcd, Int.natAbs_mul, Int.natAbs_mul]
      exact Nat.Coprime.mul_left (Nat.Coprime.mul_right h2 h2) (Nat.Coprime.mul_right h2 h2)
    have hq := Int.mul_pos (show 0 < N.q r by omega) (show 0 < N.q r by omega)
    unfold canon cmn at e
    rw [if_neg c, if_neg (by omega), hgc, Int.mul_one, show ((1 : Nat) : Int) = 1 from rfl, Int.fdiv_one, Int.fdiv_one] at e
    obtain ⟨e1, e2⟩ := dN_inj e
    rw [← e1, ← e2]
    have hp : 0 ≤ N.p r * N.p r := by
      rcases Int.le_total 0 (N.p r) with k | k
      · exact Int.mul_nonneg k k
      · exact Int.mul_nonneg_of_nonpos_of_nonpos k k
    have ha : Isq (N.p r * N.p r) ((N.p r).natAbs : Int) := by
      have : N.p r * N.p r = ((N.p r).natAbs : Int) * ((N.p r).natAbs : Int) := (Int.natAbs_mul_self' _).symm
      rw [this]
      exact isq_sq (by omega)
    have hb : Isq (N.q r * N.q r) (N.q r) := isq_sq (by omega)
    have := sq0 c hp ha hb
    rw [decide_eq_true (Int.natAbs_mul_self' _), decide_eq_true rfl] at this
    exact this
theorem wo_eqZ {r : R} {P : A → Prop} (q : ∀ b : Bool, (b = true → r = 0) → (b = false → r ≠ 0) → P (.v (.bl b))) : Wo (opEq (.v (N.nm r)) (.v (.tup [.int 0, .int 1]))) P := by
  refine wo_eqD (k := 1) (j := 1) okc_nmX (by simp [okc, okcs, A.frz]) (by decide) (by decide) (q _ (fun h => ?_) fun h e => ?_)
  · have e2 : PyData.eqv (dN (N.p r) (N.q r)).py (dN 0 1).py = true := h
    rw [eqv_dN] at e2
    simp at e2
    refine NumX.nm_inj (N := N) ?_
    show dN (N.p r) (N.q r) = dN (N.p 0) (N.q 0)
    rw [N.zero, e2.1, e2.2]
  · subst e
    have e2 : (A.v (N.nm 0)).frz.py = (A.v (.tup [.int 0, .int 1])).frz.py := congrArg D.py N.zero
    rw [e2, eqv_self (k := 1) (by simp [okc, okcs, A.frz])] at h
    cases h
end
/-- products of numbers other than nought are such -/
def Dom (R : Type) [Lean.Grind.CommRing R] : Prop := (∀ r s : R, r ≠ 0 → s ≠ 0 → r * s ≠ 0) ∧ (1 : R) ≠ 0
theorem dom_of {g : Int} (h : Gr g) : ∃ (R : Type) (_ : Lean.Grind.CommRing R) (_ : NumX g R), Dom R := by
  rcases h with rfl | rfl | rfl | rfl | rfl | rfl
  · exact ⟨Rat, inferInstance, numX0, fun r s hr hs e => by rcases Rat.mul_eq_zero.mp e with z | z <;> contradiction, by decide +kernel⟩
  · exact ⟨_root_.Fin 3, inferInstance, numXF 3 (by decide) (by decide), by unfold Dom; decide +kernel⟩
  · exact ⟨_root_.Fin 5, inferInstance, numXF 5 (by decide) (by decide), by unfold Dom; decide +kernel⟩
  · exact ⟨_root_.Fin 7, inferInstance, numXF 7 (by decide) (by decide), by unfold Dom; decide +kernel⟩
  · exact ⟨_root_.Fin 11, inferInstance, numXF 11 (by decide) (by decide), by unfold Dom; decide +kernel⟩
  · exact ⟨_root_.Fin 13, inferInstance, numXF 13 (by decide) (by decide), by unfold Dom; decide +kernel⟩
end DD.K33

namespace DD.K33
open PySem PySem.Spec L2
open PyProof.Rows hiding St
local macro_rules | `(tactic| fail "z") => `(tactic| first | (refine sz_of ?_; simp only [List.length_cons, List.length_nil, List.length_map, List.length_range, List.length_set, List.length_append, Int.reduceNeg, Int.reduceSub, Int.reduceToNat, Nat.reduceAdd, Nat.zero_add, Nat.reduceLT, Nat.reduceLeDiff, ne_eq, Nat.reduceEqDiff, not_false_eq_true]; done) | (refine szl_of ?_; simp only [List.length_cons, List.length_nil, List.length_map, List.length_range, List.length_set, List.length_append, Int.reduceNeg, Int.reduceSub, Int.reduceToNat, Nat.reduceAdd, Nat.zero_add, Nat.reduceLT, Nat.reduceLeDiff, ne_eq, Nat.reduceEqDiff, not_false_eq_true]; done) | (simp only [List.length_cons, List.length_nil, List.length_map, List.length_range, List.length_set, List.length_append, Int.reduceNeg, Int.reduceSub, Int.reduceToNat, Nat.reduceAdd, Nat.zero_add, Nat.reduceLT, Nat.reduceLeDiff, ne_eq, Nat.reduceEqDiff, not_false_eq_true]; done))
local macro_rules | `(tactic| fail "w") => `(tactic| with_reducible first
  | refine w_seq ?_ | refine w_setF ?_ | refine w_setT ?_ | refine w_ret ?_ | refine w_ifS ?_ | refine w_expr ?_ | refine w_for ?_ | refine w_parF ?_ | refine w_asg ?_ | refine w_skip ?_
  | refine w_var (by with_unfolding_all rfl) ?_ | refine w_c ?_ | refine w_op2 ?_ | refine w_op1 ?_ | refine w_test ?_ | refine wb ?_ | refine w_nil ?_ | refine w_cons ?_
  | refine w_tup ?_ | refine w_lst ?_ | refine w_if ?_ | refine w_andT ?_ | refine w_orT ?_ | refine w_notT ?_ | refine w_andV ?_ | refine w_orV ?_ | refine w_notV ?_
  | refine wk_t ?_ | refine wk_f ?_ | refine wk_n ?_
  | refine wf_nx ?_ | refine wf_ret ?_ | refine wf_bk ?_ | refine wf_ct ?_ | refine wl_nx ?_ | refine wl_ct ?_ | refine wl_bk ?_ | refine wl_ret ?_ | refine wr_nx ?_ | refine wr_ret ?_
  | refine w_gset (by fail "z") ?_ | refine w_gtup (by with_unfolding_all rfl) ?_ | refine w_gcons ?_ | refine w_gnil ?_ | refine w_items ?_ | refine w_rng1 ?_ | refine w_rng2 ?_
  | refine w_blt ?_ | refine w_isi ?_ | refine w_vnil ?_ | refine w_vvalF ?_ | refine w_vvalT ?_ | refine w_vref (by with_unfolding_all rfl) ?_ | refine w_call ?_
  | refine w_appendF (by with_unfolding_all rfl) ?_ | refine w_extend (by with_unfolding_all rfl) ?_ | refine w_setitemF ?_ | refine w_ixOwn (by with_unfolding_all rfl) ?_ | refine w_lenOwn (by with_unfolding_all rfl) ?_ | refine w_move (by with_unfolding_all rfl) ?_ | refine w_frz (by with_unfolding_all rfl) ?_
  | refine wix (by with_unfolding_all rfl) (by with_unfolding_all rfl) ?_ | refine wap (by with_unfolding_all rfl) (by fail "z") ?_ | refine wxt (by with_unfolding_all rfl) (by with_unfolding_all rfl) (by fail "z") ?_ | refine wmm (by with_unfolding_all rfl) ?_ | refine wst (by with_unfolding_all rfl) (by with_unfolding_all rfl) ?_ | refine win ?_
  | refine w_fmt ?_ | refine w_jscons ?_ | refine w_jsnil ?_ | refine wjs ?_ | refine w_join ?_ | refine w_zip ?_ | refine w_zipS ?_ | refine w_enum ?_ | refine w_bor ?_ | refine w_borT ?_ | refine wfl_bl ?_ | refine wfl_int ?_
  | refine w_no ?_ | refine w_so ?_ | refine w_sl ?_ | refine w_rev ?_ | refine w_comp ?_ | refine w_chain ?_ | refine w_compnil ?_ | refine w_compcons ?_ | refine wp_pure ?_
  | refine wo_add ?_ | refine wo_sub ?_ | refine wo_neg ?_ | refine wo_lt ?_ | refine wo_le ?_ | refine wo_gt ?_ | refine wo_ge ?_ | refine wo_eqI ?_ | refine wo_neI ?_ | refine wo_notB ?_ | refine wo_isB ?_
  | refine wo_abs ?_ | refine wo_lenT ?_ | refine wo_lenL ?_ | refine wo_lenF ?_ | refine wo_lenM ?_ | refine wo_some ?_ | refine ix_at (by with_unfolding_all rfl) (by with_unfolding_all rfl) ?_
  | refine wo_mod (by omega) ?_ | refine wo_div (divc64 (by omega) (by omega) (by omega)) ?_ | refine wo_mul (mulc64 (by omega) (by omega) (by omega) (by omega)) ?_ | refine wo_pow (cpow64 (by omega) (by omega) (by omega) (by omega)) ?_
  | refine And.intro (by fail "z") ?_ | refine And.intro (And.intro (by fail "z") (And.intro (by fail "z") (by fail "z"))) ?_)
local macro_rules | `(tactic| fail "e") => `(tactic| simp only [List.map_cons, List.map_nil, List.replicate, List.cons_append, List.nil_append, List.append_nil, List.set_cons_zero, List.set_cons_succ, List.set_nil, A.frz, frzs_v, frzs, Nat.reduceSub, gath, back, List.getElem?_cons_zero, List.getElem?_cons_succ, Option.map_some, lentL, List.contains_cons, List.contains_nil, List.elem_nil, List.elem_cons, Nat.reduceAdd, Nat.reduceBEq, Bool.or_false, Bool.or_true, Bool.false_or, Bool.true_or, beq_self_eq_true, if_true, if_false, reduceIte, Bool.false_eq_true, Int.reduceToNat, iBool_bl, iBool_int, iInt_bl, iInt_int, isI_int, isI_bl, iTup_tup, iTup_lst, iTup_int, Int.reducePow, List.getElem?_nil, wipeE, wipeF, parkL, putL, Nat.reduceLT, Nat.reduceLeDiff, frzE])
local macro_rules | `(tactic| fail "s") => `(tactic| repeat (first | fail "w" | fail "e"))
local macro_rules | `(tactic| fail "t") => `(tactic| refine take_s (by omega) (by omega) (by omega) (by omega) (by omega) ?_)
local macro_rules | `(tactic| fail "w") => `(tactic| with_reducible first | refine w_raise ?_ | refine w_lam ?_ | refine w_step ?_ | refine w_par3 ?_)
local macro_rules | `(tactic| fail "t") => `(tactic| refine take_s (by omega) (by omega) (by omega) (by omega) (by omega) ?_)
theorem okd_one {g : Int} : okd g 1 := by
  unfold okd
  split <;> decide
theorem pick2 {x y : D} {b : Bool} {P : A → Prop} (h : P (.v (if b = true then y else x))) : Wo (opIx (.m [.v x, .v y]) (.v (.int (if b = true then 1 else 0)))) P := by cases b <;> exact wo_eq rfl h
section
variable {g : Int} {R : Type} [Lean.Grind.CommRing R] {N : Num g R} {n m : Nat} {Q : A → List A → Prop} {E : Ex → List A → Prop}
theorem num_ex {u d : Int} (hg2 : g ≤ 13) (h4 : 4 ≤ n) (hu : Bd n u) (hd : Bd n d) (h : 0 < d) (ok : okd g d) : ∃ r, canon g u d = N.nm r ∧ N.B n r := by
  obtain ⟨r, e⟩ := N.ex u d h ok
  obtain ⟨x, y, e2, h1, h2⟩ := canon_bd (g := g) (u := u) (d := d) h4 hg2 hu hd
  exact ⟨r, e, Num.B.of (e2.symm.trans e) h1 h2⟩
theorem number_s {a b : Int} (hg : g = 0 ∨ 2 ≤ g) (hg2 : g ≤ 13) (ha : 0 ≤ a) (hb : 0 ≤ b) (hb2 : b < 2147483647)
    (q : ∀ r a' b', 0 ≤ a' → 0 ≤ b' → b' < 2147483647 → N.B 10 r → Q (.v (N.nm r)) [.m [.v (.int a'), .v (.int b')], .v (.int g)]) : Wc (n_l_number [.m [.v (.int a), .v (.int b)], .v (.int g)]) Q E := by
  refine wc_fn rfl rfl ?_
  unfold b_l_number
  fail "s"
  have bd10 : ∀ z : Int, -1000 < z → z < 1000 → Bd 10 z := fun z h1 h2 => by
    unfold Bd
    have : (2:Nat) ^ 10 = 1024 := by decide
    omega
  refine wk_d (fun h => ?_) (fun h => ?_)
  · fail "s"
    refine take_s ha hb hb2 h (by omega) ?_
    intro d a1 b1' ha1 hb1 hb11 h0 h1
    fail "s"
    obtain ⟨r, e, hr⟩ := num_ex (N := N) (n := 10) hg2 (by decide) (bd10 d (by omega) (by omega)) (bd10 1 (by decide) (by decide)) (by decide) okd_one
    have e2 := (canon_pos h0 h1).symm.trans e
    have := q r _ _ ha1 hb1 hb11 hr
    rw [← e2] at this
    exact this
  · have g0 : g = 0 := by omega
    subst g0
    fail "s"
    fail "t"
    intro d2 a2 b2 ha2 hb2 hb21 h20 h21
    fail "s"
    refine wo_ixM (fun i => 3 ≤ i ∧ i ≤ 99) h20 h21 (by simp) fun wd hwd => ?_
    fail "s"
    fail "t"
    intro d3 a3 b3 ha3 hb3 hb31 h30 h31
    fail "s"
    fail "t"
    intro d4 a4 b4 ha4 hb4 hb41 h40 h41
    fail "s"
    refine wo_ixM (fun i => 1 ≤ i ∧ i ≤ 9) h40 h41 (by simp; omega) fun dn hdn => ?_
    fail "s"
    fail "t"
    intro d5 a5 b5 ha5 hb5 hb51 h50 h51
    fail "s"
    have hf := fdiv_range (i := wd) (j := 2) (by omega) (by decide)
    have okn : okd 0 dn := by unfold okd; rw [if_neg (by decide)]; omega
    have bu := bd10 (d5 - wd.fdiv 2) (by omega) (by omega)
    have bdn := bd10 dn (by omega) (by omega)
    obtain ⟨r, e, hr⟩ := num_ex (N := N) (n := 10) hg2 (by decide) bu bdn (by omega) okn
    refine l_low_s (n := 10) (.inl rfl) (by decide) (by decide) bu bdn okn ?_
    fail "s"
    rw [e]
    exact q _ _ _ ha5 hb5 hb51 hr
end
section
variable {g : Int} {R : Type} [Lean.Grind.CommRing R] {N : NumX g R} {n m : Nat} {Q : A → List A → Prop} {E : Ex → List A → Prop}
theorem pickN {r : R} {b : Bool} (D1 : Dom R) (hn : 1 ≤ n) (h1 : b = true → r = 0) (h2 : b = false → r ≠ 0) (hr : N.B n r) : ∃ s, (if b = true then D.tup [.int 1, .int 1] else N.nm r) = N.nm s ∧ s ≠ 0 ∧ N.B n s := by
  cases b with
  | true => exact ⟨1, N.one.symm, D1.2, Num.B.one hn⟩
  | false => exact ⟨r, rfl, h2 rfl, hr⟩
theorem other_s {a b : Int} (D1 : Dom R) (hg : g = 0 ∨ 2 ≤ g) (hg2 : g ≤ 13) (ha : 0 ≤ a) (hb : 0 ≤ b) (hb2 : b < 2147483647)
    (q : ∀ r a' b', 0 ≤ a' → 0 ≤ b' → b' < 2147483647 → N.B 10 r → r ≠ 0 → Q (.v (N.nm r)) [.m [.v (.int a'), .v (.int b')], .v (.int g)]) : Wc (n_l_other_than_nought [.m [.v (.int a), .v (.int b)], .v (.int g)]) Q E := by
  refine wc_fn rfl rfl ?_
  unfold b_l_other_than_nought
  fail "s"
  refine number_s (N := N.toNum) hg hg2 ha hb hb2 fun r a b ha hb hb2 hr => ?_
  fail "s"
  refine wo_eqZ (N := N) fun c h1 h2 => ?_
  fail "s"
  refine wo_eq (a := .v (.int (if c = true then 1 else 0))) (by cases c <;> rfl) ?_
  refine pick2 ?_
  obtain ⟨s, e, hs, hB⟩ := pickN D1 (by decide) h1 h2 hr
  rw [e]
  fail "s"
  exact q s _ _ ha hb hb2 hB hs
theorem great_s {a b : Int} (D1 : Dom R) (hg : g = 0 ∨ 2 ≤ g) (hg2 : g ≤ 13) (ha : 0 ≤ a) (hb : 0 ≤ b) (hb2 : b < 2147483647)
    (q : ∀ r a' b', 0 ≤ a' → 0 ≤ b' → b' < 2147483647 → N.B 120 r → r ≠ 0 → Q (.v (N.nm r)) [.m [.v (.int a'), .v (.int b')], .v (.int g)]) : Wc (n_l_great [.m [.v (.int a), .v (.int b)], .v (.int g)]) Q E := by
  refine wc_fn rfl rfl ?_
  unfold b_l_great b_l_great_1
  fail "s"
  refine other_s (N := N) D1 hg hg2 ha hb hb2 fun r a b ha hb hb2 hr hr0 => ?_
  fail "s"
  fail "t"
  intro t a b ha hb hb2 ht0 ht1
  fail "s"
  refine ⟨⟨by omega, by omega⟩, ?_⟩
  refine w_forL (fun ds ρ => ∃ (a b : Int) (r : R) (n : Nat) (x3 : Option A), ρ = [some (.m [.v (.int a), .v (.int b)]), some (.v (.int g)), some (.v (N.nm r)), x3] ∧ 0 ≤ a ∧ 0 ≤ b ∧ b < 2147483647 ∧ N.B n r ∧ r ≠ 0 ∧ 10 ≤ n ∧ n + 10 * ds.length ≤ 120)
    ⟨a, b, r, 10, _, rfl, ha, hb, hb2, hr, hr0, by decide, by simp; omega⟩ ?_ ?_
  · rintro d ds _ ⟨a, b, r, n, x3, rfl, ha, hb, hb2, hr, hr0, hn1, hn2⟩
    have hn2 : n + 10 * (ds.length + 1) ≤ 120 := hn2
    fail "s"
    refine other_s (N := N) D1 hg hg2 ha hb hb2 fun s a b ha hb hb2 hs hs0 => ?_
    fail "s"
    refine l_times_s (N := N.toNum) hg hg2 (by omega) (by omega) hr hs fun hB => ?_
    fail "s"
    exact ⟨a, b, r * s, n + 10, _, rfl, ha, hb, hb2, hB, D1.1 r s hr0 hs0, by omega, by omega⟩
  · rintro _ ⟨a, b, r, n, x3, rfl, ha, hb, hb2, hr, hr0, hn1, hn2⟩
    fail "s"
    exact q r _ _ ha hb hb2 (hr.mono (by omega)) hr0
end
theorem odd_s {a b : Int} {Q : A → List A → Prop} {E : Ex → List A → Prop} (ha : 0 ≤ a) (hb : 0 ≤ b) (hb2 : b < 2147483647)
    (q : ∀ d a' b', 0 ≤ a' → 0 ≤ b' → b' < 2147483647 → Pl 200 d → Q (.v d) [.m [.v (.int a'), .v (.int b')]]) : Wc (n_l_odd [.m [.v (.int a), .v (.int b)]]) Q E := by
  refine wc_fn rfl rfl ?_
  unfold b_l_odd
  fail "s"
  fail "t"
  intro d a1 b1 ha1 hb1 hb11 h0 h1
  fail "s"
  refine wo_ix rfl h0 h1 fun d hd => ?_
  fail "s"
  refine q _ _ _ ha1 hb1 hb11 ?_
  have k : ∀ i : Int, -10 < i → i < 10 → Bd 200 i := fun i h g => (bd20 (by omega) (by omega)).mono (by decide)
  have k59 : Bd 200 (100000000000000000000000000000000000000000000000000000000000 : Int) := by unfold Bd; decide +kernel
  simp only [List.mem_cons, List.not_mem_nil, or_false] at hd
  rcases hd with rfl | rfl | rfl | rfl | rfl | rfl | rfl | rfl | rfl | rfl | rfl | rfl | rfl | rfl | rfl | rfl | rfl | rfl | rfl | rfl <;> simp [Pl, Pls, k59, k]
theorem okT_pl {n : Nat} {d : D} (h : Pl n d) : okT d := ⟨h.kind, fun l e x hx => by subst e; exact ((pl_tup.mp h) x hx).kind⟩
end DD.K33

namespace DD.K33
open PySem PySem.Spec L2
open PyProof.Rows hiding St
local macro_rules | `(tactic| fail "z") => `(tactic| first | (refine sz_of ?_; simp only [List.length_cons, List.length_nil, List.length_map, List.length_range, List.length_set, List.length_append, Int.reduceNeg, Int.reduceSub, Int.reduceToNat, Nat.reduceAdd, Nat.zero_add, Nat.reduceLT, Nat.reduceLeDiff, ne_eq, Nat.reduceEqDiff, not_false_eq_true]; done) | (refine szl_of ?_; simp only [List.length_cons, List.length_nil, List.length_map, List.length_range, List.length_set, List.length_append, Int.reduceNeg, Int.reduceSub, Int.reduceToNat, Nat.reduceAdd, Nat.zero_add, Nat.reduceLT, Nat.reduceLeDiff, ne_eq, Nat.reduceEqDiff, not_false_eq_true]; done) | (simp only [List.length_cons, List.length_nil, List.length_map, List.length_range, List.length_set, List.length_append, Int.reduceNeg, Int.reduceSub, Int.reduceToNat, Nat.reduceAdd, Nat.zero_add, Nat.reduceLT, Nat.reduceLeDiff, ne_eq, Nat.reduceEqDiff, not_false_eq_true]; done))
local macro_rules | `(tactic| fail "w") => `(tactic| with_reducible first
  | refine w_seq ?_ | refine w_setF ?_ | refine w_setT ?_ | refine w_ret ?_ | refine w_ifS ?_ | refine w_expr ?_ | refine w_for ?_ | refine w_parF ?_ | refine w_asg ?_ | refine w_skip ?_
  | refine w_var (by with_unfolding_all rfl) ?_ | refine w_c ?_ | refine w_op2 ?_ | refine w_op1 ?_ | refine w_test ?_ | refine wb ?_ | refine w_nil ?_ | refine w_cons ?_
  | refine w_tup ?_ | refine w_lst ?_ | refine w_if ?_ | refine w_andT ?_ | refine w_orT ?_ | refine w_notT ?_ | refine w_andV ?_ | refine w_orV ?_ | refine w_notV ?_
  | refine wk_t ?_ | refine wk_f ?_ | refine wk_n ?_
  | refine wf_nx ?_ | refine wf_ret ?_ | refine wf_bk ?_ | refine wf_ct ?_ | refine wl_nx ?_ | refine wl_ct ?_ | refine wl_bk ?_ | refine wl_ret ?_ | refine wr_nx ?_ | refine wr_ret ?_
  | refine w_gset (by fail "z") ?_ | refine w_gtup (by with_unfolding_all rfl) ?_ | refine w_gcons ?_ | refine w_gnil ?_ | refine w_items ?_ | refine w_rng1 ?_ | refine w_rng2 ?_
  | refine w_blt ?_ | refine w_isi ?_ | refine w_vnil ?_ | refine w_vvalF ?_ | refine w_vvalT ?_ | refine w_vref (by with_unfolding_all rfl) ?_ | refine w_call ?_
  | refine w_appendF (by with_unfolding_all rfl) ?_ | refine w_extend (by with_unfolding_all rfl) ?_ | refine w_setitemF ?_ | refine w_ixOwn (by with_unfolding_all rfl) ?_ | refine w_lenOwn (by with_unfolding_all rfl) ?_ | refine w_move (by with_unfolding_all rfl) ?_ | refine w_frz (by with_unfolding_all rfl) ?_
  | refine wix (by with_unfolding_all rfl) (by with_unfolding_all rfl) ?_ | refine wap (by with_unfolding_all rfl) (by fail "z") ?_ | refine wxt (by with_unfolding_all rfl) (by with_unfolding_all rfl) (by fail "z") ?_ | refine wmm (by with_unfolding_all rfl) ?_ | refine wst (by with_unfolding_all rfl) (by with_unfolding_all rfl) ?_ | refine win ?_
  | refine w_fmt ?_ | refine w_jscons ?_ | refine w_jsnil ?_ | refine wjs ?_ | refine w_join ?_ | refine w_zip ?_ | refine w_zipS ?_ | refine w_enum ?_ | refine w_bor ?_ | refine w_borT ?_ | refine wfl_bl ?_ | refine wfl_int ?_
  | refine w_no ?_ | refine w_so ?_ | refine w_sl ?_ | refine w_rev ?_ | refine w_comp ?_ | refine w_chain ?_ | refine w_compnil ?_ | refine w_compcons ?_ | refine wp_pure ?_
  | refine wo_add ?_ | refine wo_sub ?_ | refine wo_neg ?_ | refine wo_lt ?_ | refine wo_le ?_ | refine wo_gt ?_ | refine wo_ge ?_ | refine wo_eqI ?_ | refine wo_neI ?_ | refine wo_notB ?_ | refine wo_isB ?_
  | refine wo_abs ?_ | refine wo_lenT ?_ | refine wo_lenL ?_ | refine wo_lenF ?_ | refine wo_lenM ?_ | refine wo_some ?_ | refine ix_at (by with_unfolding_all rfl) (by with_unfolding_all rfl) ?_
  | refine wo_mod (by omega) ?_ | refine wo_div (divc64 (by omega) (by omega) (by omega)) ?_ | refine wo_mul (mulc64 (by omega) (by omega) (by omega) (by omega)) ?_ | refine wo_pow (cpow64 (by omega) (by omega) (by omega) (by omega)) ?_
  | refine And.intro (by fail "z") ?_ | refine And.intro (And.intro (by fail "z") (And.intro (by fail "z") (by fail "z"))) ?_)
local macro_rules | `(tactic| fail "e") => `(tactic| simp only [List.map_cons, List.map_nil, List.replicate, List.cons_append, List.nil_append, List.append_nil, List.set_cons_zero, List.set_cons_succ, List.set_nil, A.frz, frzs_v, frzs, Nat.reduceSub, gath, back, List.getElem?_cons_zero, List.getElem?_cons_succ, Option.map_some, lentL, List.contains_cons, List.contains_nil, List.elem_nil, List.elem_cons, Nat.reduceAdd, Nat.reduceBEq, Bool.or_false, Bool.or_true, Bool.false_or, Bool.true_or, beq_self_eq_true, if_true, if_false, reduceIte, Bool.false_eq_true, Int.reduceToNat, iBool_bl, iBool_int, iInt_bl, iInt_int, isI_int, isI_bl, iTup_tup, iTup_lst, iTup_int, Int.reducePow, List.getElem?_nil, wipeE, wipeF, parkL, putL, Nat.reduceLT, Nat.reduceLeDiff, frzE])
local macro_rules | `(tactic| fail "s") => `(tactic| repeat (first | fail "w" | fail "e"))
local macro_rules | `(tactic| fail "t") => `(tactic| refine take_s (by omega) (by omega) (by omega) (by omega) (by omega) ?_)
local macro_rules | `(tactic| fail "w") => `(tactic| with_reducible first | refine w_raise ?_ | refine w_lam ?_ | refine w_step ?_ | refine w_par3 ?_)
theorem beq_nought {d : D} {k : Nat} : True := trivial
section
variable {g : Int} {R : Type} [Lean.Grind.CommRing R] {N : NumX g R} {n m : Nat} {Q : A → List A → Prop} {E : Ex → List A → Prop}
theorem okT_nm {r : R} : okT (N.nm r) := ⟨by simp [kindD, Num.nm, dN], fun l h e he => by
  unfold NumX.nm Num.nm dN at h
  cases h
  simp at he
  rcases he with rfl | rfl <;> simp [kindD]⟩
theorem look_s {r : R} (h : r ≠ 0) (q : Q (.v .non) [.v (.int g), .v (N.nm r)]) : Wc (n_look_class [.v (.int g), .v (N.nm r)]) Q E := by
  refine wc_fn rfl rfl ?_
  unfold b_look_class
  fail "s"
  refine wc_noX (is_number_s okT_nm ?_)
  rw [show numB g (N.nm r) = true from N.good r]
  fail "s"
  refine wo_eqZ (N := N) fun c h1 h2 => ?_
  cases c with
  | true => exact absurd (h1 rfl) h
  | false =>
    fail "s"
    exact q
theorem look_bad {d : D} (hd : okT d) (h : numB g d = false ∨ d = .tup [.int 0, .int 1]) (x : E ⟨"NoNumber", [], []⟩ [.v (.int g), .v d]) : Wc (n_look_class [.v (.int g), .v d]) Q E := by
  refine wc_fn rfl rfl ?_
  unfold b_look_class
  fail "s"
  refine wc_noX (is_number_s hd ?_)
  rcases h with h | rfl
  · rw [h]
    fail "s"
    exact x
  · cases numB g (.tup [.int 0, .int 1]) with
    | false =>
      fail "s"
      exact x
    | true =>
      fail "s"
      refine wo_eqS (k := 1) rfl okc2 (by decide) ?_
      fail "s"
      exact x
theorem are_alike_s {r s : R} (hg : g = 0 ∨ 2 ≤ g) (hg2 : g ≤ 13) (hn : 4 ≤ n) (hnm : n + m ≤ 7000) (hr : N.B n r) (hs : N.B m s) (hr0 : r ≠ 0) (hs0 : s ≠ 0)
    (q : ∀ b, SqB g (N.p (r * s)) (N.q (r * s)) b → Q (.v (.bl b)) [.v (.int g), .v (N.nm r), .v (N.nm s)]) : Wc (n_are_alike [.v (.int g), .v (N.nm r), .v (N.nm s)]) Q E := by
  refine wc_fn rfl rfl ?_
  unfold b_are_alike
  fail "s"
  refine look_s (N := N) hr0 ?_
  fail "s"
  refine look_s (N := N) hs0 ?_
  fail "s"
  refine wc_noX (times_s (N := N.toNum) hg hg2 hn hnm hr hs fun hB => ?_)
  fail "s"
  refine wc_noX (is_square_s (n := n + m) (by omega) hg2 (by omega) hB.p hB.q (q_pos (N := N) _) fun b hb => ?_)
  fail "s"
  exact q b hb
theorem are_alike_bad2 {r : R} {d : D} (hr0 : r ≠ 0) (hd : okT d) (h : numB g d = false ∨ d = .tup [.int 0, .int 1])
    (x : E ⟨"NoNumber", [], []⟩ [.v (.int g), .v (N.nm r), .v d]) : Wc (n_are_alike [.v (.int g), .v (N.nm r), .v d]) Q E := by
  refine wc_fn rfl rfl ?_
  unfold b_are_alike
  fail "s"
  refine look_s (N := N) hr0 ?_
  fail "s"
  refine look_bad hd h ?_
  fail "s"
  exact x
theorem are_alike_bad1 {d e : D} (hd : okT d) (h : numB g d = false ∨ d = .tup [.int 0, .int 1])
    (x : E ⟨"NoNumber", [], []⟩ [.v (.int g), .v d, .v e]) : Wc (n_are_alike [.v (.int g), .v d, .v e]) Q E := by
  refine wc_fn rfl rfl ?_
  unfold b_are_alike
  fail "s"
  refine look_bad hd h ?_
  fail "s"
  exact x
theorem l_is_told_s {r s : R} (hg : g = 0 ∨ 2 ≤ g) (hg2 : g ≤ 13) (hn : 4 ≤ n) (hm : 4 ≤ m) (hnm : n + m ≤ 7000) (hr : N.B n r) (hs : N.B m s) (hr0 : r ≠ 0) (hs0 : s ≠ 0)
    (q : Q (.v (.bl true)) [.v (.int g), .v (N.nm r), .v (N.nm s)]) : Wc (n_l_is_told [.v (.int g), .v (N.nm r), .v (N.nm s)]) Q E := by
  refine wc_fn rfl rfl ?_
  unfold b_l_is_told
  fail "s"
  refine l_times_s (N := N.toNum) hg hg2 hn hnm hr hs fun hB => ?_
  fail "s"
  refine l_is_square_s (n := n + m) (by omega) hg2 (by omega) hB.p hB.q (q_pos (N := N) _) fun b hb => ?_
  fail "s"
  refine are_alike_s (N := N) hg hg2 hn hnm hr hs hr0 hs0 fun b1 hb1 => ?_
  obtain rfl := hb.uniq hb1
  fail "s"
  refine are_alike_s (N := N) hg hg2 hm (by omega) hs hr hs0 hr0 fun b2 hb2 => ?_
  rw [show s * r = r * s by grind] at hb2
  obtain rfl := hb.uniq hb2
  fail "s"
  refine wo_eqS (k := 1) rfl (by cases b <;> rfl) (by decide) ?_
  fail "s"
  refine wo_some ?_
  refine ⟨sz_of (by simp), ?_⟩
  fail "s"
  refine wo_isBool (kind_of (d := .bl b) rfl) ?_
  fail "s"
  refine wo_isBool (kind_of (d := .bl b) rfl) ?_
  fail "s"
  refine wo_eq rfl ?_
  fail "s"
  exact q
end
end DD.K33

namespace DD.K33
open PySem PySem.Spec L2
open PyProof.Rows hiding St
local macro_rules | `(tactic| fail "z") => `(tactic| first | (refine sz_of ?_; simp only [List.length_cons, List.length_nil, List.length_map, List.length_range, List.length_set, List.length_append, Int.reduceNeg, Int.reduceSub, Int.reduceToNat, Nat.reduceAdd, Nat.zero_add, Nat.reduceLT, Nat.reduceLeDiff, ne_eq, Nat.reduceEqDiff, not_false_eq_true]; done) | (refine szl_of ?_; simp only [List.length_cons, List.length_nil, List.length_map, List.length_range, List.length_set, List.length_append, Int.reduceNeg, Int.reduceSub, Int.reduceToNat, Nat.reduceAdd, Nat.zero_add, Nat.reduceLT, Nat.reduceLeDiff, ne_eq, Nat.reduceEqDiff, not_false_eq_true]; done) | (simp only [List.length_cons, List.length_nil, List.length_map, List.length_range, List.length_set, List.length_append, Int.reduceNeg, Int.reduceSub, Int.reduceToNat, Nat.reduceAdd, Nat.zero_add, Nat.reduceLT, Nat.reduceLeDiff, ne_eq, Nat.reduceEqDiff, not_false_eq_true]; done))
local macro_rules | `(tactic| fail "w") => `(tactic| with_reducible first
  | refine w_seq ?_ | refine w_setF ?_ | refine w_setT ?_ | refine w_ret ?_ | refine w_ifS ?_ | refine w_expr ?_ | refine w_for ?_ | refine w_parF ?_ | refine w_asg ?_ | refine w_skip ?_
  | refine w_var (by with_unfolding_all rfl) ?_ | refine w_c ?_ | refine w_op2 ?_ | refine w_op1 ?_ | refine w_test ?_ | refine wb ?_ | refine w_nil ?_ | refine w_cons ?_
  | refine w_tup ?_ | refine w_lst ?_ | refine w_if ?_ | refine w_andT ?_ | refine w_orT ?_ | refine w_notT ?_ | refine w_andV ?_ | refine w_orV ?_ | refine w_notV ?_
  | refine wk_t ?_ | refine wk_f ?_ | refine wk_n ?_
  | refine wf_nx ?_ | refine wf_ret ?_ | refine wf_bk ?_ | refine wf_ct ?_ | refine wl_nx ?_ | refine wl_ct ?_ | refine wl_bk ?_ | refine wl_ret ?_ | refine wr_nx ?_ | refine wr_ret ?_
  | refine w_gset (by fail "z") ?_ | refine w_gtup (by with_unfolding_all rfl) ?_ | refine w_gcons ?_ | refine w_gnil ?_ | refine w_items ?_ | refine w_rng1 ?_ | refine w_rng2 ?_
  | refine w_blt ?_ | refine w_isi ?_ | refine w_vnil ?_ | refine w_vvalF ?_ | refine w_vvalT ?_ | refine w_vref (by with_unfolding_all rfl) ?_ | refine w_call ?_
  | refine w_appendF (by with_unfolding_all rfl) ?_ | refine w_extend (by with_unfolding_all rfl) ?_ | refine w_setitemF ?_ | refine w_ixOwn (by with_unfolding_all rfl) ?_ | refine w_lenOwn (by with_unfolding_all rfl) ?_ | refine w_move (by with_unfolding_all rfl) ?_ | refine w_frz (by with_unfolding_all rfl) ?_
  | refine wix (by with_unfolding_all rfl) (by with_unfolding_all rfl) ?_ | refine wap (by with_unfolding_all rfl) (by fail "z") ?_ | refine wxt (by with_unfolding_all rfl) (by with_unfolding_all rfl) (by fail "z") ?_ | refine wmm (by with_unfolding_all rfl) ?_ | refine wst (by with_unfolding_all rfl) (by with_unfolding_all rfl) ?_ | refine win ?_
  | refine w_fmt ?_ | refine w_jscons ?_ | refine w_jsnil ?_ | refine wjs ?_ | refine w_join ?_ | refine w_zip ?_ | refine w_zipS ?_ | refine w_enum ?_ | refine w_bor ?_ | refine w_borT ?_ | refine wfl_bl ?_ | refine wfl_int ?_
  | refine w_no ?_ | refine w_so ?_ | refine w_sl ?_ | refine w_rev ?_ | refine w_comp ?_ | refine w_chain ?_ | refine w_compnil ?_ | refine w_compcons ?_ | refine wp_pure ?_
  | refine wo_add ?_ | refine wo_sub ?_ | refine wo_neg ?_ | refine wo_lt ?_ | refine wo_le ?_ | refine wo_gt ?_ | refine wo_ge ?_ | refine wo_eqI ?_ | refine wo_neI ?_ | refine wo_notB ?_ | refine wo_isB ?_
  | refine wo_abs ?_ | refine wo_lenT ?_ | refine wo_lenL ?_ | refine wo_lenF ?_ | refine wo_lenM ?_ | refine wo_some ?_ | refine ix_at (by with_unfolding_all rfl) (by with_unfolding_all rfl) ?_
  | refine wo_mod (by omega) ?_ | refine wo_div (divc64 (by omega) (by omega) (by omega)) ?_ | refine wo_mul (mulc64 (by omega) (by omega) (by omega) (by omega)) ?_ | refine wo_pow (cpow64 (by omega) (by omega) (by omega) (by omega)) ?_
  | refine And.intro (by fail "z") ?_ | refine And.intro (And.intro (by fail "z") (And.intro (by fail "z") (by fail "z"))) ?_)
local macro_rules | `(tactic| fail "e") => `(tactic| simp only [List.map_cons, List.map_nil, List.replicate, List.cons_append, List.nil_append, List.append_nil, List.set_cons_zero, List.set_cons_succ, List.set_nil, A.frz, frzs_v, frzs, Nat.reduceSub, gath, back, List.getElem?_cons_zero, List.getElem?_cons_succ, Option.map_some, lentL, List.contains_cons, List.contains_nil, List.elem_nil, List.elem_cons, Nat.reduceAdd, Nat.reduceBEq, Bool.or_false, Bool.or_true, Bool.false_or, Bool.true_or, beq_self_eq_true, if_true, if_false, reduceIte, Bool.false_eq_true, Int.reduceToNat, iBool_bl, iBool_int, iInt_bl, iInt_int, isI_int, isI_bl, iTup_tup, iTup_lst, iTup_int, Int.reducePow, List.getElem?_nil, wipeE, wipeF, parkL, putL, Nat.reduceLT, Nat.reduceLeDiff, frzE])
local macro_rules | `(tactic| fail "s") => `(tactic| repeat (first | fail "w" | fail "e"))
local macro_rules | `(tactic| fail "t") => `(tactic| refine take_s (by omega) (by omega) (by omega) (by omega) (by omega) ?_)
local macro_rules | `(tactic| fail "w") => `(tactic| with_reducible first | refine w_raise ?_ | refine w_lam ?_ | refine w_step ?_ | refine w_par3 ?_)
local macro_rules | `(tactic| fail "t") => `(tactic| refine take_s (by omega) (by omega) (by omega) (by omega) (by omega) ?_)
theorem canon_one {g : Int} (hg : g = 0 ∨ 2 ≤ g) : canon g 1 1 = dN 1 1 := by
  rcases hg with rfl | hg
  · exact canon_nat (u := 1) (d := 1) (by decide)
  · unfold canon
    rw [if_pos (by omega), Int.fmod_eq_of_lt (by decide) (by omega)]
theorem pick2i {x y : Int} {b : Bool} {P : A → Prop} (h : P (.v (.int (if b = true then y else x)))) : Wo (opIx (.m [.v (.int x), .v (.int y)]) (.v (.int (if b = true then 1 else 0)))) P := by cases b <;> exact wo_eq rfl h
section
variable {g : Int} {R : Type} [Lean.Grind.CommRing R] {N : NumX g R}
theorem pl_B {s : R} {n : Nat} (h : Pl n (N.nm s)) : N.B n s := by
  have : Pl n (.tup [.int (N.p s), .int (N.q s)]) := h
  rw [pl_tup] at this
  exact ⟨pl_int.mp (this _ (by simp)), pl_int.mp (this _ (by simp))⟩
theorem law1 {r : R} {d : D} {x0 x1 x2 x5 x6 x7 x8 x9 x11 x12 x13 x14 : Option A} {QF : Flow → DEnv → Prop} {E : Ex → DEnv → Prop} (hg : g = 0 ∨ 2 ≤ g) (hg2 : g ≤ 13) (hr : N.B 120 r) (hr0 : r ≠ 0) (hd : Pl 200 d)
    (q : ∀ due, QF .nx [x0, x1, x2, some (.v (.int g)), some (.v (N.nm r)), x5, x6, x7, x8, x9, some (.v d), some (.v due), x12, x13, x14]) :
    Wp (b_law_1 [x0, x1, x2, some (.v (.int g)), some (.v (N.nm r)), x5, x6, x7, x8, x9, some (.v d), x11, x12, x13, x14]) QF E := by
  unfold b_law_1
  fail "s"
  refine l_is_number_s (okT_pl hd) ?_
  have bad : numB g d = false ∨ d = .tup [.int 0, .int 1] → Wp (dSeq (dIfS (dTest (dOp2 (opNe) (dLam tr_l_refusal (.non) (dCall n_are_alike (vVal false (dVar 3) (vVal false (dVar 4) (vVal false (dVar 10) (vNil)))) [])) (dVar 11)))
  (dRet (dC (.bl false)))
  (dSkip))
  (dIfS (dTest (dOp2 (opNe) (dLam tr_l_refusal (.non) (dCall n_are_alike (vVal false (dVar 3) (vVal false (dVar 10) (vVal false (dVar 4) (vNil)))) [])) (dVar 11)))
  (dRet (dC (.bl false)))
  (dSkip)) [x0, x1, x2, some (.v (.int g)), some (.v (N.nm r)), x5, x6, x7, x8, x9, some (.v d), some (.v (.str "NoNumber")), x12, x13, x14]) QF E := fun h => by
    fail "s"
    refine are_alike_bad2 (N := N) hr0 (okT_pl hd) h ?_
    fail "s"
    refine ⟨.str "NoNumber", rfl, ?_⟩
    fail "s"
    refine wo_neS (k := 1) rfl (by simpa [okc, A.frz] using TOk.ofS "NoNumber") (by decide) ?_
    fail "s"
    refine are_alike_bad1 (okT_pl hd) h ?_
    fail "s"
    refine ⟨.str "NoNumber", rfl, ?_⟩
    fail "s"
    refine wo_neS (k := 1) rfl (by simpa [okc, A.frz] using TOk.ofS "NoNumber") (by decide) ?_
    fail "s"
    exact q _
  cases hB : numB g d with
  | false =>
    repeat' (fail_if_success (with_reducible refine w_seq ?_)); first | fail "w" | fail "e"
    exact bad (.inl hB)
  | true =>
    obtain ⟨s, rfl⟩ := num_is (N := N) hB
    fail "s"
    refine wo_neZ (N := N) fun c h1 h2 => ?_
    cases c with
    | false =>
      repeat' (fail_if_success (with_reducible refine w_seq ?_)); first | fail "w" | fail "e"
      exact bad (.inr (by rw [h2 rfl]; exact N.zero))
    | true =>
      have hs0 := h1 rfl
      have hs := pl_B hd
      fail "s"
      refine are_alike_s (N := N) hg hg2 (by decide) (by decide) hr hs hr0 hs0 fun b hb => ?_
      fail "s"
      refine wo_neS (k := 1) rfl rfl (by decide) ?_
      fail "s"
      refine are_alike_s (N := N) hg hg2 (by decide) (by decide) hs hr hs0 hr0 fun b hb => ?_
      fail "s"
      refine wo_neS (k := 1) rfl rfl (by decide) ?_
      fail "s"
      exact q _
end
theorem law2 {ns : List Int} {k : Int} {x2 x3 x4 x5 x6 x7 x8 x9 x10 x11 : Option A} {QF : Flow → DEnv → Prop} {E : Ex → DEnv → Prop} (h0 : 0 ≤ k) (h1 : k < 1000)
    (q : ∀ s2 s3 s4 s5 s6 s7 s8 s9 s10 s11, QF .nx [some (script ns), some (.v (.int k)), s2, s3, s4, s5, s6, s7, s8, s9, s10, s11, none, none, none]) :
    Wp (b_law_2 [some (script ns), some (.v (.int k)), x2, x3, x4, x5, x6, x7, x8, x9, x10, x11, none, none, none]) QF E := by
  unfold b_law_2
  fail "s"
  refine bag_s h0 h1 fun a b ha hb hb2 => ?_
  fail "s"
  refine ground_s ha hb hb2 fun g a b ha hb hb2 hgr => ?_
  obtain ⟨hg, hg2⟩ := hgr.le
  obtain ⟨R, _, N, D1⟩ := dom_of hgr
  fail "s"
  refine great_s (N := N) D1 hg hg2 ha hb hb2 fun r a b ha hb hb2 hr hr0 => ?_
  fail "s"
  refine great_s (N := N) D1 hg hg2 ha hb hb2 fun y a b ha hb hb2 hy hy0 => ?_
  repeat' (fail_if_success (with_reducible refine w_seq ?_)); first | fail "w" | fail "e"
  refine w_seqJ (fun ρ1 => ∃ (a b : Int) (x6 : Option A) (y : R), ρ1 = [some (script ns), some (.v (.int k)), some (.m [.v (.int a), .v (.int b)]), some (.v (.int g)), some (.v (N.nm r)), some (.v (N.nm y)), x6, x7, x8, x9, x10, x11, none, none, none] ∧ 0 ≤ a ∧ 0 ≤ b ∧ b < 2147483647 ∧ N.B 500 y) ?_ ?_
  · fail "s"
    fail "t"
    intro t a b ha hb hb2 ht0 ht1
    fail "s"
    refine wk_d (fun c => ?_) (fun c => ?_)
    · have b60 : Bd 200 (1000000000000000000000000000000000000000000000000000000000000 : Int) := by unfold Bd; decide +kernel
      have b20 : Bd 67 (100000000000000000000 : Int) := by unfold Bd; decide +kernel
      fail "s"
      refine wo_mul (b60.mulC b60 (by decide)) ?_
      fail "s"
      refine wo_mul ((b60.mul b60).mulC b20 (by decide)) ?_
      fail "s"
      fail "t"
      intro u a b ha hb hb2 hu0 hu1
      fail "s"
      fail "t"
      intro v a b ha hb hb2 hv0 hv1
      fail "s"
      refine wo_eq (a := .v (.int (if decide (0 < g) = true then 1 else 0))) (by cases decide (0 < g) <;> rfl) ?_
      refine pick2i ?_
      have hfar : Bd 500 (1000000000000000000000000000000000000000000000000000000000000 * 1000000000000000000000000000000000000000000000000000000000000 * 100000000000000000000 + 7 + 2 * u) := by
        have h1 : Bd 467 ((1000000000000000000000000000000000000000000000000000000000000 : Int) * 1000000000000000000000000000000000000000000000000000000000000 * 100000000000000000000) := (b60.mul b60).mul b20
        have h2 : Bd 20 (7 : Int) := bd20 (by decide) (by decide)
        have h3 : Bd 20 (2 * u) := bd20 (by omega) (by omega)
        exact ((h1.add (h2.mono (by decide))).add (h3.mono (by decide))).mono (by decide)
      generalize (1000000000000000000000000000000000000000000000000000000000000 * 1000000000000000000000000000000000000000000000000000000000000 * 100000000000000000000 + 7 + 2 * u : Int) = far at *
      have hw : ∃ w : Int, (if decide (g > 0) = true then 1 else 1 + v) = w ∧ 0 < w ∧ w < 10 ∧ okd g w := by
        by_cases c2 : g > 0
        · rw [decide_eq_true c2]
          exact ⟨1, rfl, by decide, by decide, by unfold okd; rw [if_pos c2]⟩
        · rw [decide_eq_false c2]
          exact ⟨1 + v, rfl, by omega, by omega, by unfold okd; rw [if_neg c2]; omega⟩
      obtain ⟨w, ew, hw0, hw1, hok⟩ := hw
      rw [ew]
      have hwB : Bd 500 w := (bd20 (by omega) (by omega)).mono (by decide)
      obtain ⟨y2, e2, hy2⟩ := num_ex (N := N.toNum) (n := 500) hg2 (by decide) hfar hwB hw0 hok
      fail "s"
      refine l_low_s hg hg2 (n := 500) (by decide) hfar hwB hok ?_
      rw [e2]
      fail "s"
      exact ⟨_, _, _, y2, rfl, ha, hb, hb2, hy2⟩
    · fail "s"
      exact ⟨_, _, _, y, rfl, ha, hb, hb2, hy.mono (by decide)⟩
  · rintro _ ⟨a, b, x6, y, rfl, ha, hb, hb2, hy⟩
    fail "s"
    refine wo_eqZ (N := N) fun c h1 h2 => ?_
    fail "s"
    refine wo_eq (a := .v (.int (if c = true then 1 else 0))) (by cases c <;> rfl) ?_
    refine pick2 ?_
    obtain ⟨s, e, hs0, hs⟩ := pickN (N := N) D1 (by decide) h1 h2 hy
    rw [e]
    clear e h1 h2 hy
    fail "s"
    refine l_times_s (N := N.toNum) hg hg2 (by decide) (by decide) hs hs fun hsq => ?_
    fail "s"
    have b1 : Bd 4 1 := Bd.one (by decide)
    refine l_low_s hg hg2 (n := 4) (by decide) b1 b1 okd_one ?_
    rw [canon_one hg, show dN 1 1 = N.nm 1 from N.one.symm]
    fail "s"
    refine l_plus_s (N := N.toNum) (b := 1) hg hg2 (by decide) (by decide) hsq (Num.B.one (by decide)) fun hne => ?_
    fail "s"
    refine l_times_s (N := N.toNum) hg hg2 (by decide) (by decide) hr hsq fun hxs => ?_
    fail "s"
    refine l_times_s (N := N.toNum) hg hg2 (by decide) (by decide) hr hs fun hxy => ?_
    fail "s"
    refine l_minus_s (N := N.toNum) hg hg2 (by decide) (by decide) hr fun hmi => ?_
    repeat' (fail_if_success (with_reducible refine w_seq ?_)); first | fail "w" | fail "e"
    have hsq0 : s * s ≠ 0 := D1.1 _ _ hs0 hs0
    have hmi0 : -r ≠ 0 := fun z => hr0 (by have : r = -(-r) := by grind
                                           rw [this, z]; grind)
    refine w_seqJ (fun ρ1 => ∃ (ts : List R) (x8 : Option A), ρ1 = [some (script ns), some (.v (.int k)), some (.m [.v (.int a), .v (.int b)]), some (.v (.int g)), some (.v (N.nm r)), some (.v (N.nm s)), x6, some (.v (N.nm (s * s))), x8, some (.v (.lst (ts.map N.nm))), x10, x11, none, none, none] ∧ ts.length ≤ 7 ∧ ∀ t ∈ ts, t ≠ 0 ∧ N.B 1200 t) ?_ ?_
    · fail "s"
      refine wo_neZ (N := N) fun c h1 h2 => ?_
      fail "s"
      have six : ∀ t ∈ [r, s, s * s, r * (s * s), r * s, -r], t ≠ 0 ∧ N.B 1200 t := fun t ht => by
        simp at ht
        rcases ht with rfl | rfl | rfl | rfl | rfl | rfl
        · exact ⟨hr0, hr.mono (by decide)⟩
        · exact ⟨hs0, hs.mono (by decide)⟩
        · exact ⟨hsq0, hsq.mono (by decide)⟩
        · exact ⟨D1.1 _ _ hr0 hsq0, hxs.mono (by decide)⟩
        · exact ⟨D1.1 _ _ hr0 hs0, hxy.mono (by decide)⟩
        · exact ⟨hmi0, hmi.mono (by decide)⟩
      cases c with
      | true =>
        refine wo_eq (a := .v (.int 1)) rfl ?_
        refine wo_eq (a := .m [.v (N.nm (s * s + 1))]) (by unfold opMul; exact if_pos ⟨sz_of (by simp), by decide, by decide⟩) ?_
        fail "s"
        refine wo_eq (a := .m ([r, s, s * s, r * (s * s), r * s, -r, s * s + 1].map fun t => A.v (N.nm t))) (by unfold opAdd; exact if_pos (sz_of (by simp))) ?_
        fail "s"
        refine ⟨[r, s, s * s, r * (s * s), r * s, -r, s * s + 1], _, rfl, by simp, fun t ht => ?_⟩
        rcases List.mem_append.mp (show t ∈ [r, s, s * s, r * (s * s), r * s, -r] ++ [s * s + 1] from ht) with z | z
        · exact six t z
        · simp at z
          subst z
          exact ⟨h1 rfl, hne.mono (by decide)⟩
      | false =>
        refine wo_eq (a := .v (.int 0)) rfl ?_
        refine wo_eq (a := .m []) (by unfold opMul; exact if_pos ⟨sz_of (by simp), by decide, by decide⟩) ?_
        fail "s"
        refine wo_eq (a := .m ([r, s, s * s, r * (s * s), r * s, -r].map fun t => A.v (N.nm t))) (by unfold opAdd; exact if_pos (sz_of (by simp))) ?_
        fail "s"
        exact ⟨[r, s, s * s, r * (s * s), r * s, -r], _, rfl, by simp, six⟩
    · rintro _ ⟨ts, x8, rfl, hlen, hts⟩
      fail "s"
      refine wo_some ?_
      refine ⟨sz_of (by simp; omega), ?_⟩
      refine w_compMap N.nm (fun _ => A.v (.bl true)) (xs := ts) rfl ?_ ?_
      · intro t ht
        obtain ⟨ht0, htB⟩ := hts t ht
        fail "s"
        refine l_is_told_s (N := N) hg hg2 (by decide) (by decide) (by decide) hr htB hr0 ht0 ?_
        fail "s"
        refine l_is_told_s (N := N) hg hg2 (by decide) (by decide) (by decide) hs htB hs0 ht0 ?_
        fail "s"
      · fail "s"
        refine wo_eq (all_map (F := fun _ => true)) ?_
        rw [show (ts.all fun _ => true) = true by simp]
        fail "s"
        refine l_times_s (N := N.toNum) hg hg2 (by decide) (by decide) hr hsq fun hxs => ?_
        fail "s"
        refine are_alike_s (N := N) hg hg2 (by decide) (by decide) hr hxs hr0 (D1.1 _ _ hr0 hsq0) fun b hsb => ?_
        rw [show r * (r * (s * s)) = (r * s) * (r * s) by grind] at hsb
        obtain rfl := (sqp_mul (N := N) (r * s)).uniq hsb
        fail "s"
        rw [show D.tup [.int 1, .int 1] = N.nm 1 from N.one.symm]
        refine are_alike_s (N := N) (m := 1) hg hg2 (by decide) (by decide) hsq (Num.B.one (by decide)) hsq0 D1.2 fun b hsb => ?_
        rw [show (s * s) * 1 = s * s by grind] at hsb
        obtain rfl := (sqp_mul (N := N) s).uniq hsb
        fail "s"
        refine odd_s ha hb hb2 fun d1 a b ha hb hb2 hd1 => ?_
        fail "s"
        refine odd_s ha hb hb2 fun d2 a b ha hb hb2 hd2 => ?_
        fail "s"
        have kB : ∀ i : Int, -20 < i → i < 20 → Bd 200 i := fun i h g => (bd20 (by omega) (by omega)).mono (by decide)
        refine wo_some ?_
        refine w_forL (fun ds ρ => ∃ x10 x11, ρ = [some (script ns), some (.v (.int k)), some (.m [.v (.int a), .v (.int b)]), some (.v (.int g)), some (.v (N.nm r)), some (.v (N.nm s)), x6, some (.v (N.nm (s * s))), x8, some (.v (.lst (ts.map N.nm))), x10, x11, none, none, none] ∧ ∀ d ∈ ds, Pl 200 d)
          ⟨_, _, rfl, fun d hd => ?_⟩ ?_ ?_
        · simp only [List.mem_cons, List.not_mem_nil, or_false] at hd
          rcases hd with rfl | rfl | rfl | rfl | rfl | rfl
          · simp [Pl, Pls, kB]
          · exact hd1
          · exact hd2
          · simp [Pl, Pls, kB]
          · simp only [Pl, Pls]
            exact ⟨kB _ (by omega) (by omega), kB _ (by decide) (by decide), trivial⟩
          · simp [Pl, Pls, kB]
        · rintro d ds _ ⟨x10, x11, rfl, hds⟩
          have hd := hds d (by simp)
          fail "s"
          refine law1 hg hg2 hr hr0 hd fun due => ?_
          fail "s"
          exact ⟨_, _, rfl, fun d hd => hds d (List.mem_cons_of_mem _ hd)⟩
        · rintro _ ⟨x10, x11, rfl, hds⟩
          fail "s"
          exact q _ _ _ _ _ _ _ _ _ _
end DD.K33

namespace DD.K33
open PySem PySem.Spec L2
open PyProof.Rows hiding St
local macro_rules | `(tactic| fail "z") => `(tactic| first | (refine sz_of ?_; simp only [List.length_cons, List.length_nil, List.length_map, List.length_range, List.length_set, List.length_append, Int.reduceNeg, Int.reduceSub, Int.reduceToNat, Nat.reduceAdd, Nat.zero_add, Nat.reduceLT, Nat.reduceLeDiff, ne_eq, Nat.reduceEqDiff, not_false_eq_true]; done) | (refine szl_of ?_; simp only [List.length_cons, List.length_nil, List.length_map, List.length_range, List.length_set, List.length_append, Int.reduceNeg, Int.reduceSub, Int.reduceToNat, Nat.reduceAdd, Nat.zero_add, Nat.reduceLT, Nat.reduceLeDiff, ne_eq, Nat.reduceEqDiff, not_false_eq_true]; done) | (simp only [List.length_cons, List.length_nil, List.length_map, List.length_range, List.length_set, List.length_append, Int.reduceNeg, Int.reduceSub, Int.reduceToNat, Nat.reduceAdd, Nat.zero_add, Nat.reduceLT, Nat.reduceLeDiff, ne_eq, Nat.reduceEqDiff, not_false_eq_true]; done))
local macro_rules | `(tactic| fail "w") => `(tactic| with_reducible first
  | refine w_seq ?_ | refine w_setF ?_ | refine w_setT ?_ | refine w_ret ?_ | refine w_ifS ?_ | refine w_expr ?_ | refine w_for ?_ | refine w_parF ?_ | refine w_asg ?_ | refine w_skip ?_
  | refine w_var (by with_unfolding_all rfl) ?_ | refine w_c ?_ | refine w_op2 ?_ | refine w_op1 ?_ | refine w_test ?_ | refine wb ?_ | refine w_nil ?_ | refine w_cons ?_
  | refine w_tup ?_ | refine w_lst ?_ | refine w_if ?_ | refine w_andT ?_ | refine w_orT ?_ | refine w_notT ?_ | refine w_andV ?_ | refine w_orV ?_ | refine w_notV ?_
  | refine wk_t ?_ | refine wk_f ?_ | refine wk_n ?_
  | refine wf_nx ?_ | refine wf_ret ?_ | refine wf_bk ?_ | refine wf_ct ?_ | refine wl_nx ?_ | refine wl_ct ?_ | refine wl_bk ?_ | refine wl_ret ?_ | refine wr_nx ?_ | refine wr_ret ?_
  | refine w_gset (by fail "z") ?_ | refine w_gtup (by with_unfolding_all rfl) ?_ | refine w_gcons ?_ | refine w_gnil ?_ | refine w_items ?_ | refine w_rng1 ?_ | refine w_rng2 ?_
  | refine w_blt ?_ | refine w_isi ?_ | refine w_vnil ?_ | refine w_vvalF ?_ | refine w_vvalT ?_ | refine w_vref (by with_unfolding_all rfl) ?_ | refine w_call ?_
  | refine w_appendF (by with_unfolding_all rfl) ?_ | refine w_extend (by with_unfolding_all rfl) ?_ | refine w_setitemF ?_ | refine w_ixOwn (by with_unfolding_all rfl) ?_ | refine w_lenOwn (by with_unfolding_all rfl) ?_ | refine w_move (by with_unfolding_all rfl) ?_ | refine w_frz (by with_unfolding_all rfl) ?_
  | refine wix (by with_unfolding_all rfl) (by with_unfolding_all rfl) ?_ | refine wap (by with_unfolding_all rfl) (by fail "z") ?_ | refine wxt (by with_unfolding_all rfl) (by with_unfolding_all rfl) (by fail "z") ?_ | refine wmm (by with_unfolding_all rfl) ?_ | refine wst (by with_unfolding_all rfl) (by with_unfolding_all rfl) ?_ | refine win ?_
  | refine w_fmt ?_ | refine w_jscons ?_ | refine w_jsnil ?_ | refine wjs ?_ | refine w_join ?_ | refine w_zip ?_ | refine w_zipS ?_ | refine w_enum ?_ | refine w_bor ?_ | refine w_borT ?_ | refine wfl_bl ?_ | refine wfl_int ?_
  | refine w_no ?_ | refine w_so ?_ | refine w_sl ?_ | refine w_rev ?_ | refine w_comp ?_ | refine w_chain ?_ | refine w_compnil ?_ | refine w_compcons ?_ | refine wp_pure ?_
  | refine wo_add ?_ | refine wo_sub ?_ | refine wo_neg ?_ | refine wo_lt ?_ | refine wo_le ?_ | refine wo_gt ?_ | refine wo_ge ?_ | refine wo_eqI ?_ | refine wo_neI ?_ | refine wo_notB ?_ | refine wo_isB ?_
  | refine wo_abs ?_ | refine wo_lenT ?_ | refine wo_lenL ?_ | refine wo_lenF ?_ | refine wo_lenM ?_ | refine wo_some ?_ | refine ix_at (by with_unfolding_all rfl) (by with_unfolding_all rfl) ?_
  | refine wo_mod (by omega) ?_ | refine wo_div (divc64 (by omega) (by omega) (by omega)) ?_ | refine wo_mul (mulc64 (by omega) (by omega) (by omega) (by omega)) ?_ | refine wo_pow (cpow64 (by omega) (by omega) (by omega) (by omega)) ?_
  | refine And.intro (by fail "z") ?_ | refine And.intro (And.intro (by fail "z") (And.intro (by fail "z") (by fail "z"))) ?_)
local macro_rules | `(tactic| fail "e") => `(tactic| simp only [List.map_cons, List.map_nil, List.replicate, List.cons_append, List.nil_append, List.append_nil, List.set_cons_zero, List.set_cons_succ, List.set_nil, A.frz, frzs_v, frzs, Nat.reduceSub, gath, back, List.getElem?_cons_zero, List.getElem?_cons_succ, Option.map_some, lentL, List.contains_cons, List.contains_nil, List.elem_nil, List.elem_cons, Nat.reduceAdd, Nat.reduceBEq, Bool.or_false, Bool.or_true, Bool.false_or, Bool.true_or, beq_self_eq_true, if_true, if_false, reduceIte, Bool.false_eq_true, Int.reduceToNat, iBool_bl, iBool_int, iInt_bl, iInt_int, isI_int, isI_bl, iTup_tup, iTup_lst, iTup_int, Int.reducePow, List.getElem?_nil, wipeE, wipeF, parkL, putL, Nat.reduceLT, Nat.reduceLeDiff, frzE])
local macro_rules | `(tactic| fail "s") => `(tactic| repeat (first | fail "w" | fail "e"))
local macro_rules | `(tactic| fail "t") => `(tactic| refine take_s (by omega) (by omega) (by omega) (by omega) (by omega) ?_)
local macro_rules | `(tactic| fail "w") => `(tactic| with_reducible first | refine w_raise ?_ | refine w_lam ?_ | refine w_step ?_ | refine w_par3 ?_)
local macro_rules | `(tactic| fail "t") => `(tactic| refine take_s (by omega) (by omega) (by omega) (by omega) (by omega) ?_)
theorem small {g : Int} {R : Type} [Lean.Grind.CommRing R] (N : NumX g R) (hgr : Gr g) {z : Int} (hz : z = 1 ∨ z = 2) : ∃ s, D.tup [.int z, .int 1] = N.nm s ∧ s ≠ 0 ∧ N.B 4 s := by
  have hB : numB g (dN z 1) = true := by
    unfold numB dN
    dsimp only
    rcases hgr with rfl | rfl | rfl | rfl | rfl | rfl <;> rcases hz with rfl | rfl <;> decide
  obtain ⟨s, e⟩ := num_is (N := N) hB
  refine ⟨s, e, fun h => ?_, Num.B.of e ?_ (Bd.one (by decide))⟩
  · subst h
    have := dN_inj (e.trans N.zero)
    omega
  · unfold Bd
    rcases hz with rfl | rfl <;> decide
theorem told_small {g x y : Int} {Q : A → List A → Prop} {E : Ex → List A → Prop} (hgr : Gr g) (hx : x = 1 ∨ x = 2) (hy : y = 1 ∨ y = 2) (q : Q (.v (.bl true)) [.v (.int g), .v (.tup [.int x, .int 1]), .v (.tup [.int y, .int 1])]) :
    Wc (n_l_is_told [.v (.int g), .v (.tup [.int x, .int 1]), .v (.tup [.int y, .int 1])]) Q E := by
  obtain ⟨hg, hg2⟩ := hgr.le
  obtain ⟨R, _, N, D1⟩ := dom_of hgr
  obtain ⟨r, e1, hr0, hr⟩ := small N hgr hx
  obtain ⟨s, e2, hs0, hs⟩ := small N hgr hy
  rw [e1, e2] at q ⊢
  exact l_is_told_s (N := N) hg hg2 (by decide) (by decide) (by decide) hr hs hr0 hs0 q
theorem law3 {g : Int} {x0 x1 x2 x4 x5 x6 x7 x8 x9 x10 x11 : Option A} {QF : Flow → DEnv → Prop} {E : Ex → DEnv → Prop} (hgr : Gr g)
    (q : QF .nx [x0, x1, x2, some (.v (.int g)), x4, x5, x6, x7, x8, x9, x10, x11, none, none, none]) :
    Wp (b_law_3 [x0, x1, x2, some (.v (.int g)), x4, x5, x6, x7, x8, x9, x10, x11, none, none, none]) QF E := by
  unfold b_law_3
  fail "s"
  refine wo_some ?_
  refine ⟨sz_of (by simp), ?_⟩
  fail "s"
  refine told_small hgr (.inl rfl) (.inr rfl) ?_
  fail "s"
  refine told_small hgr (.inr rfl) (.inl rfl) ?_
  fail "s"
  refine told_small hgr (.inr rfl) (.inr rfl) ?_
  fail "s"
  refine told_small hgr (.inl rfl) (.inl rfl) ?_
  fail "s"
  refine wo_eq (a := .v (.bl true)) rfl ?_
  fail "s"
  exact q
theorem T_law (ns : List Int) (hl : ns.length ≤ 63) (hb : ∀ z ∈ ns, Builtin.Int.intBits z ≤ 1048576) : ∃ l, n_law [script ns] = .ok (.v (.bl true)) l := by
  have key : Wc (n_law [script ns]) (fun a _ => a = .v (.bl true)) fun _ _ => False := by
    refine wc_fn rfl rfl ?_
    unfold b_law
    fail "e"
    refine w_seq ?_
    fail "s"
    simp only [List.length_map]
    refine wo_eq (a := .v (.int (if (ns.length : Int) < 6 then ns.length else 6))) (by unfold opMin opI2; simp) ?_
    fail "s"
    refine wo_eq (a := .v (.int (if (if (ns.length : Int) < 6 then (ns.length : Int) else 6) > 2 then (if (ns.length : Int) < 6 then (ns.length : Int) else 6) else 2))) (by unfold opMax opI2; simp) ?_
    fail "s"
    refine ⟨⟨by split <;> split <;> omega, by split <;> split <;> omega⟩, ?_⟩
    have hk6 : (if (if (ns.length : Int) < 6 then (ns.length : Int) else 6) > 2 then (if (ns.length : Int) < 6 then (ns.length : Int) else 6) else 2).toNat ≤ 6 := by split <;> split <;> omega
    generalize (if (if (ns.length : Int) < 6 then (ns.length : Int) else 6) > 2 then (if (ns.length : Int) < 6 then (ns.length : Int) else 6) else 2).toNat = kk at hk6
    refine w_forL (fun ds ρ => ∃ s1 s2 s3 s4 s5 s6 s7 s8 s9 s10 s11, ρ = [some (script ns), s1, s2, s3, s4, s5, s6, s7, s8, s9, s10, s11, none, none, none] ∧ ∀ d ∈ ds, ∃ k : Int, d = .int k ∧ 0 ≤ k ∧ k < 6)
      ⟨_, _, _, _, _, _, _, _, _, _, _, rfl, fun d hd => ?_⟩ ?_ ?_
    · obtain ⟨i, hi, rfl⟩ := List.mem_map.mp hd
      have := List.mem_range.mp hi
      exact ⟨_, rfl, by omega, by omega⟩
    · rintro d ds _ ⟨s1, s2, s3, s4, s5, s6, s7, s8, s9, s10, s11, rfl, hds⟩
      obtain ⟨k, rfl, hk0, hk1⟩ := hds d (by simp)
      fail "s"
      refine law2 hk0 (by omega) fun s2 s3 s4 s5 s6 s7 s8 s9 s10 s11 => ?_
      fail "s"
      exact ⟨_, _, _, _, _, _, _, _, _, _, _, rfl, fun d hd => hds d (List.mem_cons_of_mem _ hd)⟩
    · rintro _ ⟨s1, s2, s3, s4, s5, s6, s7, s8, s9, s10, s11, rfl, _⟩
      refine wf_nx ?_
      refine w_seq ?_
      fail "s"
      refine wo_some ?_
      refine w_forL (fun ds ρ => ∃ s1 s2 s3 s4 s5 s6 s7 s8 s9 s10 s11, ρ = [some (script ns), s1, s2, s3, s4, s5, s6, s7, s8, s9, s10, s11, none, none, none] ∧ ∀ d ∈ ds, ∃ k : Int, d = .int k ∧ Gr k)
        ⟨_, _, _, _, _, _, _, _, _, _, _, rfl, fun d hd => ?_⟩ ?_ ?_
      · simp at hd
        rcases hd with rfl | rfl | rfl | rfl | rfl | rfl | rfl | rfl | rfl | rfl <;> exact ⟨_, rfl, by unfold Gr; decide⟩
      · rintro d ds _ ⟨s1, s2, s3, s4, s5, s6, s7, s8, s9, s10, s11, rfl, hds⟩
        obtain ⟨g, rfl, hgr⟩ := hds d (by simp)
        fail "s"
        refine law3 hgr ?_
        fail "s"
        exact ⟨_, _, _, _, _, _, _, _, _, _, _, rfl, fun d hd => hds d (List.mem_cons_of_mem _ hd)⟩
      · rintro _ ⟨s1, s2, s3, s4, s5, s6, s7, s8, s9, s10, s11, rfl, _⟩
        fail "s"
  obtain ⟨a, l, e, rfl⟩ := ex_wc key
  exact ⟨l, e⟩
end DD.K33

namespace DD.K33
open PySem PySem.Spec L2
open PyProof.Rows hiding St
theorem fin (T : ∀ ns : List Int, ns.length ≤ 63 → (∀ z ∈ ns, Builtin.Int.intBits z ≤ 1048576) → ∃ l, n_law [script ns] = .ok (.v (.bl true)) l) {l : PySem.W.OpenLaw} {w : World} {K : PySem.W.Frag} {mg : Str → Option Value} {fa : Addr} (hfa : mg "law" = some (.ref fa)) (H : Facts K mg)
    (X : XF K mg)
    (L_law : LamF K mg "law")
    (d_is_whole : Def0 K mg "is_whole" s_is_whole ["thing"])
    (d_shared : Def0 K mg "shared" s_shared ["one", "other"])
    (d_contrary_on : Def0 K mg "contrary_on" s_contrary_on ["wheel", "rest"])
    (d_whole_root : Def0 K mg "whole_root" s_whole_root ["square"])
    (d_l_bag : Def0 K mg "_law_bag" s_l_bag ["_law_script", "_law_at"])
    (d_l_take : Def0 K mg "_law_take" s_l_take ["_law_bag_here", "_law_many"])
    (d_l_is_whole : Def0 K mg "_law_is_whole" s_l_is_whole ["_law_thing"])
    (d_l_shared : Def0 K mg "_law_shared" s_l_shared ["_law_one", "_law_other"])
    (d_l_refusal : Def0 K mg "_law_refusal" s_l_refusal ["_law_deed"])
    (d_l_root_beneath : Def0 K mg "_law_root_beneath" s_l_root_beneath ["_law_whole"])
    (d_is_number : Def0 K mg "is_number" s_is_number ["ground", "thing"])
    (d_lowest : Def0 K mg "lowest" s_lowest ["ground", "top", "bottom"])
    (d_root_in : Def0 K mg "root_in" s_root_in ["ground", "x"])
    (d_l_low : Def0 K mg "_law_low" s_l_low ["_law_g", "_law_up", "_law_down"])
    (d_l_is_number : Def0 K mg "_law_is_number" s_l_is_number ["_law_g", "_law_thing"])
    (d_l_ground : Def0 K mg "_law_ground" s_l_ground ["_law_bag_here"])
    (d_l_odd : Def0 K mg "_law_odd" s_l_odd ["_law_bag_here"])
    (d_l_is_square : Def0 K mg "_law_is_square" s_l_is_square ["_law_g", "_law_x"])
    (d_times : Def0 K mg "times" s_times ["ground", "x", "y"])
    (d_is_square : Def0 K mg "is_square" s_is_square ["ground", "x"])
    (d_look_class : Def0 K mg "look_class" s_look_class ["ground", "thing"])
    (d_l_plus : Def0 K mg "_law_plus" s_l_plus ["_law_g", "_law_x", "_law_y"])
    (d_l_times : Def0 K mg "_law_times" s_l_times ["_law_g", "_law_x", "_law_y"])
    (d_l_minus : Def0 K mg "_law_minus" s_l_minus ["_law_g", "_law_x"])
    (d_l_number : Def0 K mg "_law_number" s_l_number ["_law_bag_here", "_law_g"])
    (d_are_alike : Def0 K mg "are_alike" s_are_alike ["ground", "x", "y"])
    (d_l_other_than_nought : Def0 K mg "_law_other_than_nought" s_l_other_than_nought ["_law_bag_here", "_law_g"])
    (d_l_great : Def0 K mg "_law_great" s_l_great ["_law_bag_here", "_law_g"])
    (d_l_is_told : Def0 K mg "_law_is_told" s_l_is_told ["_law_g", "_law_x", "_law_y"])
    (d_law : Def0 K mg "law" s_law ["_law_script"])
    : (∀ p ∈ csT K, K.lookup p.2 = none) ∧ ∃ fd : FuncData, (∀ (s : Shared) (v : Value), BindsTo s fd ⟨[v], []⟩ [("_law_script", v)]) ∧ ∀ base : Heap, (∀ p ∈ csT K, LamX.TabB base mg p.1 p.2) → FnOk l.prog w K mg base CX0 7 fa fd ["_law_script"] (spScript K 63) :=
  let ⟨f, fd, d_law⟩ := d_law
  ⟨csT_none (fun x hx => by
    simp only [LamN.names, List.mem_cons, List.not_mem_nil, or_false] at hx
    rcases hx with rfl
    · exact L_law), law_endT hfa d_law (fun base hT =>
    have c_is_whole : CalD l.prog w K mg base 1 "is_whole" n_is_whole [] := ok_is_whole H d_is_whole 
    have c_shared : CalD l.prog w K mg base 1 "shared" n_shared [] := ok_shared H d_shared 
    have c_contrary_on : CalD l.prog w K mg base 1 "contrary_on" n_contrary_on [] := ok_contrary_on H d_contrary_on 
    have c_whole_root : CalD l.prog w K mg base 1 "whole_root" n_whole_root [] := ok_whole_root H d_whole_root 
    have c_l_bag : CalD l.prog w K mg base 1 "_law_bag" n_l_bag [] := ok_l_bag H d_l_bag 
    have c_l_take : CalD l.prog w K mg base 1 "_law_take" n_l_take [] := ok_l_take H d_l_take 
    have c_l_is_whole : CalD l.prog w K mg base 1 "_law_is_whole" n_l_is_whole [] := ok_l_is_whole H d_l_is_whole 
    have c_l_shared : CalD l.prog w K mg base 1 "_law_shared" n_l_shared [] := ok_l_shared H d_l_shared 
    have c_l_refusal : TryD l.prog w K mg base "_law_refusal" tr_l_refusal (.non) := ok_l_refusal H X d_l_refusal
    have c_l_root_beneath : CalD l.prog w K mg base 1 "_law_root_beneath" n_l_root_beneath [] := ok_l_root_beneath H d_l_root_beneath 
    have c_is_number : CalD l.prog w K mg base 2 "is_number" n_is_number [] := ok_is_number H d_is_number c_is_whole c_shared
    have c_lowest : CalD l.prog w K mg base 2 "lowest" n_lowest [] := ok_lowest H d_lowest c_contrary_on c_shared
    have c_root_in : CalD l.prog w K mg base 2 "root_in" n_root_in [] := ok_root_in H d_root_in c_whole_root
    have c_l_low : CalD l.prog w K mg base 2 "_law_low" n_l_low [] := ok_l_low H d_l_low c_l_shared
    have c_l_is_number : CalD l.prog w K mg base 2 "_law_is_number" n_l_is_number [] := ok_l_is_number H d_l_is_number c_l_is_whole c_l_shared
    have c_l_ground : CalD l.prog w K mg base 2 "_law_ground" n_l_ground [] := ok_l_ground H d_l_ground c_l_take
    have c_l_odd : CalD l.prog w K mg base 2 "_law_odd" n_l_odd [] := ok_l_odd H d_l_odd c_l_take
    have c_l_is_square : CalD l.prog w K mg base 2 "_law_is_square" n_l_is_square [] := ok_l_is_square H d_l_is_square c_l_root_beneath
    have c_times : CalD l.prog w K mg base 3 "times" n_times [] := ok_times H d_times c_lowest
    have c_is_square : CalD l.prog w K mg base 3 "is_square" n_is_square [] := ok_is_square H d_is_square c_root_in
    have c_look_class : CalX l.prog w K mg base 3 "look_class" n_look_class [] := ok_look_class H d_look_class c_is_number
    have c_l_plus : CalD l.prog w K mg base 3 "_law_plus" n_l_plus [] := ok_l_plus H d_l_plus c_l_low
    have c_l_times : CalD l.prog w K mg base 3 "_law_times" n_l_times [] := ok_l_times H d_l_times c_l_low
    have c_l_minus : CalD l.prog w K mg base 3 "_law_minus" n_l_minus [] := ok_l_minus H d_l_minus c_l_low
    have c_l_number : CalD l.prog w K mg base 3 "_law_number" n_l_number [] := ok_l_number H d_l_number c_l_low c_l_take
    have c_are_alike : CalX l.prog w K mg base 4 "are_alike" n_are_alike [] := ok_are_alike H d_are_alike c_is_square c_look_class c_times
    have c_l_other_than_nought : CalD l.prog w K mg base 4 "_law_other_than_nought" n_l_other_than_nought [] := ok_l_other_than_nought H d_l_other_than_nought c_l_number
    have c_l_great : CalD l.prog w K mg base 5 "_law_great" n_l_great [] := ok_l_great H d_l_great c_l_other_than_nought c_l_take c_l_times
    have c_l_is_told : CalD l.prog w K mg base 5 "_law_is_told" n_l_is_told [] := ok_l_is_told H d_l_is_told c_l_is_square c_l_times c_are_alike
    ok_law H d_law c_l_bag c_l_great c_l_ground c_l_is_number c_l_is_told c_l_low c_l_minus c_l_odd c_l_plus c_l_refusal c_l_take c_l_times c_are_alike ⟨L_law, by simp [LamN.names], hT⟩) T⟩
end DD.K33
open PySem PySem.W PyProof.Rows
set_option maxHeartbeats 0 in
theorem PySem.Challenge.cw_fewmirrors_k33_classes_alike_holds : PySem.Challenge.rw_fewmirrors_k33_classes_alike.Holds := by
  w_on; o_law; k_head; (case hw => w_witness2)
  k_fill
  refine DD.walk_lam (l := PySem.Challenge.rw_fewmirrors_k33_classes_alike) (n := 63) (k := 7) (x := "_law_script") rfl (by decide) rfl ⟨rfl, by decide, by decide⟩ (by kernel_rfl) (fun w h Y => PySem.W.km_in_of Y) ?F
  case F =>
    intro w mg fa h KX G hmg
    refine' DD.K33.fin DD.K33.T_law hmg ?H ?X ?L_law ?d_is_whole ?d_shared ?d_contrary_on ?d_whole_root ?d_l_bag ?d_l_take ?d_l_is_whole ?d_l_shared ?d_l_refusal ?d_l_root_beneath ?d_is_number ?d_lowest ?d_root_in ?d_l_low ?d_l_is_number ?d_l_ground ?d_l_odd ?d_l_is_square ?d_times ?d_is_square ?d_look_class ?d_l_plus ?d_l_times ?d_l_minus ?d_l_number ?d_are_alike ?d_l_other_than_nought ?d_l_great ?d_l_is_told ?d_law
    case H =>
      refine' ⟨PySem.W.mg_none_of KX G (by k_is), PySem.W.mg_none_of KX G (by k_is), PySem.W.mg_none_of KX G (by k_is), PySem.W.mg_none_of KX G (by k_is), PySem.W.mg_none_of KX G (by k_is), PySem.W.mg_none_of KX G (by k_is), PySem.W.mg_none_of KX G (by k_is), PySem.W.mg_none_of KX G (by k_is), PySem.W.mg_none_of KX G (by k_is), PySem.W.mg_none_of KX G (by k_is), PySem.W.mg_none_of KX G (by k_is), ?g_NOUGHT, ?r_NoNumber⟩
      case r_NoNumber => (refine' DD.r_of KX G PySem.F.excBase_ValueError ?z1e ?z1q ?z1k ?z1s ?z1t; (case z1e => k_is); (case z1q => k_exc); (case z1k => k_is); (case z1s => k_is); (case z1t => k_is))
      case g_NOUGHT => (refine' DD.glob_kd KX G ?e ?k; (case e => k_is); (case k => (refine' DD.KD.tup ?lu1 ?cu1 ?du1 ?zu1 ?ru1; (case lu1 => k_is); (case cu1 => exact rfl); (case du1 => exact rfl); (case zu1 => decide); (case ru1 => (refine' .cons ?e0u1 (.cons ?e1u1 (.nil)); (case e0u1 => exact .int _ _); (case e1u1 => exact .int _ _))))))
    case X =>
      refine' ⟨?h_MirrorError, ?h_OverNought, ?h_Flat, ?h_NoName, ?c_NoNumber, ?x_NoNumber_MirrorError, ?x_NoNumber_OverNought, ?x_NoNumber_Flat, ?x_NoNumber_NoName, ?i_NotKept, ?i_TooMany, ?i_NoSaying, ?i_NoText, ?i_NoClaim, ?i_NoPlace, ?i_NoFour, ?i_NoSeat, ?i_NoWorth, ?i_NoKeeper, ?i_NoForm, ?i_NoTable, ?i_NoRow, ?i_NoNumber, ?i_NoGround, ?i_ValueError⟩
      case h_MirrorError => (refine' DD.h_of KX G ?z2e; (case z2e => k_is))
      case h_OverNought => (refine' DD.h_of KX G ?z3e; (case z3e => k_is))
      case h_Flat => (refine' DD.h_of KX G ?z4e; (case z4e => k_is))
      case h_NoName => (refine' DD.h_of KX G ?z5e; (case z5e => k_is))
      case c_NoNumber => (refine' DD.c_of KX G ?z6e ⟨?z6a1, ?z6a2, ?z6a3, ?z6a4, ?z6a5, ?z6a6, ?z6a7, ?z6a8⟩; (case z6e => k_is); (case z6a1 => k_is); (case z6a2 => k_is); (case z6a3 => k_is); (case z6a4 => k_is); (case z6a5 => k_is); (case z6a6 => k_is); (case z6a7 => k_is); (case z6a8 => k_is))
      case x_NoNumber_MirrorError => (refine' DD.x_of KX G ?z7a ?z7b ?z7c ?z7d ?z7e ?z7f; (case z7a => k_is); (case z7b => k_is); (case z7c => k_is); (case z7d => k_is); (case z7e => k_is); (case z7f => k_is))
      case x_NoNumber_OverNought => (refine' DD.x_of KX G ?z8a ?z8b ?z8c ?z8d ?z8e ?z8f; (case z8a => k_is); (case z8b => k_is); (case z8c => k_is); (case z8d => k_is); (case z8e => k_is); (case z8f => k_is))
      case x_NoNumber_Flat => (refine' DD.x_of KX G ?z9a ?z9b ?z9c ?z9d ?z9e ?z9f; (case z9a => k_is); (case z9b => k_is); (case z9c => k_is); (case z9d => k_is); (case z9e => k_is); (case z9f => k_is))
      case x_NoNumber_NoName => (refine' DD.x_of KX G ?z10a ?z10b ?z10c ?z10d ?z10e ?z10f; (case z10a => k_is); (case z10b => k_is); (case z10c => k_is); (case z10d => k_is); (case z10e => k_is); (case z10f => k_is))
      case i_NotKept =>
        intro c hc
        simp only [List.mem_cons, List.not_mem_nil, or_false] at hc
        rcases hc with rfl
        · (refine' DD.i_of KX G ?z11a ?z11b ?z11k; (case z11a => k_is); (case z11b => k_is); (case z11k => kit_is))
      case i_TooMany =>
        intro c hc
        simp only [List.mem_cons, List.not_mem_nil, or_false] at hc
        rcases hc with rfl
        · (refine' DD.i_of KX G ?z12a ?z12b ?z12k; (case z12a => k_is); (case z12b => k_is); (case z12k => kit_is))
      case i_NoSaying =>
        intro c hc
        simp only [List.mem_cons, List.not_mem_nil, or_false] at hc
        rcases hc with rfl
        · (refine' DD.i_of KX G ?z13a ?z13b ?z13k; (case z13a => k_is); (case z13b => k_is); (case z13k => kit_is))
      case i_NoText =>
        intro c hc
        simp only [List.mem_cons, List.not_mem_nil, or_false] at hc
        rcases hc with rfl
        · (refine' DD.i_of KX G ?z14a ?z14b ?z14k; (case z14a => k_is); (case z14b => k_is); (case z14k => kit_is))
      case i_NoClaim =>
        intro c hc
        simp only [List.mem_cons, List.not_mem_nil, or_false] at hc
        rcases hc with rfl
        · (refine' DD.i_of KX G ?z15a ?z15b ?z15k; (case z15a => k_is); (case z15b => k_is); (case z15k => kit_is))
      case i_NoPlace =>
        intro c hc
        simp only [List.mem_cons, List.not_mem_nil, or_false] at hc
        rcases hc with rfl
        · (refine' DD.i_of KX G ?z16a ?z16b ?z16k; (case z16a => k_is); (case z16b => k_is); (case z16k => kit_is))
      case i_NoFour =>
        intro c hc
        simp only [List.mem_cons, List.not_mem_nil, or_false] at hc
        rcases hc with rfl
        · (refine' DD.i_of KX G ?z17a ?z17b ?z17k; (case z17a => k_is); (case z17b => k_is); (case z17k => kit_is))
      case i_NoSeat =>
        intro c hc
        simp only [List.mem_cons, List.not_mem_nil, or_false] at hc
        rcases hc with rfl
        · (refine' DD.i_of KX G ?z18a ?z18b ?z18k; (case z18a => k_is); (case z18b => k_is); (case z18k => kit_is))
      case i_NoWorth =>
        intro c hc
        simp only [List.mem_cons, List.not_mem_nil, or_false] at hc
        rcases hc with rfl
        · (refine' DD.i_of KX G ?z19a ?z19b ?z19k; (case z19a => k_is); (case z19b => k_is); (case z19k => kit_is))
      case i_NoKeeper =>
        intro c hc
        simp only [List.mem_cons, List.not_mem_nil, or_false] at hc
        rcases hc with rfl
        · (refine' DD.i_of KX G ?z20a ?z20b ?z20k; (case z20a => k_is); (case z20b => k_is); (case z20k => kit_is))
      case i_NoForm =>
        intro c hc
        simp only [List.mem_cons, List.not_mem_nil, or_false] at hc
        rcases hc with rfl
        · (refine' DD.i_of KX G ?z21a ?z21b ?z21k; (case z21a => k_is); (case z21b => k_is); (case z21k => kit_is))
      case i_NoTable =>
        intro c hc
        simp only [List.mem_cons, List.not_mem_nil, or_false] at hc
        rcases hc with rfl
        · (refine' DD.i_of KX G ?z22a ?z22b ?z22k; (case z22a => k_is); (case z22b => k_is); (case z22k => kit_is))
      case i_NoRow =>
        intro c hc
        simp only [List.mem_cons, List.not_mem_nil, or_false] at hc
        rcases hc with rfl
        · (refine' DD.i_of KX G ?z23a ?z23b ?z23k; (case z23a => k_is); (case z23b => k_is); (case z23k => kit_is))
      case i_NoNumber =>
        intro c hc
        simp only [List.mem_cons, List.not_mem_nil, or_false] at hc
        rcases hc with rfl
        · (refine' DD.i_of KX G ?z24a ?z24b ?z24k; (case z24a => k_is); (case z24b => k_is); (case z24k => kit_is))
      case i_NoGround =>
        intro c hc
        simp only [List.mem_cons, List.not_mem_nil, or_false] at hc
        rcases hc with rfl
        · (refine' DD.i_of KX G ?z25a ?z25b ?z25k; (case z25a => k_is); (case z25b => k_is); (case z25k => kit_is))
      case i_ValueError =>
        intro c hc
        simp only [List.mem_cons, List.not_mem_nil, or_false] at hc
        rcases hc with rfl
        · (refine' DD.i_of_b (T := "ValueError") KX G ?z26a ?z26b ?z26n ?z26bb ?z26k; (case z26a => k_is); (case z26b => k_is); (case z26n => decide); (case z26bb => decide +kernel); (case z26k => kit_is))
    case L_law => (refine' DD.lam_of KX G ?z27a ?z27l ?z27c ?z27m ?z27p ?z27n ?z27u; (case z27a => k_is); (case z27l => k_is); (case z27c => exact rfl); (case z27m => k_is); (case z27p => exact rfl); (case z27n => kernel_rfl); (case z27u => exact DD.uniq1 rfl))
    case d_is_whole => (refine' DD.def_ex KX G ?a ?l ?c ?k ?b); (case a => k_is); (case l => k_is); (case c => k_is); (case k => k_is); (case b => exact fun _ _ _ _ _ _ us hl => match us, hl with | [_], _ => rfl)
    case d_shared => (refine' DD.def_ex KX G ?a ?l ?c ?k ?b); (case a => k_is); (case l => k_is); (case c => k_is); (case k => k_is); (case b => exact fun _ _ _ _ _ _ us hl => match us, hl with | [_, _], _ => rfl)
    case d_contrary_on => (refine' DD.def_ex KX G ?a ?l ?c ?k ?b); (case a => k_is); (case l => k_is); (case c => k_is); (case k => k_is); (case b => exact fun _ _ _ _ _ _ us hl => match us, hl with | [_, _], _ => rfl)
    case d_whole_root => (refine' DD.def_ex KX G ?a ?l ?c ?k ?b); (case a => k_is); (case l => k_is); (case c => k_is); (case k => k_is); (case b => exact fun _ _ _ _ _ _ us hl => match us, hl with | [_], _ => rfl)
    case d_l_bag => (refine' DD.def_ex KX G ?a ?l ?c ?k ?b); (case a => k_is); (case l => k_is); (case c => k_is); (case k => k_is); (case b => exact fun _ _ _ _ _ _ us hl => match us, hl with | [_, _], _ => rfl)
    case d_l_take => (refine' DD.def_ex KX G ?a ?l ?c ?k ?b); (case a => k_is); (case l => k_is); (case c => k_is); (case k => k_is); (case b => exact fun _ _ _ _ _ _ us hl => match us, hl with | [_, _], _ => rfl)
    case d_l_is_whole => (refine' DD.def_ex KX G ?a ?l ?c ?k ?b); (case a => k_is); (case l => k_is); (case c => k_is); (case k => k_is); (case b => exact fun _ _ _ _ _ _ us hl => match us, hl with | [_], _ => rfl)
    case d_l_shared => (refine' DD.def_ex KX G ?a ?l ?c ?k ?b); (case a => k_is); (case l => k_is); (case c => k_is); (case k => k_is); (case b => exact fun _ _ _ _ _ _ us hl => match us, hl with | [_, _], _ => rfl)
    case d_l_refusal => (refine' DD.def_ex KX G ?a ?l ?c ?k ?b); (case a => k_is); (case l => k_is); (case c => k_is); (case k => k_is); (case b => exact fun _ _ _ _ _ _ us hl => match us, hl with | [_], _ => rfl)
    case d_l_root_beneath => (refine' DD.def_ex KX G ?a ?l ?c ?k ?b); (case a => k_is); (case l => k_is); (case c => k_is); (case k => k_is); (case b => exact fun _ _ _ _ _ _ us hl => match us, hl with | [_], _ => rfl)
    case d_is_number => (refine' DD.def_ex KX G ?a ?l ?c ?k ?b); (case a => k_is); (case l => k_is); (case c => k_is); (case k => k_is); (case b => exact fun _ _ _ _ _ _ us hl => match us, hl with | [_, _], _ => rfl)
    case d_lowest => (refine' DD.def_ex KX G ?a ?l ?c ?k ?b); (case a => k_is); (case l => k_is); (case c => k_is); (case k => k_is); (case b => exact fun _ _ _ _ _ _ us hl => match us, hl with | [_, _, _], _ => rfl)
    case d_root_in => (refine' DD.def_ex KX G ?a ?l ?c ?k ?b); (case a => k_is); (case l => k_is); (case c => k_is); (case k => k_is); (case b => exact fun _ _ _ _ _ _ us hl => match us, hl with | [_, _], _ => rfl)
    case d_l_low => (refine' DD.def_ex KX G ?a ?l ?c ?k ?b); (case a => k_is); (case l => k_is); (case c => k_is); (case k => k_is); (case b => exact fun _ _ _ _ _ _ us hl => match us, hl with | [_, _, _], _ => rfl)
    case d_l_is_number => (refine' DD.def_ex KX G ?a ?l ?c ?k ?b); (case a => k_is); (case l => k_is); (case c => k_is); (case k => k_is); (case b => exact fun _ _ _ _ _ _ us hl => match us, hl with | [_, _], _ => rfl)
    case d_l_ground => (refine' DD.def_ex KX G ?a ?l ?c ?k ?b); (case a => k_is); (case l => k_is); (case c => k_is); (case k => k_is); (case b => exact fun _ _ _ _ _ _ us hl => match us, hl with | [_], _ => rfl)
    case d_l_odd => (refine' DD.def_ex KX G ?a ?l ?c ?k ?b); (case a => k_is); (case l => k_is); (case c => k_is); (case k => k_is); (case b => exact fun _ _ _ _ _ _ us hl => match us, hl with | [_], _ => rfl)
    case d_l_is_square => (refine' DD.def_ex KX G ?a ?l ?c ?k ?b); (case a => k_is); (case l => k_is); (case c => k_is); (case k => k_is); (case b => exact fun _ _ _ _ _ _ us hl => match us, hl with | [_, _], _ => rfl)
    case d_times => (refine' DD.def_ex KX G ?a ?l ?c ?k ?b); (case a => k_is); (case l => k_is); (case c => k_is); (case k => k_is); (case b => exact fun _ _ _ _ _ _ us hl => match us, hl with | [_, _, _], _ => rfl)
    case d_is_square => (refine' DD.def_ex KX G ?a ?l ?c ?k ?b); (case a => k_is); (case l => k_is); (case c => k_is); (case k => k_is); (case b => exact fun _ _ _ _ _ _ us hl => match us, hl with | [_, _], _ => rfl)
    case d_look_class => (refine' DD.def_ex KX G ?a ?l ?c ?k ?b); (case a => k_is); (case l => k_is); (case c => k_is); (case k => k_is); (case b => exact fun _ _ _ _ _ _ us hl => match us, hl with | [_, _], _ => rfl)
    case d_l_plus => (refine' DD.def_ex KX G ?a ?l ?c ?k ?b); (case a => k_is); (case l => k_is); (case c => k_is); (case k => k_is); (case b => exact fun _ _ _ _ _ _ us hl => match us, hl with | [_, _, _], _ => rfl)
    case d_l_times => (refine' DD.def_ex KX G ?a ?l ?c ?k ?b); (case a => k_is); (case l => k_is); (case c => k_is); (case k => k_is); (case b => exact fun _ _ _ _ _ _ us hl => match us, hl with | [_, _, _], _ => rfl)
    case d_l_minus => (refine' DD.def_ex KX G ?a ?l ?c ?k ?b); (case a => k_is); (case l => k_is); (case c => k_is); (case k => k_is); (case b => exact fun _ _ _ _ _ _ us hl => match us, hl with | [_, _], _ => rfl)
    case d_l_number => (refine' DD.def_ex KX G ?a ?l ?c ?k ?b); (case a => k_is); (case l => k_is); (case c => k_is); (case k => k_is); (case b => exact fun _ _ _ _ _ _ us hl => match us, hl with | [_, _], _ => rfl)
    case d_are_alike => (refine' DD.def_ex KX G ?a ?l ?c ?k ?b); (case a => k_is); (case l => k_is); (case c => k_is); (case k => k_is); (case b => exact fun _ _ _ _ _ _ us hl => match us, hl with | [_, _, _], _ => rfl)
    case d_l_other_than_nought => (refine' DD.def_ex KX G ?a ?l ?c ?k ?b); (case a => k_is); (case l => k_is); (case c => k_is); (case k => k_is); (case b => exact fun _ _ _ _ _ _ us hl => match us, hl with | [_, _], _ => rfl)
    case d_l_great => (refine' DD.def_ex KX G ?a ?l ?c ?k ?b); (case a => k_is); (case l => k_is); (case c => k_is); (case k => k_is); (case b => exact fun _ _ _ _ _ _ us hl => match us, hl with | [_, _], _ => rfl)
    case d_l_is_told => (refine' DD.def_ex KX G ?a ?l ?c ?k ?b); (case a => k_is); (case l => k_is); (case c => k_is); (case k => k_is); (case b => exact fun _ _ _ _ _ _ us hl => match us, hl with | [_, _, _], _ => rfl)
    case d_law => (refine' DD.def_ex KX G ?a ?l ?c ?k ?b); (case a => k_is); (case l => k_is); (case c => k_is); (case k => k_is); (case b => exact fun _ _ _ _ _ _ us hl => match us, hl with | [_], _ => rfl)

