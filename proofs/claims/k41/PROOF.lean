import PyProof.Rows.All
import HandS.ForMost
import HandS.Zip
import HandS.Wide
import HandS.EndBits
import HandS.IsInst
import HandS.EndTab
import HandS.TryMany
import HandS.ExcIs
import HandS.ExcOwn
import HandS.Exc
import HandS.TupAny
import HandS.TupLe
import HandS.TupMul
import HandS.Style
import HandS.FStr
import HandS.Text
import HandS.NoneIn
import HandS.SortKw
import HandS.WordsExc
import HandS.CallSlots
import HandS.ExcCtx
import HandS.HotCalls
import HandS.HeadWalk
import KE.RegKIsAll
import HandS.ExcInit
import HandS.ExcField
import KE.KExcInit
import HandS.MakeKw
import HandS.Conv
import PyProof.P3In
import KE.KSortKeyAny
import HandS.FromBytesMap
import PyProof.Rows.SetFrom
import KE.GoesMore
import HandS.StrMore
import KE.KFmtOwn
import KE.KCallOwn
import PyProof.InstEq
import KE.IntTextLaws
import PyProof.StrLawsLast
import KE.KExcLine
import KE.OsRunLaw
import PySem.Challenge.RW_fewmirrors_k41_double_turns
set_option Elab.async false
set_option linter.all false
set_option maxRecDepth 100000
set_option maxHeartbeats 0
namespace DD.K41H
open PySem PySem.W
def ns0 : List PySem.Str := ["_wall", "MirrorError", "NoGround", "NoRow", "NoTable", "NoForm", "NoKeeper", "NoFour", "NotKept", "OverNought", "Flat", "GROUNDS", "NOUGHT", "ONE", "is_whole", "is_ground", "look_ground", "shared", "is_number", "contrary_on", "lowest", "plus", "minus", "less", "times", "over", "show_number", "is_row", "is_table", "scaled"]
def ns1 : List PySem.Str := ["added", "taken_off", "ones", "through", "product", "turned", "headed", "least_rows", "determinant", "rank_of", "back", "back_tables", "show_row", "show_table", "MOST_LETTERS", "is_form_table", "wheel_text", "Form", "look_row", "look_form", "paired", "is_flat", "first_changed", "moves", "moved_rows", "counted", "Keeper", "PARTS", "PRODUCTS", "four_times"]
def ns2 : List PySem.Str := ["norm_of", "look_four", "squares", "between", "double_turn", "_law_bag", "_law_take", "_law_mixed", "_law_shared", "_law_low", "_law_plus", "_law_times", "_law_minus", "_law_over", "_law_sum", "_law_scaled", "_law_ones", "_law_ground", "_law_number", "_law_row", "_law_four", "_law_norm", "_law_turned_four", "_law_four_times", "_law_between", "_law_like", "_law_is_double"]
def names : List PySem.Str := ns0 ++ ns1 ++ ns2
def qv : Program := view (OpenLaw.row PySem.Challenge.rw_fewmirrors_k41_double_turns).prog [94]
end DD.K41H
open PySem PySem.W PyProof.Rows in
local macro_rules | `(tactic| o_headL $H) => `(tactic| (refine holds_open (q := DD.K41H.qv) (loose := DD.K41H.names) (Xt := fun s => xlAt DD.K41H.qv [] s && recOk (RowW.records (OpenRow.toRowW (OpenLaw.row PySem.Challenge.rw_fewmirrors_k41_double_turns))) s) (XP := XL DD.K41H.qv []) (Yf := Hook.obs $H) (Ya := Hook.val $H) (YP := Hook.says $H) (N := 30700) ?$(Lean.mkIdent `hl) (Hook.of $H) (Hook.keeps $H) (fun s e => xl_of s (Bool.and_eq_true_iff.mp e).1) XL.keeps (by rfl) (by rfl) (by rfl) (fun s e => recFacts_of (Bool.and_eq_true_iff.mp e).2) (by rfl) (by first | assumption | decide +kernel) (by decide +kernel) ⟨rfl, rfl, rfl, rfl, rfl, by decide +kernel⟩ ?$(Lean.mkIdent `hw) ?$(Lean.mkIdent `hc); (case $(Lean.mkIdent `hl):ident => (refine HeadRun.left_oneK (M := 30000) (by kernel_rfl) (by rfl) (fun s => by kernel_rfl) (by rfl) ?_; intro w os; kernel_rfl))))
local macro_rules | `(tactic| k_head) => `(tactic| k_headL)
open PySem PySem.W PyProof.Rows in
set_option maxHeartbeats 0 in
open_top DD.K41H.head for PySem.Challenge.rw_fewmirrors_k41_double_turns
namespace DD
open PySem PySem.Spec L2
open PyProof.Rows hiding St

inductive D where
  | non
  | bl (b : Bool)
  | int (i : Int)
  | str (x : Str)
  | tup (l : List D)
  | lst (l : List D)
  | fz (l : List D)
  | ins (c : Str) (ks : List Str) (l : List D)

/-- v: frozen data; m: a list of one's own; mi: an instance of one's own; t: a tuple of one's own -/
inductive A where
  | v (d : D)
  | m (l : List A)
  | mi (c : Str) (ks : List Str) (l : List A)
  | t (l : List A)

mutual
def A.frz : A → D
  | .v d => d
  | .m l => .lst (frzs l)
  | .mi c ks l => .ins c ks (frzs l)
  | .t l => .tup (frzs l)
def frzs : List A → List D
  | [] => []
  | a :: l => a.frz :: frzs l
end
theorem frzs_eq : ∀ l : List A, frzs l = l.map A.frz
  | [] => rfl
  | a :: l => by rw [frzs, frzs_eq l]; rfl
theorem frzs_v : ∀ l : List D, frzs (l.map A.v) = l
  | [] => rfl
  | a :: l => by rw [List.map_cons, frzs, frzs_v l]; rfl

section
variable (K : PySem.W.Frag) (mg : Str → Option Value)
mutual
inductive RepD (Z : Hp) : V → D → Prop
  | non : RepD Z .non .non
  | bl (b : Bool) : RepD Z (.bl b) (.bl b)
  | int (i : Int) : RepD Z (.int i) (.int i)
  | str (x : Str) : RepD Z (.str x) (.str x)
  | tup {a : Addr} {vs : List V} {ds : List D} : SqT K Z a vs → RepDs Z vs ds → RepD Z (.ref a) (.tup ds)
  | lst {a : Addr} {vs : List V} {ds : List D} : Z a = some (.lst vs) → RepDs Z vs ds → RepD Z (.ref a) (.lst ds)
  | fz {a : Addr} {vs : List V} {ds : List D} : SqL K Z a vs → RepDs Z vs ds → RepD Z (.ref a) (.fz ds)
  | ins {a C dx : Addr} {c : Str} {ws : List (Str × V)} {ds : List D} : mg c = some (.ref C) → Z a = some (.ins C dx ws) → RepDs Z (ws.map (·.2)) ds → RepD Z (.ref a) (.ins c (ws.map (·.1)) ds)
inductive RepDs (Z : Hp) : List V → List D → Prop
  | nil : RepDs Z [] []
  | cons {x : V} {xs : List V} {d : D} {ds : List D} : RepD Z x d → RepDs Z xs ds → RepDs Z (x :: xs) (d :: ds)
end
mutual
inductive RepA (Z H : Hp) : V → A → List Addr → Prop
  | v {x : V} {d : D} : RepD K mg Z x d → RepA Z H x (.v d) []
  | m {a : Addr} {vs : List V} {l : List A} {fp : List Addr} : H a = some (.lst vs) → RepAs Z H vs l fp → RepA Z H (.ref a) (.m l) (a :: fp)
  | mi {a C dx : Addr} {c : Str} {ws : List (Str × V)} {l : List A} {fp : List Addr} : mg c = some (.ref C) → H a = some (.ins C dx ws) → RepAs Z H (ws.map (·.2)) l fp →
      RepA Z H (.ref a) (.mi c (ws.map (·.1)) l) (a :: fp)
  | t {a : Addr} {vs : List V} {l : List A} {fp : List Addr} : H a = some (.tup vs) → RepAs Z H vs l fp → RepA Z H (.ref a) (.t l) (a :: fp)
inductive RepAs (Z H : Hp) : List V → List A → List Addr → Prop
  | nil : RepAs Z H [] [] []
  | cons {x : V} {xs : List V} {a : A} {as : List A} {f g : List Addr} : RepA Z H x a f → RepAs Z H xs as g → RepAs Z H (x :: xs) (a :: as) (f ++ g)
end
end

section
variable {K : PySem.W.Frag} {mg : Str → Option Value} {Z Z' H H' : Hp}

theorem sameT {a : Addr} {xs : List V} (e : Same Z Z') (h : SqT K Z a xs) : SqT K Z' a xs := by
  rcases h with (h | ⟨o, h⟩) | h
  · exact .inl (.inl (e _ _ h))
  · exact .inl (.inr ⟨o, e _ _ h⟩)
  · exact .inr h

mutual
theorem RepD.mono (e : Same Z Z') : ∀ (d : D) (x : V), RepD K mg Z x d → RepD K mg Z' x d
  | .non, _, h => by cases h; exact .non
  | .bl _, _, h => by cases h; exact .bl _
  | .int _, _, h => by cases h; exact .int _
  | .str _, _, h => by cases h; exact .str _
  | .tup l, _, h => by
    cases h with
    | tup h1 h2 => exact .tup (sameT e h1) (RepDs.mono e l _ h2)
  | .lst l, _, h => by
    cases h with
    | lst h1 h2 => exact .lst (e _ _ h1) (RepDs.mono e l _ h2)
  | .fz l, _, h => by
    cases h with
    | fz h1 h2 => exact .fz (e.seq h1) (RepDs.mono e l _ h2)
  | .ins c ks l, _, h => by
    cases h with
    | ins h1 h2 h3 => exact .ins h1 (e _ _ h2) (RepDs.mono e l _ h3)
theorem RepDs.mono (e : Same Z Z') : ∀ (ds : List D) (xs : List V), RepDs K mg Z xs ds → RepDs K mg Z' xs ds
  | [], _, h => by cases h; exact .nil
  | d :: ds, _, h => by
    cases h with
    | cons h1 h2 => exact .cons (RepD.mono e d _ h1) (RepDs.mono e ds _ h2)
end

mutual
theorem RepA.mono (e : Same Z Z') : ∀ (a : A) (x : V) (fp : List Addr), (∀ b ∈ fp, H' b = H b) → RepA K mg Z H x a fp → RepA K mg Z' H' x a fp
  | .v d, _, _, _, h => by
    cases h with
    | v h => exact .v (RepD.mono e d _ h)
  | .m l, _, _, k, h => by
    cases h with
    | m h1 h2 => exact .m ((k _ List.mem_cons_self).trans h1) (RepAs.mono e l _ _ (fun b hb => k b (List.mem_cons_of_mem _ hb)) h2)
  | .mi c ks l, _, _, k, h => by
    cases h with
    | mi h1 h2 h3 => exact .mi h1 ((k _ List.mem_cons_self).trans h2) (RepAs.mono e l _ _ (fun b hb => k b (List.mem_cons_of_mem _ hb)) h3)
  | .t l, _, _, k, h => by
    cases h with
    | t h1 h2 => exact .t ((k _ List.mem_cons_self).trans h1) (RepAs.mono e l _ _ (fun b hb => k b (List.mem_cons_of_mem _ hb)) h2)
theorem RepAs.mono (e : Same Z Z') : ∀ (l : List A) (xs : List V) (fp : List Addr), (∀ b ∈ fp, H' b = H b) → RepAs K mg Z H xs l fp → RepAs K mg Z' H' xs l fp
  | [], _, _, _, h => by cases h; exact .nil
  | a :: l, _, _, k, h => by
    cases h with
    | cons h1 h2 => exact .cons (RepA.mono e a _ _ (fun b hb => k b (List.mem_append_left _ hb)) h1) (RepAs.mono e l _ _ (fun b hb => k b (List.mem_append_right _ hb)) h2)
end

mutual
theorem RepA.freeze (e : Same Z Z') : ∀ (a : A) (x : V) (fp : List Addr), (∀ b ∈ fp, Z' b = H b) → RepA K mg Z H x a fp → RepD K mg Z' x a.frz
  | .v d, _, _, _, h => by
    cases h with
    | v h => exact RepD.mono e d _ h
  | .m l, _, _, k, h => by
    cases h with
    | m h1 h2 => exact .lst ((k _ List.mem_cons_self).trans h1) (RepAs.freeze e l _ _ (fun b hb => k b (List.mem_cons_of_mem _ hb)) h2)
  | .mi c ks l, _, _, k, h => by
    cases h with
    | mi h1 h2 h3 => exact .ins h1 ((k _ List.mem_cons_self).trans h2) (RepAs.freeze e l _ _ (fun b hb => k b (List.mem_cons_of_mem _ hb)) h3)
  | .t l, _, _, k, h => by
    cases h with
    | t h1 h2 => exact .tup (.inl (.inl ((k _ List.mem_cons_self).trans h1))) (RepAs.freeze e l _ _ (fun b hb => k b (List.mem_cons_of_mem _ hb)) h2)
theorem RepAs.freeze (e : Same Z Z') : ∀ (l : List A) (xs : List V) (fp : List Addr), (∀ b ∈ fp, Z' b = H b) → RepAs K mg Z H xs l fp → RepDs K mg Z' xs (frzs l)
  | [], _, _, _, h => by cases h; exact .nil
  | a :: l, _, _, k, h => by
    cases h with
    | cons h1 h2 => exact .cons (RepA.freeze e a _ _ (fun b hb => k b (List.mem_append_left _ hb)) h1) (RepAs.freeze e l _ _ (fun b hb => k b (List.mem_append_right _ hb)) h2)
end

mutual
theorem RepA.there : ∀ (a : A) (x : V) (fp : List Addr), RepA K mg Z H x a fp → ∀ b ∈ fp, ∃ o, H b = some o
  | .v d, _, _, h, b, hb => by
    cases h with
    | v h => cases hb
  | .m l, _, _, h, b, hb => by
    cases h with
    | m h1 h2 =>
      rcases List.mem_cons.mp hb with e | hb
      · exact e ▸ ⟨_, h1⟩
      · exact RepAs.there l _ _ h2 b hb
  | .mi c ks l, _, _, h, b, hb => by
    cases h with
    | mi h1 h2 h3 =>
      rcases List.mem_cons.mp hb with e | hb
      · exact e ▸ ⟨_, h2⟩
      · exact RepAs.there l _ _ h3 b hb
  | .t l, _, _, h, b, hb => by
    cases h with
    | t h1 h2 =>
      rcases List.mem_cons.mp hb with e | hb
      · exact e ▸ ⟨_, h1⟩
      · exact RepAs.there l _ _ h2 b hb
theorem RepAs.there : ∀ (l : List A) (xs : List V) (fp : List Addr), RepAs K mg Z H xs l fp → ∀ b ∈ fp, ∃ o, H b = some o
  | [], _, _, h, b, hb => by cases h; cases hb
  | a :: l, _, _, h, b, hb => by
    cases h with
    | cons h1 h2 =>
      rcases List.mem_append.mp hb with hb | hb
      · exact RepA.there a _ _ h1 b hb
      · exact RepAs.there l _ _ h2 b hb
end

/-- all but the tables -/
def noT (H : Hp) : Hp := fun a => match H a with
  | some (.tbl _) => none
  | o => o
theorem noT_same {H : Hp} : Same (noT H) H := fun a o e => by
  unfold noT at e
  split at e
  · cases e
  · exact e
theorem noT_nt {H : Hp} (a : Addr) (ps : Array Value) : noT H a ≠ some (.tbl ps) := fun e => by
  unfold noT at e
  split at e
  · cases e
  · rename_i h; exact h _ e
theorem noT_of {H : Hp} {a : Addr} {o : HO} (e : H a = some o) (n : ∀ ps, o ≠ .tbl ps) : noT H a = some o := by
  unfold noT
  rw [e]
  split
  · rename_i h; cases h; exact (n _ rfl).elim
  · rfl
theorem noT_seq {H : Hp} {a : Addr} {xs : List V} (h : SqL K H a xs) : SqL K (noT H) a xs := by
  rcases h with (h | ⟨o, h⟩) | h
  · exact .inl (.inl (noT_of h fun _ z => by cases z))
  · exact .inl (.inr ⟨o, noT_of h fun _ z => by cases z⟩)
  · exact .inr h
/-- what may be written -/
def Mut (o : HO) : Prop := (∃ xs, o = .lst xs) ∨ (∃ C dx ws, o = .ins C dx ws) ∨ ∃ xs, o = .tup xs
mutual
theorem RepA.thereM : ∀ (a : A) (x : V) (fp : List Addr), RepA K mg Z H x a fp → ∀ b ∈ fp, ∃ o, H b = some o ∧ Mut o
  | .v d, _, _, h, b, hb => by
    cases h with
    | v h => cases hb
  | .m l, _, _, h, b, hb => by
    cases h with
    | m h1 h2 =>
      rcases List.mem_cons.mp hb with e | hb
      · exact e ▸ ⟨_, h1, .inl ⟨_, rfl⟩⟩
      · exact RepAs.thereM l _ _ h2 b hb
  | .mi c ks l, _, _, h, b, hb => by
    cases h with
    | mi h1 h2 h3 =>
      rcases List.mem_cons.mp hb with e | hb
      · exact e ▸ ⟨_, h2, .inr (.inl ⟨_, _, _, rfl⟩)⟩
      · exact RepAs.thereM l _ _ h3 b hb
  | .t l, _, _, h, b, hb => by
    cases h with
    | t h1 h2 =>
      rcases List.mem_cons.mp hb with e | hb
      · exact e ▸ ⟨_, h1, .inr (.inr ⟨_, rfl⟩)⟩
      · exact RepAs.thereM l _ _ h2 b hb
theorem RepAs.thereM : ∀ (l : List A) (xs : List V) (fp : List Addr), RepAs K mg Z H xs l fp → ∀ b ∈ fp, ∃ o, H b = some o ∧ Mut o
  | [], _, _, h, b, hb => by cases h; cases hb
  | a :: l, _, _, h, b, hb => by
    cases h with
    | cons h1 h2 =>
      rcases List.mem_append.mp hb with hb | hb
      · exact RepA.thereM a _ _ h1 b hb
      · exact RepAs.thereM l _ _ h2 b hb
end

theorem RepDs.length : ∀ {xs : List V} {ds : List D}, RepDs K mg Z xs ds → xs.length = ds.length
  | [], _, h => by cases h; rfl
  | _ :: xs, _, h => by
    cases h with
    | cons _ h => simp [RepDs.length h]
theorem RepAs.length : ∀ {xs : List V} {l : List A} {fp : List Addr}, RepAs K mg Z H xs l fp → xs.length = l.length
  | [], _, _, h => by cases h; rfl
  | _ :: xs, _, _, h => by
    cases h with
    | cons _ h => simp [RepAs.length h]
theorem RepDs.get : ∀ {xs : List V} {ds : List D} {i : Nat} {d : D}, RepDs K mg Z xs ds → ds[i]? = some d → ∃ x, xs[i]? = some x ∧ RepD K mg Z x d
  | [], _, _, _, h, e => by cases h; simp at e
  | x :: xs, _, 0, _, h, e => by
    cases h with
    | cons h1 h2 => simp at e; subst e; exact ⟨_, rfl, h1⟩
  | x :: xs, _, i + 1, _, h, e => by
    cases h with
    | cons h1 h2 =>
      obtain ⟨y, h3, h4⟩ := RepDs.get (i := i) h2 (by simpa using e)
      exact ⟨y, by simpa using h3, h4⟩
theorem RepDs.append : ∀ {xs ys : List V} {ds es : List D}, RepDs K mg Z xs ds → RepDs K mg Z ys es → RepDs K mg Z (xs ++ ys) (ds ++ es)
  | [], _, _, _, h, g => by cases h; exact g
  | x :: xs, _, _, _, h, g => by
    cases h with
    | cons h1 h2 => exact .cons h1 (RepDs.append h2 g)
theorem RepDs.take : ∀ {xs : List V} {ds : List D} (n : Nat), RepDs K mg Z xs ds → RepDs K mg Z (xs.take n) (ds.take n)
  | _, _, 0, _ => .nil
  | [], _, _ + 1, h => by cases h; exact .nil
  | x :: xs, _, n + 1, h => by
    cases h with
    | cons h1 h2 => exact .cons h1 (RepDs.take n h2)
theorem RepDs.drop : ∀ {xs : List V} {ds : List D} (n : Nat), RepDs K mg Z xs ds → RepDs K mg Z (xs.drop n) (ds.drop n)
  | _, _, 0, h => h
  | [], _, _ + 1, h => by cases h; exact .nil
  | x :: xs, _, n + 1, h => by
    cases h with
    | cons h1 h2 => exact RepDs.drop n h2
theorem RepDs.reverse : ∀ {xs : List V} {ds : List D}, RepDs K mg Z xs ds → RepDs K mg Z xs.reverse ds.reverse
  | [], _, h => by cases h; exact .nil
  | x :: xs, _, h => by
    cases h with
    | cons h1 h2 =>
      rw [List.reverse_cons, List.reverse_cons]
      exact RepDs.append (RepDs.reverse h2) (.cons h1 .nil)
theorem RepAs.append : ∀ {xs ys : List V} {l k : List A} {f g : List Addr}, RepAs K mg Z H xs l f → RepAs K mg Z H ys k g → RepAs K mg Z H (xs ++ ys) (l ++ k) (f ++ g)
  | [], _, _, _, _, _, h, g => by cases h; exact g
  | x :: xs, _, _, _, _, _, h, g => by
    cases h with
    | cons h1 h2 =>
      rw [List.append_assoc]
      exact .cons h1 (RepAs.append h2 g)
/-- an element and what is left of the list when it is put otherwise, taken out -/
theorem RepAs.at : ∀ {xs : List V} {l : List A} {f : List Addr} {i : Nat} {a : A}, RepAs K mg Z H xs l f → l[i]? = some a →
    ∃ x fa, xs[i]? = some x ∧ RepA K mg Z H x a fa ∧ (∃ g, RepAs K mg Z H (xs.eraseIdx i) (l.eraseIdx i) g ∧ ∀ y, g.count y + fa.count y = f.count y) ∧
      ∀ {y : V} {c : A} {fc : List Addr}, RepA K mg Z H y c fc → ∃ g, RepAs K mg Z H (xs.set i y) (l.set i c) g ∧ ∀ z, g.count z + fa.count z = f.count z + fc.count z
  | [], _, _, _, _, h, e => by cases h; simp at e
  | x :: xs, _, _, 0, _, h, e => by
    cases h with
    | @cons _ _ a as fa g h1 h2 =>
      simp at e; subst e
      refine ⟨x, fa, rfl, h1, ⟨g, h2, fun y => by rw [List.count_append]; omega⟩, fun {y c fc} hc => ⟨fc ++ g, .cons hc h2, fun z => by rw [List.count_append, List.count_append]; omega⟩⟩
  | x :: xs, _, _, i + 1, _, h, e => by
    cases h with
    | @cons _ _ a0 as f0 g0 h1 h2 =>
      obtain ⟨y, fa, e1, r, ⟨g, r2, e2⟩, r3⟩ := RepAs.at (i := i) h2 (by simpa using e)
      refine ⟨y, fa, by simpa using e1, r, ⟨f0 ++ g, ?_, fun z => ?_⟩, fun {y c fc} hc => ?_⟩
      · exact .cons h1 r2
      · have := e2 z; rw [List.count_append, List.count_append]; omega
      · obtain ⟨g', r4, e4⟩ := r3 hc
        refine ⟨f0 ++ g', .cons h1 r4, fun z => ?_⟩
        have := e4 z
        rw [List.count_append, List.count_append]; omega
end

abbrev DEnv := List (Option A)
section
variable (K : PySem.W.Frag) (mg : Str → Option Value)
inductive SRep (P : Nat → Addr → Prop) (Z H : Hp) : Nat → St → DEnv → List Addr → Prop
  | nil {n : Nat} : SRep P Z H n [] [] []
  | no {n : Nat} {s : Option V} {σ : St} {ρ : DEnv} {f : List Addr} : SRep P Z H (n + 1) σ ρ f → SRep P Z H n (s :: σ) (none :: ρ) f
  | so {n : Nat} {x : V} {a : A} {σ : St} {ρ : DEnv} {f g : List Addr} : RepA K mg Z H x a f → (∀ b ∈ f, P n b) → SRep P Z H (n + 1) σ ρ g → SRep P Z H n (some x :: σ) (some a :: ρ) (f ++ g)
end
section
variable {K : PySem.W.Frag} {mg : Str → Option Value} {P P' : Nat → Addr → Prop} {Z Z' H H' : Hp}
theorem SRep.length : ∀ {σ : St} {n : Nat} {ρ : DEnv} {f : List Addr}, SRep K mg P Z H n σ ρ f → σ.length = ρ.length
  | [], _, _, _, h => by cases h; rfl
  | _ :: σ, _, _, _, h => by
    cases h with
    | no h => simp [SRep.length h]
    | so _ _ h => simp [SRep.length h]
theorem SRep.mono (e : Same Z Z') : ∀ {σ : St} {n : Nat} {ρ : DEnv} {f : List Addr}, (∀ b ∈ f, H' b = H b) → (∀ n, ∀ b ∈ f, P n b → P' n b) → SRep K mg P Z H n σ ρ f → SRep K mg P' Z' H' n σ ρ f
  | [], _, _, _, _, _, h => by cases h; exact .nil
  | _ :: σ, _, _, _, k, p, h => by
    cases h with
    | no h => exact .no (SRep.mono e k p h)
    | so h1 h2 h3 =>
      exact .so (RepA.mono e _ _ _ (fun b hb => k b (List.mem_append_left _ hb)) h1) (fun b hb => p _ b (List.mem_append_left _ hb) (h2 b hb))
        (SRep.mono e (fun b hb => k b (List.mem_append_right _ hb)) (fun n b hb => p n b (List.mem_append_right _ hb)) h3)
theorem SRep.there : ∀ {σ : St} {n : Nat} {ρ : DEnv} {f : List Addr}, SRep K mg P Z H n σ ρ f → ∀ b ∈ f, ∃ o, H b = some o
  | [], _, _, _, h, b, hb => by cases h; cases hb
  | _ :: σ, _, _, _, h, b, hb => by
    cases h with
    | no h => exact SRep.there h b hb
    | so h1 h2 h3 =>
      rcases List.mem_append.mp hb with hb | hb
      · exact RepA.there _ _ _ h1 b hb
      · exact SRep.there h3 b hb
theorem SRep.thereM : ∀ {σ : St} {n : Nat} {ρ : DEnv} {f : List Addr}, SRep K mg P Z H n σ ρ f → ∀ b ∈ f, ∃ o, H b = some o ∧ Mut o
  | [], _, _, _, h, b, hb => by cases h; cases hb
  | _ :: σ, _, _, _, h, b, hb => by
    cases h with
    | no h => exact SRep.thereM h b hb
    | so h1 h2 h3 =>
      rcases List.mem_append.mp hb with hb | hb
      · exact RepA.thereM _ _ _ h1 b hb
      · exact SRep.thereM h3 b hb
theorem SRep.p : ∀ {σ : St} {n : Nat} {ρ : DEnv} {f : List Addr}, SRep K mg P Z H n σ ρ f → ∀ b ∈ f, ∃ n, P n b
  | [], _, _, _, h, b, hb => by cases h; cases hb
  | _ :: σ, _, _, _, h, b, hb => by
    cases h with
    | no h => exact SRep.p h b hb
    | so h1 h2 h3 =>
      rcases List.mem_append.mp hb with hb | hb
      · exact ⟨_, h2 b hb⟩
      · exact SRep.p h3 b hb
/-- a slot is taken out -/
theorem SRep.out : ∀ {σ : St} {n : Nat} {ρ : DEnv} {f : List Addr} {i : Nat} {a : A}, SRep K mg P Z H n σ ρ f → ρ[i]? = some (some a) →
    ∃ x fa g, σ[i]? = some (some x) ∧ RepA K mg Z H x a fa ∧ (∀ b ∈ fa, P (n + i) b) ∧ SRep K mg P Z H n σ (ρ.set i none) g ∧ ∀ y, g.count y + fa.count y = f.count y
  | [], _, _, _, _, _, h, e => by cases h; simp at e
  | s :: σ, n, _, _, 0, _, h, e => by
    cases h with
    | no h => simp at e
    | @so _ x a0 _ _ f g h1 h2 h3 =>
      simp at e; subst e
      exact ⟨x, f, g, rfl, h1, h2, .no h3, fun y => by rw [List.count_append]; omega⟩
  | s :: σ, n, _, _, i + 1, _, h, e => by
    cases h with
    | no h =>
      obtain ⟨x, fa, g, e1, r, p, r2, e2⟩ := SRep.out (i := i) h (by simpa using e)
      exact ⟨x, fa, g, by simpa using e1, r, (by rw [← Nat.add_assoc, Nat.add_right_comm]; exact p), .no r2, e2⟩
    | @so _ x0 a0 _ _ f0 g0 h1 h2 h3 =>
      obtain ⟨x, fa, g, e1, r, p, r2, e2⟩ := SRep.out (i := i) h3 (by simpa using e)
      refine ⟨x, fa, f0 ++ g, by simpa using e1, r, (by rw [← Nat.add_assoc, Nat.add_right_comm]; exact p), .so h1 h2 r2, fun y => ?_⟩
      have := e2 y
      rw [List.count_append, List.count_append]; omega
/-- a slot is stored -/
theorem SRep.into : ∀ {σ : St} {n : Nat} {ρ : DEnv} {f : List Addr} {i : Nat} {a : A} {x : V} {fa : List Addr}, SRep K mg P Z H n σ ρ f → i < σ.length → RepA K mg Z H x a fa → (∀ b ∈ fa, P (n + i) b) →
    ∃ g, SRep K mg P Z H n (σ.set i (some x)) (ρ.set i (some a)) g ∧ ∀ y, g.count y ≤ f.count y + fa.count y
  | [], _, _, _, _, _, _, _, h, e, _, _ => by simp at e
  | s :: σ, n, _, _, 0, a, x, fa, h, e, r, p => by
    cases h with
    | @no _ _ _ _ f h => exact ⟨_, .so r p h, fun y => by rw [List.count_append]; omega⟩
    | @so _ x0 a0 _ _ f g h1 h2 h3 => exact ⟨fa ++ g, .so r p h3, fun y => by rw [List.count_append, List.count_append]; omega⟩
  | s :: σ, n, _, _, i + 1, a, x, fa, h, e, r, p => by
    have p' : ∀ b ∈ fa, P (n + 1 + i) b := by rw [Nat.add_right_comm, Nat.add_assoc]; exact p
    cases h with
    | no h =>
      obtain ⟨g, r2, e2⟩ := SRep.into (i := i) h (by simpa using e) r p'
      exact ⟨g, .no r2, e2⟩
    | @so _ x0 a0 _ _ f0 g0 h1 h2 h3 =>
      obtain ⟨g, r2, e2⟩ := SRep.into (i := i) h3 (by simpa using e) r p'
      refine ⟨f0 ++ g, .so h1 h2 r2, fun y => ?_⟩
      have := e2 y
      rw [List.count_append, List.count_append]; omega
theorem set_same {α : Type} : ∀ {l : List α} {i : Nat} {x : α}, l[i]? = some x → l.set i x = l
  | [], _, _, e => by simp at e
  | a :: l, 0, x, e => by simp at e; subst e; rfl
  | a :: l, i + 1, x, e => by rw [List.set_cons_succ, set_same (by simpa using e)]
/-- a slot is forgotten -/
theorem SRep.drop1 : ∀ {σ : St} {n : Nat} {ρ : DEnv} {f : List Addr} (i : Nat), SRep K mg P Z H n σ ρ f → ∃ g, SRep K mg P Z H n σ (ρ.set i none) g ∧ ∀ y, g.count y ≤ f.count y
  | [], _, _, _, _, h => by cases h; exact ⟨[], by simpa using .nil, fun _ => Nat.le_refl _⟩
  | s :: σ, n, _, _, 0, h => by
    cases h with
    | @no _ _ _ _ f h => exact ⟨_, .no h, fun _ => Nat.le_refl _⟩
    | @so _ x0 a0 _ _ f g h1 h2 h3 => exact ⟨g, .no h3, fun y => by rw [List.count_append]; omega⟩
  | s :: σ, n, _, _, i + 1, h => by
    cases h with
    | no h =>
      obtain ⟨g, r2, e2⟩ := SRep.drop1 i h
      exact ⟨g, .no r2, e2⟩
    | @so _ x0 a0 _ _ f0 g0 h1 h2 h3 =>
      obtain ⟨g, r2, e2⟩ := SRep.drop1 i h3
      refine ⟨f0 ++ g, .so h1 h2 r2, fun y => ?_⟩
      have := e2 y
      rw [List.count_append, List.count_append]; omega
/-- the slots' values forgotten by place: σ too -/
theorem SRep.wipe1 : ∀ {σ : St} {n : Nat} {ρ : DEnv} {f : List Addr} (i : Nat) (s : Option V), SRep K mg P Z H n σ ρ f → ∃ g, SRep K mg P Z H n (σ.set i s) (ρ.set i none) g ∧ ∀ y, g.count y ≤ f.count y
  | [], _, _, _, _, _, h => by cases h; exact ⟨[], by simpa using .nil, fun _ => Nat.le_refl _⟩
  | s :: σ, n, _, _, 0, _, h => by
    cases h with
    | @no _ _ _ _ f h => exact ⟨_, .no h, fun _ => Nat.le_refl _⟩
    | @so _ x0 a0 _ _ f g h1 h2 h3 => exact ⟨g, .no h3, fun y => by rw [List.count_append]; omega⟩
  | s :: σ, n, _, _, i + 1, s', h => by
    cases h with
    | no h =>
      obtain ⟨g, r2, e2⟩ := SRep.wipe1 i s' h
      exact ⟨g, .no r2, e2⟩
    | @so _ x0 a0 _ _ f0 g0 h1 h2 h3 =>
      obtain ⟨g, r2, e2⟩ := SRep.wipe1 i s' h3
      refine ⟨f0 ++ g, .so h1 h2 r2, fun y => ?_⟩
      have := e2 y
      rw [List.count_append, List.count_append]; omega
end

/-- what stood at the entry: the frozen part, the heap, the addresses lent by the caller, how many parameters -/
structure Base where
  Z : Hp
  H : Hp
  fp : Nat → Addr → Prop
  pn : List Nat
  σ0 : St
  kn : List (Nat × V) := []
/-- the defs that make lambdas -/
class LamN where
  names : List Str
/-- their tables of code objects, each with the name that its code objects bear -/
def tabT [LamN] (K : PySem.W.Frag) : List (Addr × Str) := LamN.names.filterMap fun x => (PySem.W.tabIn K x).map fun q => (q.2, x ++ ".<locals>." ++ "<lambda>")
/-- nothing stands there, but perhaps a table -/
def Fre (H : Hp) (a : Addr) : Prop := ∀ o, H a = some o → ∃ ps, o = .tbl ps
theorem Fre.of {H : Hp} {a : Addr} (h : H a = none) : Fre H a := fun o e => by rw [h] at e; cases e
theorem Fre.no {H : Hp} {a : Addr} {o : HO} (e : H a = some o) (n : ∀ ps, o ≠ .tbl ps) : ¬ Fre H a := fun f => by
  obtain ⟨ps, q⟩ := f o e
  exact n ps q
theorem Fre.ext {H H' : Hp} {a : Addr} (x : LamX.ExtN H H') (f : Fre H' a) : Fre H a := fun o e => by
  refine Classical.byContradiction fun n => ?_
  obtain ⟨ps, q⟩ := f o (x a o e fun ps z => n ⟨ps, z⟩)
  exact n ⟨ps, q⟩
theorem Mut.nt {o : HO} (m : Mut o) : ∀ ps, o ≠ .tbl ps := fun ps z => by
  rcases m with ⟨_, e⟩ | ⟨_, _, _, e⟩ | ⟨_, e⟩ <;> rw [e] at z <;> cases z
theorem tabs_upd {T : List (Addr × Str)} {H : Hp} {p : Addr} {o o' : HO} (t : LamX.Tabs T H) (e : H p = some o) (m : Mut o) : LamX.Tabs T (upd H p o') := fun q hq => by
  obtain ⟨ps, h1, h2, h3⟩ := t q hq
  refine ⟨ps, ?_, h2, fun pos cv hc => ?_⟩
  · rw [upd_ne (fun z => by rw [z, e] at h1; exact m.nt ps (Option.some.inj h1))]; exact h1
  · obtain ⟨c, e1, e2⟩ := h3 pos cv hc
    refine ⟨c, e1, ?_⟩
    rw [upd_ne (fun z => by
      rw [z, e] at e2
      have q := Option.some.inj e2
      unfold LamX.CodeO at q
      rcases m with ⟨_, e'⟩ | ⟨_, _, _, e'⟩ | ⟨_, e'⟩ <;> rw [e'] at q <;> cases q)]
    exact e2
theorem tabs_new {T : List (Addr × Str)} {H : Hp} {p : Addr} {o : HO} (t : LamX.Tabs T H) (e : H p = none) : LamX.Tabs T (upd H p o) :=
  t.ext fun b o' h => by rw [upd_ne (ne_of_none h e)]; exact h
/-- an address of the i-th slot: lent, or made since the entry -/
def Base.Own (b : Base) (i : Nat) (a : Addr) : Prop := b.fp i a ∨ Fre b.H a
/-- the tables, the known slots -/
structure Sid [LamN] (K : PySem.W.Frag) (b : Base) (Z H : Hp) : Prop where
  tabs : LamX.Tabs (tabT K) H
  nt : ∀ a ps, Z a ≠ some (.tbl ps)
  kn : ∀ p ∈ b.kn, p.1 ∈ b.pn ∧ b.σ0[p.1]? = some (some p.2)
variable [LamN]
structure Sta (K : PySem.W.Frag) (mg : Str → Option Value) (b : Base) (Z H : Hp) (σ : St) (ρ : DEnv) (vs : List V) (as : List A) : Prop where
  zz : Same b.Z Z
  zh : Same Z H
  kz : ∀ a, ¬ Fre b.H a → Z a = b.Z a
  kh : ∀ a o, b.H a = some o → (∀ i, ¬ b.fp i a) → (∀ ps, o ≠ .tbl ps) → H a = some o
  kd : ∀ a, Fre H a → Fre b.H a
  sd : Sid K b Z H
  pin : ∀ i ∈ b.pn, σ[i]? = b.σ0[i]?
  lw : ∀ i a, b.fp i a → i ∈ b.pn
  rep : ∃ f g, SRep K mg b.Own Z H 0 σ ρ f ∧ RepAs K mg Z H vs as g ∧ (∀ y, f.count y + g.count y ≤ 1) ∧ (∀ a, a ∈ f ∨ a ∈ g → Z a = none) ∧ ∀ a ∈ g, Fre b.H a
section
variable {K : PySem.W.Frag} {mg : Str → Option Value} {b : Base} {Z Z' H H' : Hp} {σ : St} {ρ : DEnv} {vs : List V} {as : List A} {x y : V} {a c : A} {d : D} {i : Nat}
theorem mem_count {f : List Addr} {y : Addr} (h : y ∈ f) : 0 < f.count y := List.count_pos_iff.mpr h
theorem count_mem {f : List Addr} {y : Addr} (h : 0 < f.count y) : y ∈ f := List.count_pos_iff.mp h
theorem Sta.len (S : Sta K mg b Z H σ ρ vs as) : σ.length = ρ.length := let ⟨_, _, h, _⟩ := S.rep; h.length
theorem Sta.push (S : Sta K mg b Z H σ ρ vs as) (r : RepD K mg Z x d) : Sta K mg b Z H σ ρ (x :: vs) (.v d :: as) := by
  obtain ⟨f, g, h1, h2, h3⟩ := S.rep
  exact ⟨S.zz, S.zh, S.kz, S.kh, S.kd, S.sd, S.pin, S.lw, f, [] ++ g, h1, .cons (.v r) h2, h3⟩
theorem Sta.pop (S : Sta K mg b Z H σ ρ (x :: vs) (a :: as)) : Sta K mg b Z H σ ρ vs as := by
  obtain ⟨f, g, h1, h2, h3, h4, h5⟩ := S.rep
  cases h2 with
  | @cons _ _ _ _ f0 g0 r1 r2 =>
    refine ⟨S.zz, S.zh, S.kz, S.kh, S.kd, S.sd, S.pin, S.lw, f, g0, h1, r2, fun y => ?_, fun a ha => h4 a ?_, fun a ha => h5 a (List.mem_append_right _ ha)⟩
    · have := h3 y; rw [List.count_append] at this; omega
    · exact ha.imp id fun z => List.mem_append_right _ z
theorem Sta.top (S : Sta K mg b Z H σ ρ (x :: vs) (.v d :: as)) : RepD K mg Z x d := by
  obtain ⟨f, g, h1, h2, _⟩ := S.rep
  cases h2 with
  | cons r1 r2 => cases r1 with
    | v r => exact r
theorem Sta.top2 (S : Sta K mg b Z H σ ρ (y :: x :: vs) (a :: .v d :: as)) : RepD K mg Z x d := S.pop.top
/-- the frozen part grows by new addresses, the heap by the same or more -/
theorem Sta.grow (S : Sta K mg b Z H σ ρ vs as) (z : Same Z Z') (zh : Same Z' H') (hh : LamX.ExtN H H') (tb : LamX.Tabs (tabT K) H') (nt : ∀ a ps, Z' a ≠ some (.tbl ps)) (nz : ∀ a, ¬ Fre H a → Z' a = Z a) : Sta K mg b Z' H' σ ρ vs as := by
  obtain ⟨f, g, h1, h2, h3, h4, h5⟩ := S.rep
  have kf : ∀ y ∈ f, H' y = H y := fun y hy => by
    obtain ⟨o, e, m⟩ := h1.thereM y hy
    rw [e, hh _ _ e m.nt]
  have kg : ∀ y ∈ g, H' y = H y := fun y hy => by
    obtain ⟨o, e, m⟩ := RepAs.thereM _ _ _ h2 y hy
    rw [e, hh _ _ e m.nt]
  refine ⟨S.zz.trans z, zh, fun a ha => (nz a fun q => ha (S.kd a q)).trans (S.kz a ha), fun a o e ha n => hh _ _ (S.kh a o e ha n) n, fun a ha => S.kd a (ha.ext hh), ⟨tb, nt, S.sd.kn⟩, S.pin, S.lw, f, g, h1.mono z kf (fun _ _ _ p => p), RepAs.mono z _ _ _ kg h2, h3, fun a ha => ?_, h5⟩
  rw [nz a ?_]
  · exact h4 a ha
  · rcases ha with ha | ha
    · obtain ⟨o, e, m⟩ := h1.thereM a ha; exact Fre.no e m.nt
    · obtain ⟨o, e, m⟩ := RepAs.thereM _ _ _ h2 a ha; exact Fre.no e m.nt
theorem Sta.bnone (S : Sta K mg b Z H σ ρ vs as) {p : Addr} (hp : H p = none) : Fre b.H p := S.kd p (Fre.of hp)
end
end DD

namespace DD
open PySem PySem.Spec L2
open PyProof.Rows hiding St
variable [LamN]
section
variable {K : PySem.W.Frag} {mg : Str → Option Value} {b : Base} {Z Z' H H' : Hp} {σ : St} {ρ : DEnv} {vs ws : List V} {as l : List A} {x y : V} {a c : A} {d : D} {i : Nat} {p : Addr} {o : HO}
theorem same_upd (hp : H p = none) : Same H (upd H p o) := fun q u e => by rw [upd_ne (ne_of_none e hp)]; exact e
/-- a new frozen object -/
theorem Sta.newF (S : Sta K mg b Z H σ ρ vs as) (hp : H p = none) (r : RepD K mg (upd Z p o) (.ref p) d) (hn : ∀ ps, o ≠ .tbl ps := by intro _ z; cases z) : Sta K mg b (upd Z p o) (upd H p o) σ ρ (.ref p :: vs) (.v d :: as) := by
  have zp : Z p = none := S.zh.free hp
  refine Sta.push (S.grow (same_upd zp) ?_ (LamX.ExtN.of (same_upd hp)) (tabs_new S.sd.tabs hp) (fun q ps e => ?_) (fun q hq => upd_ne fun e => hq (e ▸ Fre.of hp))) r
  rotate_left
  · by_cases h : q = p
    · subst h; rw [upd_same] at e; exact hn ps (Option.some.inj e)
    · rw [upd_ne h] at e; exact S.sd.nt q ps e
  intro q u e
  by_cases h : q = p
  · subst h; rw [upd_same] at e ⊢; exact e
  · rw [upd_ne h] at e ⊢; exact S.zh _ _ e
theorem RepAs.split : ∀ {ws vs : List V} {l as : List A} {g : List Addr}, ws.length = l.length → RepAs K mg Z H (ws ++ vs) (l ++ as) g → ∃ f1 f2, g = f1 ++ f2 ∧ RepAs K mg Z H ws l f1 ∧ RepAs K mg Z H vs as f2
  | [], _, [], _, g, _, h => ⟨[], g, rfl, .nil, h⟩
  | [], _, _ :: _, _, _, e, _ => by simp at e
  | _ :: _, _, [], _, _, e, _ => by simp at e
  | w :: ws, vs, a :: l, as, _, e, h => by
    cases h with
    | @cons _ _ _ _ f g h1 h2 =>
      obtain ⟨f1, f2, e1, r1, r2⟩ := RepAs.split (by simpa using e) h2
      exact ⟨f ++ f1, f2, by rw [e1, List.append_assoc], .cons h1 r1, r2⟩
/-- a new list of one's own, of pending values -/
theorem Sta.newM (S : Sta K mg b Z H σ ρ (ws ++ vs) (l ++ as)) (hl : ws.length = l.length) (hp : H p = none) : Sta K mg b Z (upd H p (.lst ws)) σ ρ (.ref p :: vs) (.m l :: as) := by
  obtain ⟨f, g, h1, h2, h3, h4, h5⟩ := S.rep
  obtain ⟨g1, g2, e, r1, r2⟩ := h2.split hl
  have nf : ∀ q ∈ f, q ≠ p := fun q hq e => by
    obtain ⟨o, z⟩ := h1.there q hq
    rw [e, hp] at z; cases z
  have ng : ∀ q ∈ g, q ≠ p := fun q hq e => by
    obtain ⟨o, z⟩ := RepAs.there _ _ _ h2 q hq
    rw [e, hp] at z; cases z
  have zp : Z p = none := S.zh.free hp
  subst e
  refine ⟨S.zz, S.zh.trans (same_upd hp), S.kz, fun q o e hq n => same_upd hp _ _ (S.kh q o e hq n), fun q hq => S.kd q (hq.ext (LamX.ExtN.of (same_upd hp))), ⟨tabs_new S.sd.tabs hp, S.sd.nt, S.sd.kn⟩, S.pin, S.lw, f, (p :: g1) ++ g2,
    h1.mono (Same.refl Z) (fun q hq => upd_ne (nf q hq)) (fun _ _ _ z => z), .cons (.m upd_same (RepAs.mono (Same.refl Z) _ _ _ (fun q hq => upd_ne (ng q (List.mem_append_left _ hq))) r1)) (RepAs.mono (Same.refl Z) _ _ _ (fun q hq => upd_ne (ng q (List.mem_append_right _ hq))) r2), fun y => ?_, fun q hq => ?_, fun q hq => ?_⟩
  · have := h3 y
    rw [List.count_append] at this ⊢
    by_cases e : y = p
    · have c1 : f.count y = 0 := List.count_eq_zero.mpr fun z => nf y z e
      have c2 : g1.count y = 0 := List.count_eq_zero.mpr fun z => ng y (List.mem_append_left _ z) e
      have c3 : g2.count y = 0 := List.count_eq_zero.mpr fun z => ng y (List.mem_append_right _ z) e
      have c4 := List.count_cons (a := y) (b := p) (l := g1)
      split at c4 <;> omega
    · rw [List.count_cons_of_ne (fun z => e z.symm)]
      omega
  · rcases hq with hq | hq
    · exact h4 q (.inl hq)
    · rcases List.mem_append.mp hq with hq | hq
      · rcases List.mem_cons.mp hq with e | hq
        · exact e ▸ zp
        · exact h4 q (.inr (List.mem_append_left _ hq))
      · exact h4 q (.inr (List.mem_append_right _ hq))
  · rcases List.mem_append.mp hq with hq | hq
    · rcases List.mem_cons.mp hq with e | hq
      · exact e ▸ S.bnone hp
      · exact h5 q (List.mem_append_left _ hq)
    · exact h5 q (List.mem_append_right _ hq)
/-- the top is frozen -/
theorem Sta.freeze (S : Sta K mg b Z H σ ρ (x :: vs) (a :: as)) : ∃ Z', Same Z Z' ∧ Sta K mg b Z' H σ ρ (x :: vs) (.v a.frz :: as) := by
  obtain ⟨f, g, h1, h2, h3, h4, h5⟩ := S.rep
  cases h2 with
  | @cons _ _ _ _ fa g0 r1 r2 =>
    have zs : Same Z (fun q => if q ∈ fa then H q else Z q) := fun q o e => by
      by_cases hq : q ∈ fa
      · rw [h4 q (.inr (List.mem_append_left _ hq))] at e; cases e
      · show (if q ∈ fa then H q else Z q) = some o
        rw [if_neg hq]; exact e
    refine ⟨fun q => if q ∈ fa then H q else Z q, zs, S.zz.trans zs, fun q o e => ?_, fun q hq => ?_, S.kh, S.kd, ⟨S.sd.tabs, fun q ps e => ?_, S.sd.kn⟩, S.pin, S.lw, f, [] ++ g0, h1.mono zs (fun _ _ => rfl) (fun _ _ _ z => z), .cons (.v (RepA.freeze zs _ _ _ (fun q hq => if_pos hq) r1)) (RepAs.mono zs _ _ _ (fun _ _ => rfl) r2), fun y => ?_, fun q hq => ?_, fun q hq => h5 q (List.mem_append_right _ hq)⟩
    · have e : (if q ∈ fa then H q else Z q) = some o := e
      split at e
      · exact e
      · exact S.zh _ _ e
    · show (if q ∈ fa then H q else Z q) = b.Z q
      rw [if_neg fun z => hq (h5 q (List.mem_append_left _ z))]
      exact S.kz q hq
    · have e : (if q ∈ fa then H q else Z q) = some (.tbl ps) := e
      split at e
      · rename_i hq
        obtain ⟨o, e', m⟩ := RepA.thereM _ _ _ r1 q hq
        rw [e'] at e
        exact m.nt ps (Option.some.inj e)
      · exact S.sd.nt q ps e
    · have := h3 y; rw [List.count_append] at this; rw [List.nil_append]; omega
    · show (if q ∈ fa then H q else Z q) = none
      have nq : q ∉ fa := fun z => by
        have c := h3 q
        rw [List.count_append] at c
        have c1 := mem_count z
        rcases hq with hq | hq
        · have := mem_count hq; omega
        · have := mem_count (f := g0) hq; omega
      rw [if_neg nq]
      exact h4 q (hq.imp id fun z => List.mem_append_right _ z)
/-- a slot that is frozen data is read -/
theorem SRep.get {P : Nat → Addr → Prop} : ∀ {σ : St} {n : Nat} {ρ : DEnv} {f : List Addr} {i : Nat} {d : D}, SRep K mg P Z H n σ ρ f → ρ[i]? = some (some (.v d)) → ∃ x, σ[i]? = some (some x) ∧ RepD K mg Z x d
  | [], _, _, _, _, _, h, e => by cases h; simp at e
  | s :: σ, n, _, _, 0, _, h, e => by
    cases h with
    | no h => simp at e
    | so h1 h2 h3 =>
      simp at e; subst e
      cases h1 with
      | v r => exact ⟨_, rfl, r⟩
  | s :: σ, n, _, _, i + 1, _, h, e => by
    cases h with
    | no h =>
      obtain ⟨x, e1, r⟩ := SRep.get (i := i) h (by simpa using e)
      exact ⟨x, by simpa using e1, r⟩
    | so h1 h2 h3 =>
      obtain ⟨x, e1, r⟩ := SRep.get (i := i) h3 (by simpa using e)
      exact ⟨x, by simpa using e1, r⟩
theorem Sta.slot (S : Sta K mg b Z H σ ρ vs as) (e : ρ[i]? = some (some (.v d))) : ∃ x, σ[i]? = some (some x) ∧ RepD K mg Z x d := by
  obtain ⟨f, g, h1, _⟩ := S.rep
  exact h1.get e
/-- the top goes to a slot -/
theorem Sta.store (S : Sta K mg b Z H σ ρ (x :: vs) (a :: as)) (hi : i < ρ.length) (hn : i ∉ b.pn) : Sta K mg b Z H (σ.set i (some x)) (ρ.set i (some a)) vs as := by
  obtain ⟨f, g, h1, h2, h3, h4, h5⟩ := S.rep
  cases h2 with
  | @cons _ _ _ _ fa g0 r1 r2 =>
    obtain ⟨f', h6, h7⟩ := h1.into (i := i) (by rw [S.len]; exact hi) r1 (fun q hq => .inr (h5 q (List.mem_append_left _ hq)))
    refine ⟨S.zz, S.zh, S.kz, S.kh, S.kd, S.sd, fun j hj => by rw [List.getElem?_set_ne (show i ≠ j from fun e => hn (by rw [e]; exact hj))]; exact S.pin j hj, S.lw, f', g0, h6, r2, fun y => ?_, fun q hq => ?_, fun q hq => h5 q (List.mem_append_right _ hq)⟩
    · have := h3 y; have := h7 y; rw [List.count_append] at *; omega
    · rcases hq with hq | hq
      · have c := mem_count hq
        have c2 := h7 q
        have : 0 < f.count q ∨ 0 < fa.count q := by omega
        rcases this with z | z
        · exact h4 q (.inl (count_mem z))
        · exact h4 q (.inr (List.mem_append_left _ (count_mem z)))
      · exact h4 q (.inr (List.mem_append_right _ hq))
/-- a slot is forgotten, whatever it holds then -/
theorem Sta.wipe1 (S : Sta K mg b Z H σ ρ vs as) (i : Nat) (s : Option V) (hn : i ∉ b.pn) : Sta K mg b Z H (σ.set i s) (ρ.set i none) vs as := by
  obtain ⟨f, g, h1, h2, h3, h4, h5⟩ := S.rep
  obtain ⟨f', h6, h7⟩ := h1.wipe1 i s
  refine ⟨S.zz, S.zh, S.kz, S.kh, S.kd, S.sd, fun j hj => by rw [List.getElem?_set_ne (show i ≠ j from fun e => hn (by rw [e]; exact hj))]; exact S.pin j hj, S.lw, f', g, h6, h2, fun y => ?_, fun q hq => ?_, h5⟩
  · have := h3 y; have := h7 y; omega
  · rcases hq with hq | hq
    · have c := mem_count hq
      have c2 := h7 q
      exact h4 q (.inl (count_mem (by omega)))
    · exact h4 q (.inr hq)
theorem Sta.drop1 (S : Sta K mg b Z H σ ρ vs as) (i : Nat) : Sta K mg b Z H σ (ρ.set i none) vs as := by
  obtain ⟨f, g, h1, h2, h3, h4, h5⟩ := S.rep
  obtain ⟨f', h6, h7⟩ := h1.drop1 i
  refine ⟨S.zz, S.zh, S.kz, S.kh, S.kd, S.sd, S.pin, S.lw, f', g, h6, h2, fun y => ?_, fun q hq => ?_, h5⟩
  · have := h3 y; have := h7 y; omega
  · rcases hq with hq | hq
    · have c := mem_count hq
      have c2 := h7 q
      exact h4 q (.inl (count_mem (by omega)))
    · exact h4 q (.inr hq)
/-- pending values dropped -/
theorem Sta.pops : ∀ {ws : List V} {l : List A}, Sta K mg b Z H σ ρ (ws ++ vs) (l ++ as) → ws.length = l.length → Sta K mg b Z H σ ρ vs as
  | [], [], S, _ => S
  | [], _ :: _, _, e => by simp at e
  | _ :: _, [], _, e => by simp at e
  | _ :: ws, _ :: l, S, e => Sta.pops (ws := ws) (l := l) S.pop (by simpa using e)
/-- the pending values put in another order: what stands below ws comes ahead -/
theorem Sta.rot (S : Sta K mg b Z H σ ρ (ws ++ x :: vs) (l ++ a :: as)) (hl : ws.length = l.length) : Sta K mg b Z H σ ρ (x :: (ws ++ vs)) (a :: (l ++ as)) := by
  obtain ⟨f, g, h1, h2, h3, h4, h5⟩ := S.rep
  obtain ⟨g1, g2, e, r1, r2⟩ := h2.split hl
  cases r2 with
  | @cons _ _ _ _ fa g0 r3 r4 =>
    subst e
    have m : ∀ q, q ∈ fa ++ (g1 ++ g0) → q ∈ g1 ++ (fa ++ g0) := fun q hq => by
      simp only [List.mem_append] at hq ⊢
      rcases hq with h | h | h
      · exact .inr (.inl h)
      · exact .inl h
      · exact .inr (.inr h)
    refine ⟨S.zz, S.zh, S.kz, S.kh, S.kd, S.sd, S.pin, S.lw, f, fa ++ (g1 ++ g0), h1, .cons r3 (r1.append r4), fun y => ?_, fun q hq => h4 q (hq.imp id (m q)), fun q hq => h5 q (m q hq)⟩
    have := h3 y
    simp only [List.count_append] at this ⊢
    omega
/-- .. and back -/
theorem Sta.unrot (S : Sta K mg b Z H σ ρ (x :: (ws ++ vs)) (a :: (l ++ as))) (hl : ws.length = l.length) : Sta K mg b Z H σ ρ (ws ++ x :: vs) (l ++ a :: as) := by
  obtain ⟨f, g, h1, h2, h3, h4, h5⟩ := S.rep
  cases h2 with
  | @cons _ _ _ _ fa g' r3 r4 =>
    obtain ⟨g1, g0, e, r1, r2⟩ := r4.split hl
    subst e
    have m : ∀ q, q ∈ g1 ++ (fa ++ g0) → q ∈ fa ++ (g1 ++ g0) := fun q hq => by
      simp only [List.mem_append] at hq ⊢
      rcases hq with h | h | h
      · exact .inr (.inl h)
      · exact .inl h
      · exact .inr (.inr h)
    refine ⟨S.zz, S.zh, S.kz, S.kh, S.kd, S.sd, S.pin, S.lw, f, g1 ++ (fa ++ g0), h1, r1.append (.cons r3 r2), fun y => ?_, fun q hq => h4 q (hq.imp id (m q)), fun q hq => h5 q (m q hq)⟩
    have := h3 y
    simp only [List.count_append] at this ⊢
    omega
/-- several pending values are frozen -/
theorem Sta.freezes : ∀ {ws : List V} {l : List A} {vs : List V} {as : List A} {Z : Hp}, Sta K mg b Z H σ ρ (ws ++ vs) (l ++ as) → ws.length = l.length →
    ∃ Z', Same Z Z' ∧ RepDs K mg Z' ws (frzs l) ∧ Sta K mg b Z' H σ ρ vs as
  | [], [], _, _, _, S, _ => ⟨_, Same.refl _, .nil, S⟩
  | [], _ :: _, _, _, _, _, e => by simp at e
  | _ :: _, [], _, _, _, _, e => by simp at e
  | w :: ws, a :: l, vs, as, Z, S, e => by
    obtain ⟨Z1, z1, S1⟩ := Sta.freeze (vs := ws ++ vs) (as := l ++ as) S
    obtain ⟨Z2, z2, r2, S2⟩ := Sta.freezes (ws := ws) (l := l) S1.pop (by simpa using e)
    exact ⟨Z2, z1.trans z2, .cons (RepD.mono z2 _ _ S1.top) r2, S2⟩
end
end DD

namespace DD
open PySem PySem.Spec L2
open PyProof.Rows hiding St
variable [LamN]

/-- an exception: its class by name, its own fields -/
structure Ex where
  c : Str
  ks : List Str := []
  ds : List D := []
inductive R (α : Type) where
  | ok (a : α) (ρ : DEnv)
  | exc (e : Ex) (ρ : DEnv)
  | bad
abbrev M (α : Type) := DEnv → R α
def R.bind {α β : Type} (r : R α) (g : α → DEnv → R β) : R β := match r with
  | .ok a ρ => g a ρ
  | .exc e ρ => .exc e ρ
  | .bad => .bad
def M.bind {α β : Type} (f : M α) (g : α → M β) : M β := fun ρ => (f ρ).bind g
def M.pure {α : Type} (a : α) : M α := fun ρ => .ok a ρ
def ofO {α : Type} (o : Option α) : M α := fun ρ => match o with
  | some a => .ok a ρ
  | none => .bad
theorem R.bind_ok {α β : Type} {a : α} {ρ : DEnv} {g : α → DEnv → R β} : (R.ok a ρ).bind g = g a ρ := rfl
def R.sat {α : Type} (r : R α) (p : α → DEnv → Prop) (x : Ex → DEnv → Prop) : Prop := match r with
  | .ok a ρ => p a ρ
  | .exc e ρ => x e ρ
  | .bad => False
theorem R.sat_bind {α β : Type} {r : R α} {g : α → DEnv → R β} {p : β → DEnv → Prop} {x : Ex → DEnv → Prop} (h : (r.bind g).sat p x) : r.sat (fun a ρ => (g a ρ).sat p x) x := by
  cases r with
  | ok a ρ => exact h
  | exc e ρ => exact h
  | bad => exact h
theorem R.sat_mono {α : Type} {r : R α} {p q : α → DEnv → Prop} {x y : Ex → DEnv → Prop} (h : r.sat p x) (hp : ∀ a ρ, p a ρ → q a ρ) (hx : ∀ e ρ, x e ρ → y e ρ) : r.sat q y := by
  cases r with
  | ok a ρ => exact hp _ _ h
  | exc e ρ => exact hx _ _ h
  | bad => exact h

/-- what stays through a def's body: the written part, the module's names, the wish of exceptions, the lent parameters -/
structure SC where
  K : PySem.W.Frag
  mg : Str → Option Value
  W : WX
  pn : List Nat
  kn : List (Nat × V) := []
/-- the entry is of this kind -/
structure SC.Of (C : SC) (b : Base) : Prop where
  pn : b.pn = C.pn
  kn : b.kn = C.kn
def ClsIs (mg : Str → Option Value) (c : Str) (cls : Value) : Prop := mg c = some cls ∨ (mg c = none ∧ bootBuiltins c = some cls)
structure ExR (K : PySem.W.Frag) (mg : Str → Option Value) (Z : Hp) (cls : Value) (d : Option Addr) (e : Ex) : Prop where
  cls : ClsIs mg e.c cls
  own : (e.ks = [] ∧ e.ds = [] ∧ d = none) ∨ ∃ dx ws, ws ≠ [] ∧ d = some dx ∧ Z dx = some (.xd ws) ∧ e.ks = ws.map (·.1) ∧ RepDs K mg Z (ws.map (·.2)) e.ds
def XPost (C : SC) (b : Base) (vs : List V) (as : List A) (e : Ex) (ρ : DEnv) : Prop :=
  ∀ Z' H' σ' cls d, Sta C.K C.mg b Z' H' σ' ρ vs as → ExR C.K C.mg Z' cls d e → C.W cls d σ' H'
abbrev Fin (α : Type) := Base → List V → List A → α → DEnv → Prop
/-- from the state with the pending values ps on top of any others: g runs to what fin wants -/
def Go {α : Type} (C : SC) (fin : Fin α) (ps : List V) (pa : List A) (g : M α) (σ : St) (H : Hp) : Prop :=
  ∃ b Z ρ vs as, C.Of b ∧ ps.length = pa.length ∧ Sta C.K C.mg b Z H σ ρ (ps ++ vs) (pa ++ as) ∧ (g ρ).sat (fin b vs as) (XPost C b vs as)
def finE (C : SC) (σ : St) (Q : VK) : Fin A := fun b vs as a ρ => ∀ Z' H' v, Sta C.K C.mg b Z' H' σ ρ (v :: vs) (a :: as) → Q v H'
def finT (C : SC) (σ : St) (Q : Bool → Hp → Prop) : Fin Bool := fun b vs as c ρ => ∀ Z' H', Sta C.K C.mg b Z' H' σ ρ vs as → Q c H'
def finA (C : SC) (σ : St) (Q : List V → Hp → Prop) : Fin (List A) := fun b vs as l ρ => ∀ Z' H' ws, ws.length = l.length → Sta C.K C.mg b Z' H' σ ρ (ws ++ vs) (l ++ as) → Q ws H'
def tE (C : SC) (f : M A) : TE := fun σ H Q => Go C (finE C σ Q) [] [] f σ H
def tT (C : SC) (f : M Bool) : TT := fun σ H Q => Go C (finT C σ Q) [] [] f σ H
def tA (C : SC) (f : M (List A)) : TA := fun σ H Q => Go C (finA C σ Q) [] [] f σ H
inductive Flow where
  | nx
  | ret (a : A)
  | bk
  | ct
def finS (C : SC) (D : Ends) : Fin Flow := fun b vs as fl ρ => match fl with
  | .nx => ∀ Z' H' σ', Sta C.K C.mg b Z' H' σ' ρ vs as → D.nx σ' H'
  | .ret a => ∀ Z' H' σ' v, Sta C.K C.mg b Z' H' σ' ρ (v :: vs) (a :: as) → D.rt v H'
  | .bk => ∀ Z' H' σ', Sta C.K C.mg b Z' H' σ' ρ vs as → D.bk σ' H'
  | .ct => ∀ Z' H' σ', Sta C.K C.mg b Z' H' σ' ρ vs as → D.ct σ' H'
def tS (C : SC) (F : M Flow) : TS := fun D σ H => Go C (finS C D) [] [] F σ H

section
variable {α β : Type} {C : SC} {fin : Fin α} {ps : List V} {pa : List A} {σ : St} {H : Hp}
theorem XPost.pops {b : Base} {vs : List V} {as : List A} {e : Ex} {ρ : DEnv} (h : XPost C b vs as e ρ) (hl : ps.length = pa.length) : XPost C b (ps ++ vs) (pa ++ as) e ρ :=
  fun Z' H' σ' cls d S x => h Z' H' σ' cls d (S.pops hl) x
/-- an expression comes first -/
theorem Go.bindE {f : M A} {g : A → M α} (h : Go C fin ps pa (f.bind g) σ H) : tE C f σ H (fun x H1 => ∃ a, Go C fin (x :: ps) (a :: pa) (g a) σ H1) := by
  obtain ⟨b, Z, ρ, vs, as, hb, hl, S, h⟩ := h
  refine ⟨b, Z, ρ, ps ++ vs, pa ++ as, hb, rfl, S, R.sat_mono (R.sat_bind h) (fun a ρ' q Z' H' v S' => ?_) fun e ρ' q => q.pops hl⟩
  exact ⟨a, b, Z', ρ', vs, as, hb, by simp [hl], S', q⟩
theorem Go.bindT {f : M Bool} {g : Bool → M α} (h : Go C fin ps pa (f.bind g) σ H) : tT C f σ H (fun c H1 => Go C fin ps pa (g c) σ H1) := by
  obtain ⟨b, Z, ρ, vs, as, hb, hl, S, h⟩ := h
  refine ⟨b, Z, ρ, ps ++ vs, pa ++ as, hb, rfl, S, R.sat_mono (R.sat_bind h) (fun c ρ' q Z' H' S' => ?_) fun e ρ' q => q.pops hl⟩
  exact ⟨b, Z', ρ', vs, as, hb, hl, S', q⟩
theorem Go.bindA {f : M (List A)} {g : List A → M α} (h : Go C fin ps pa (f.bind g) σ H) : tA C f σ H (fun ws H1 => ∃ l, ws.length = l.length ∧ Go C fin (ws ++ ps) (l ++ pa) (g l) σ H1) := by
  obtain ⟨b, Z, ρ, vs, as, hb, hl, S, h⟩ := h
  refine ⟨b, Z, ρ, ps ++ vs, pa ++ as, hb, rfl, S, R.sat_mono (R.sat_bind h) (fun l ρ' q Z' H' ws e S' => ?_) fun e ρ' q => q.pops hl⟩
  exact ⟨l, e, b, Z', ρ', vs, as, hb, by simp [hl, e], by rw [List.append_assoc, List.append_assoc]; exact S', q⟩
theorem tE.mono {f : M A} {Q Q' : VK} (h : tE C f σ H Q) (k : ∀ v H', Q v H' → Q' v H') : tE C f σ H Q' := by
  obtain ⟨b, Z, ρ, vs, as, hb, hl, S, h⟩ := h
  exact ⟨b, Z, ρ, vs, as, hb, hl, S, R.sat_mono h (fun a ρ' q Z' H' v S' => k _ _ (q Z' H' v S')) fun _ _ q => q⟩
theorem tT.mono {f : M Bool} {Q Q' : Bool → Hp → Prop} (h : tT C f σ H Q) (k : ∀ v H', Q v H' → Q' v H') : tT C f σ H Q' := by
  obtain ⟨b, Z, ρ, vs, as, hb, hl, S, h⟩ := h
  exact ⟨b, Z, ρ, vs, as, hb, hl, S, R.sat_mono h (fun a ρ' q Z' H' S' => k _ _ (q Z' H' S')) fun _ _ q => q⟩
theorem tA.mono {f : M (List A)} {Q Q' : List V → Hp → Prop} (h : tA C f σ H Q) (k : ∀ v H', Q v H' → Q' v H') : tA C f σ H Q' := by
  obtain ⟨b, Z, ρ, vs, as, hb, hl, S, h⟩ := h
  exact ⟨b, Z, ρ, vs, as, hb, hl, S, R.sat_mono h (fun a ρ' q Z' H' ws e S' => k _ _ (q Z' H' ws e S')) fun _ _ q => q⟩
theorem PE.w {X : Cx} {e : Expr} {t t' : TE} (h : PE X e t) (k : ∀ σ H Q, t' σ H Q → t σ H Q) : PE X e t' := ⟨fun pins s σ H Q I hw => h.run pins s σ H Q I (k σ H Q hw)⟩
theorem PT.w {X : Cx} {e : Expr} {t t' : TT} (h : PT X e t) (k : ∀ σ H Q, t' σ H Q → t σ H Q) : PT X e t' := ⟨fun pins s σ H Q I hw => h.run pins s σ H Q I (k σ H Q hw)⟩
theorem PA.w {X : Cx} {e : List Expr} {t t' : TA} (h : PA X e t) (k : ∀ σ H Q, t' σ H Q → t σ H Q) : PA X e t' := ⟨fun pos pins s σ H Q I hw => h.run pos pins s σ H Q I (k σ H Q hw)⟩
theorem PS.w {X : Cx} {e : Stmt} {t t' : TS} (h : PS X e t) (k : ∀ D σ H, t' D σ H → t D σ H) : PS X e t' := ⟨fun pins s σ H D I hw => h.run pins s σ H D I (k D σ H hw)⟩
theorem PSs.w {X : Cx} {e : List Stmt} {t t' : TS} (h : PSs X e t) (k : ∀ D σ H, t' D σ H → t D σ H) : PSs X e t' := ⟨fun pins s σ H D I hw => h.run pins s σ H D I (k D σ H hw)⟩
end

def dVar (i : Nat) : M A := fun ρ => match ρ[i]? with
  | some (some (.v d)) => .ok (.v d) ρ
  | _ => .bad
def dC (d : D) : M A := fun ρ => .ok (.v d) ρ
def dOp2 (op : A → A → Option A) (f g : M A) : M A := f.bind fun a => g.bind fun c => ofO (op a c)
def dOp1 (op : A → Option A) (f : M A) : M A := f.bind fun a => ofO (op a)
def dTest (f : M A) : M Bool := f.bind fun a ρ => match a with
  | .v (.bl c) => .ok c ρ
  | _ => .bad
def dNil : M (List A) := fun ρ => .ok [] ρ
def dCons (f : M A) (g : M (List A)) : M (List A) := f.bind fun a => g.bind fun l ρ => .ok (a :: l) ρ
def dTup (f : M (List A)) : M A := f.bind fun l ρ => if l.length ≤ sizeLine then .ok (.v (.tup (frzs l))) ρ else .bad
def dLst (f : M (List A)) : M A := f.bind fun l ρ => if l.length ≤ sizeLine then .ok (.m l) ρ else .bad
def dIf (c : M Bool) (f g : M A) : M A := c.bind fun k => if k = true then f else g
def dAndT (f g : M Bool) : M Bool := f.bind fun k => if k = true then g else M.pure false
def dOrT (f g : M Bool) : M Bool := f.bind fun k => if k = true then M.pure true else g
def dNotT (f : M Bool) : M Bool := f.bind fun k => M.pure (!k)
def dAndV (f g : M A) : M A := (dTest f).bind fun k => if k = true then g else M.pure (.v (.bl false))
def dNotV (f : M A) : M A := (dTest f).bind fun k => M.pure (.v (.bl (!k)))

/-- a two-place operation on pending values, by what they stand for -/
def Op2 (C : SC) (r : R2) (op : A → A → Option A) : Prop :=
  ∀ (b : Base) (Z H : Hp) (σ : St) (ρ : DEnv) (vs : List V) (as : List A) (x y : V) (a c res : A) (Q : VK), Sta C.K C.mg b Z H σ ρ (y :: x :: vs) (c :: a :: as) → op a c = some res →
    (∀ Z' H' v, Sta C.K C.mg b Z' H' σ ρ (v :: vs) (res :: as) → Q v H') → r x y H Q
def Op1 (C : SC) (r : V → Hp → VK → Prop) (op : A → Option A) : Prop :=
  ∀ (b : Base) (Z H : Hp) (σ : St) (ρ : DEnv) (vs : List V) (as : List A) (x : V) (a res : A) (Q : VK), Sta C.K C.mg b Z H σ ρ (x :: vs) (a :: as) → op a = some res →
    (∀ Z' H' v, Sta C.K C.mg b Z' H' σ ρ (v :: vs) (res :: as) → Q v H') → r x H Q
def OpN (C : SC) (r : List V → Hp → VK → Prop) (op : List A → Option A) : Prop :=
  ∀ (b : Base) (Z H : Hp) (σ : St) (ρ : DEnv) (vs : List V) (as : List A) (ws : List V) (l : List A) (res : A) (Q : VK), ws.length = l.length → Sta C.K C.mg b Z H σ ρ (ws ++ vs) (l ++ as) → op l = some res →
    (∀ Z' H' v, Sta C.K C.mg b Z' H' σ ρ (v :: vs) (res :: as) → Q v H') → r ws H Q

section
variable {X : Cx} {C : SC} {a b c e : Expr} {es : List Expr} {f g h : M A} {fs : M (List A)} {p q r : M Bool} {pos : Pos} {i : Nat}
theorem de_var {x : Str} (hN : X.N[i]? = some x) (hv : Vis X.env.scope x) (hd : (x == ("__debug__" : Str)) = false := by decide) (hcd : (x == ("__classdict__" : Str)) = false := by decide) : PE X (.Name x pos) (tE C (dVar i)) := by
  refine PE.w (pe_var hN hv hd hcd) fun σ H Q ⟨bs, Z, ρ, vs, as, hb, hl, S, k⟩ => ?_
  unfold dVar at k
  split at k
  · rename_i d hd
    obtain ⟨x, e, r⟩ := S.slot hd
    exact ⟨x, e, k _ _ _ (S.push r)⟩
  · exact k.elim
theorem go_pure {σ : St} {H : Hp} {Q : VK} {d : D} {v : V} (k : Go C (finE C σ Q) [] [] (fun ρ => .ok (.v d) ρ) σ H) (r : ∀ Z, RepD C.K C.mg Z v d) : Q v H := by
  obtain ⟨bs, Z, ρ, vs, as, hb, hl, S, k⟩ := k
  exact k _ _ _ (S.push (r Z))
theorem de_int {n : Int} {j} : PE X (.Constant (.int n) j pos) (tE C (dC (.int n))) := PE.w pe_int fun _ _ _ k => go_pure k fun _ => .int n
theorem de_bl {n : Bool} {j} : PE X (.Constant (.bool n) j pos) (tE C (dC (.bl n))) := PE.w pe_bl fun _ _ _ k => go_pure k fun _ => .bl n
theorem de_non {j} : PE X (.Constant .none j pos) (tE C (dC .non)) := PE.w pe_non fun _ _ _ k => go_pure k fun _ => .non
theorem go_ofO {α : Type} {fin : Fin α} {ps : List V} {pa : List A} {o : Option α} {σ : St} {H : Hp} (k : Go C fin ps pa (ofO o) σ H) : ∃ x, o = some x ∧ Go C fin ps pa (M.pure x) σ H := by
  obtain ⟨b, Z, ρ, vs, as, hb, hl, S, k⟩ := k
  unfold ofO at k
  cases o with
  | none => exact k.elim
  | some x => exact ⟨x, rfl, b, Z, ρ, vs, as, hb, hl, S, k⟩
theorem go_op2 {r : R2} {op : A → A → Option A} (ho : Op2 C r op) {x y : V} {u w : A} {σ : St} {H : Hp} {Q : VK} (k : Go C (finE C σ Q) [y, x] [w, u] (ofO (op u w)) σ H) : r x y H Q := by
  obtain ⟨res, e, bs, Z, ρ, vs, as, hb, hl, S, k⟩ := go_ofO k
  exact ho bs Z H σ ρ vs as x y u w res Q S e k
theorem de_op2 {op : Operator} {r : R2} {o : A → A → Option A} (hr : OpR X (binaryOp op) r) (ho : Op2 C r o) (ha : PE X a (tE C f)) (hb : PE X b (tE C g)) : PE X (.BinOp a op b pos) (tE C (dOp2 o f g)) := by
  refine PE.w (pe_op hr ha hb) fun σ H Q k => ?_
  refine (Go.bindE k).mono fun x H1 ⟨u, k1⟩ => (Go.bindE k1).mono fun y H2 ⟨w, k2⟩ => go_op2 ho k2
theorem de_cmp {op : CmpOp} {r : R2} {o : A → A → Option A} (hr : OpR X (compareOp op) r) (ho : Op2 C r o) (ha : PE X a (tE C f)) (hb : PE X b (tE C g)) (hm : behindInMarks op b = false) : PE X (.Compare a [op] [b] pos) (tE C (dOp2 o f g)) := by
  refine PE.w (pe_cmpR hr ha hb hm) fun σ H Q k => ?_
  refine (Go.bindE k).mono fun x H1 ⟨u, k1⟩ => (Go.bindE k1).mono fun y H2 ⟨w, k2⟩ => go_op2 ho k2
/-- a test's reading of a value -/
theorem go_test {σ : St} {H : Hp} {Q : Bool → Hp → Prop} (k : Go C (finT C σ Q) [] [] (dTest f) σ H) : tE C f σ H fun x H' => ∃ d, x = .bl d ∧ Q d H' := by
  refine (Go.bindE k).mono fun x H1 ⟨u, bs, Z, ρ, vs, as, hb, hl, S, k1⟩ => ?_
  split at k1
  · rename_i c
    have t := Sta.top (vs := vs) (as := as) S
    cases t
    exact ⟨c, rfl, k1 _ _ (Sta.pop (vs := vs) (as := as) S)⟩
  · exact k1.elim
theorem dt_cmp {op : CmpOp} {r : R2} {o : A → A → Option A} (hr : OpR X (compareOp op) r) (ho : Op2 C r o) (ha : PE X a (tE C f)) (hb : PE X b (tE C g)) (hm : behindInMarks op b = false) : PT X (.Compare a [op] [b] pos) (tT C (dTest (dOp2 o f g))) := by
  refine PT.w (pt_cmpR hr ha hb hm) fun σ H Q k => ?_
  have k' := go_test k
  refine (Go.bindE k').mono fun x H1 ⟨u, k1⟩ => (Go.bindE k1).mono fun y H2 ⟨w, k2⟩ => go_op2 ho k2
theorem de_un {op : UnaryOp} {r : V → Hp → VK → Prop} {o : A → Option A} (hr : UnR X (unaryOp op) r) (ho : Op1 C r o) (ha : PE X a (tE C f)) : PE X (.UnaryOp op a pos) (tE C (dOp1 o f)) := by
  refine PE.w (pe_un hr ha) fun σ H Q k => ?_
  refine (Go.bindE k).mono fun x H1 ⟨u, k1⟩ => ?_
  obtain ⟨res, e, bs, Z, ρ, vs, as, hb, hl, S, k2⟩ := go_ofO k1
  exact ho bs Z H1 σ ρ vs as x u res Q S e k2
/-- an expression whose value is a bool, as a test -/
theorem dt_val (ha : PE X a (tE C f)) (he : ∀ whole, isTrue a X.env whole = (do let v ← whole; standAt a.pos; holding [v] (truthy v)) := by intro _; rfl) : PT X a (tT C (dTest f)) :=
  PT.w (pt_val ha he) fun σ H Q k => go_test k

theorem da_nil : PA X [] (tA C dNil) := PA.w pa_nil fun σ H Q ⟨b, Z, ρ, vs, as, hb, hl, S, k⟩ => k _ _ [] rfl S
theorem da_cons (ha : PE X e (tE C f)) (hr : PA X es (tA C fs)) (hs : starEach (e :: es) X.env = (false, eval e X.env) :: starEach es X.env := by rfl) : PA X (e :: es) (tA C (dCons f fs)) := by
  refine PA.w (pa_cons ha hr hs) fun σ H Q k => ?_
  refine (Go.bindE k).mono fun x H1 ⟨u, k1⟩ => (Go.bindA k1).mono fun ws H2 ⟨l, hl, b, Z, ρ, vs, as, hb, _, S, k2⟩ => ?_
  exact k2 _ _ (x :: ws) (by simp [hl]) (by
    have S' : Sta C.K C.mg b Z H2 σ ρ (ws ++ x :: vs) (l ++ u :: as) := by simpa using S
    exact S'.rot hl)
theorem de_tup {k0} (h : PA X es (tA C fs)) : PE X (.Tuple es k0 pos) (tE C (dTup fs)) := by
  refine PE.w (pe_tup h) fun σ H Q k => ?_
  refine (Go.bindA k).mono fun ws H1 ⟨l, hl, b, Z, ρ, vs, as, hb, _, S, k1⟩ => ?_
  split at k1
  · rename_i hz
    refine ⟨by rw [hl]; exact hz, fun p hp => ?_⟩
    rw [List.append_nil, List.append_nil] at S
    obtain ⟨Z', _, r, S'⟩ := S.freezes hl
    have zp := S'.zh.free hp
    exact k1 _ _ _ (S'.newF (o := .tup ws) hp (.tup (SqT.of upd_same) (RepDs.mono (same_upd zp) _ _ r)))
  · exact k1.elim
theorem de_lst (h : PA X es (tA C fs)) : PE X (.List es pos) (tE C (dLst fs)) := by
  refine PE.w (pe_lst h) fun σ H Q k => ?_
  refine (Go.bindA k).mono fun ws H1 ⟨l, hl, b, Z, ρ, vs, as, hb, _, S, k1⟩ => ?_
  split at k1
  · rename_i hz
    refine ⟨by rw [hl]; exact hz, fun p hp => ?_⟩
    rw [List.append_nil, List.append_nil] at S
    exact k1 _ _ _ (S.newM hl hp)
  · exact k1.elim

theorem go_mpure {α : Type} {fin : Fin α} {x : α} {σ : St} {H : Hp} (k : Go C fin [] [] (M.pure x) σ H) : ∃ b Z ρ vs as, C.Of b ∧ Sta C.K C.mg b Z H σ ρ vs as ∧ fin b vs as x ρ :=
  let ⟨b, Z, ρ, vs, as, hb, _, S, k⟩ := k
  ⟨b, Z, ρ, vs, as, hb, S, k⟩
theorem go_tpure {σ : St} {H : Hp} {Q : Bool → Hp → Prop} {c : Bool} (k : Go C (finT C σ Q) [] [] (M.pure c) σ H) : Q c H := by
  obtain ⟨b, Z, ρ, vs, as, hb, S, k⟩ := go_mpure k
  exact k _ _ S
theorem go_vpure {σ : St} {H : Hp} {Q : VK} {c : Bool} (k : Go C (finE C σ Q) [] [] (M.pure (.v (.bl c))) σ H) : Q (.bl c) H := by
  obtain ⟨b, Z, ρ, vs, as, hb, S, k⟩ := go_mpure k
  exact k _ _ _ (S.push (.bl c))
variable {rest : List Expr}
theorem dw_and1 (ha : PT X a (tT C p)) : PW X (.BoolOp .And [a] pos) (tT C p) := pw_and1 ha
theorem dw_or1 (ha : PT X a (tT C p)) : PW X (.BoolOp .Or [a] pos) (tT C p) := pw_or1 ha
theorem PW.w {t t' : TT} (h : PW X e t) (k : ∀ σ H Q, t' σ H Q → t σ H Q) : PW X e t' := ⟨fun wh pins s σ H Q I hw => h.run wh pins s σ H Q I (k σ H Q hw)⟩
theorem dw_and (ha : PT X a (tT C p)) (hb : PW X (.BoolOp .And (b :: rest) pos) (tT C q)) : PW X (.BoolOp .And (a :: b :: rest) pos) (tT C (dAndT p q)) := by
  refine PW.w (pw_and ha hb) fun σ H Q k => (Go.bindT k).mono fun c H1 k1 => ?_
  cases c with
  | true => exact k1
  | false => exact go_tpure k1
theorem dw_or (ha : PT X a (tT C p)) (hb : PW X (.BoolOp .Or (b :: rest) pos) (tT C q)) : PW X (.BoolOp .Or (a :: b :: rest) pos) (tT C (dOrT p q)) := by
  refine PW.w (pw_or ha hb) fun σ H Q k => (Go.bindT k).mono fun c H1 k1 => ?_
  cases c with
  | true => exact go_tpure k1
  | false => exact k1
theorem dt_not (ha : PT X a (tT C p)) : PT X (.UnaryOp .Not a pos) (tT C (dNotT p)) := by
  refine PT.w (pt_not ha) fun σ H Q k => (Go.bindT k).mono fun c H1 k1 => go_tpure k1
theorem de_and (ha : PE X a (tE C f)) (hb : PE X (.BoolOp .And (b :: rest) pos) (tE C g)) : PE X (.BoolOp .And (a :: b :: rest) pos) (tE C (dAndV f g)) := by
  refine PE.w (pe_and ha hb) fun σ H Q k => (go_test (Go.bindT k)).mono fun x H1 ⟨c, e, k1⟩ => ⟨c, e, ?_⟩
  cases c with
  | true => exact k1
  | false => exact go_vpure k1
theorem de_one {op} (ha : PE X a (tE C f)) : PE X (.BoolOp op [a] pos) (tE C f) := pe_one ha
theorem de_not (ha : PE X a (tE C f)) : PE X (.UnaryOp .Not a pos) (tE C (dNotV f)) := by
  refine PE.w (pe_not ha) fun σ H Q k => (go_test (Go.bindT k)).mono fun x H1 ⟨c, e, k1⟩ => ⟨c, e, go_vpure k1⟩
theorem de_if (hc : PT X c (tT C p)) (ha : PE X a (tE C f)) (hb : PE X b (tE C g)) : PE X (.IfExp c a b pos) (tE C (dIf p f g)) := by
  refine PE.w (pe_ifExp hc ha hb) fun σ H Q k => (Go.bindT k).mono fun d H1 k1 => ?_
  cases d with
  | true => exact k1
  | false => exact k1
end
end DD

namespace DD
open PySem PySem.Spec L2
open PyProof.Rows hiding St
variable [LamN]
section
variable {K : PySem.W.Frag} {mg : Str → Option Value} {b : Base} {Z Z' H H' : Hp} {σ : St} {ρ : DEnv} {vs ws : List V} {as l pa : List A} {x y : V} {a c : A} {d : D} {i k : Nat} {p : Addr} {o : HO}
/-- the list of the i-th slot, and what may be done to it -/
theorem Sta.mutL (S : Sta K mg b Z H σ ρ (ws ++ vs) (pa ++ as)) (hl : ws.length = pa.length) (e : ρ[i]? = some (some (.m l))) :
    ∃ p xs fl g1, σ[i]? = some (some (.ref p)) ∧ H p = some (.lst xs) ∧ xs.length = l.length ∧ RepAs K mg Z H xs l fl ∧ RepAs K mg Z H ws pa g1 ∧ (∀ q ∈ g1, Fre b.H q) ∧ (i ∉ b.pn → ∀ q ∈ fl, Fre b.H q) ∧
      ∀ {xs' : List V} {l' : List A} {fl' : List Addr} {ws' : List V} {pa' : List A} {g1' : List Addr}, RepAs K mg Z H xs' l' fl' → RepAs K mg Z H ws' pa' g1' → (∀ y, fl'.count y + g1'.count y ≤ fl.count y + g1.count y) → (∀ q ∈ g1', Fre b.H q) →
        Sta K mg b Z (upd H p (.lst xs')) σ (ρ.set i (some (.m l'))) (ws' ++ vs) (pa' ++ as) := by
  obtain ⟨f, g, h1, h2, h3, h4, h5⟩ := S.rep
  obtain ⟨g1, g2, eg, r1, r2⟩ := h2.split hl
  obtain ⟨x, fa, f0, e1, r3, pw, r4, cn⟩ := h1.out e
  cases r3 with
  | @m p xs _ fl hp rl =>
    subst eg
    refine ⟨p, xs, fl, g1, e1, hp, rl.length, rl, r1, fun q hq => h5 q (List.mem_append_left _ hq), fun hn q hq => ?_, fun {xs' l' fl' ws' pa' g1'} k1 k2 k3 k4 => ?_⟩
    · rcases pw q (List.mem_cons_of_mem _ hq) with z | z
      · exact absurd (S.lw _ _ (by simpa using z)) hn
      · exact z
    have cp : ∀ y, f0.count y + (fl.count y + if p = y then 1 else 0) + (g1.count y + g2.count y) ≤ 1 := fun y => by
      have c1 := h3 y
      have c2 := cn y
      rw [List.count_append] at c1
      rw [List.count_cons] at c2
      simp only [beq_iff_eq] at c2
      omega
    have zp : Z p = none := h4 p (.inl (count_mem (by have := cn p; rw [List.count_cons_self] at this; omega)))
    have np : ∀ {q : Addr}, (0 < f0.count q ∨ 0 < fl.count q ∨ 0 < g1.count q ∨ 0 < g2.count q) → q ≠ p := fun {q} hq e' => by
      have := cp q
      rw [if_pos e'.symm] at this
      omega
    have nf0 : ∀ q ∈ f0, q ≠ p := fun q hq => np (.inl (mem_count hq))
    have ng2 : ∀ q ∈ g2, q ≠ p := fun q hq => np (.inr (.inr (.inr (mem_count hq))))
    have nfl' : ∀ q, (q ∈ fl' ∨ q ∈ g1') → q ≠ p := fun q hq => by
      have := k3 q
      have : 0 < fl'.count q ∨ 0 < g1'.count q := hq.imp mem_count mem_count
      exact np (by omega)
    have ow : ∀ q ∈ p :: fl', b.Own (0 + i) q := fun q hq => by
      rcases List.mem_cons.mp hq with e' | hq
      · exact e' ▸ pw p List.mem_cons_self
      · have := k3 q
        have := mem_count hq
        have : 0 < fl.count q ∨ 0 < g1.count q := by omega
        rcases this with z | z
        · exact pw q (List.mem_cons_of_mem _ (count_mem z))
        · exact .inr (h5 q (List.mem_append_left _ (count_mem z)))
    have hi : i < σ.length := (List.getElem?_eq_some_iff.mp e1).1
    have r5 : SRep K mg b.Own Z (upd H p (.lst xs')) 0 σ (ρ.set i none) f0 := r4.mono (Same.refl Z) (fun q hq => upd_ne (nf0 q hq)) fun _ _ _ z => z
    obtain ⟨f', r6, c6⟩ := r5.into (i := i) (x := .ref p) hi (RepA.m upd_same (RepAs.mono (Same.refl Z) _ _ _ (fun q hq => upd_ne (nfl' q (.inl hq))) k1)) ow
    rw [set_same e1, List.set_set] at r6
    refine ⟨S.zz, fun q u eq => ?_, S.kz, fun q u eq hq hn => ?_, fun q hq => ?_, ⟨tabs_upd S.sd.tabs hp (.inl ⟨_, rfl⟩), S.sd.nt, S.sd.kn⟩, S.pin, S.lw, f', g1' ++ g2, r6, (RepAs.mono (Same.refl Z) _ _ _ (fun q hq => upd_ne (nfl' q (.inr hq))) k2).append (RepAs.mono (Same.refl Z) _ _ _ (fun q hq => upd_ne (ng2 q hq)) r2), fun y => ?_, fun q hq => ?_, fun q hq => ?_⟩
    · have hne : q ≠ p := fun e' => by rw [e', zp] at eq; cases eq
      rw [upd_ne hne]; exact S.zh _ _ eq
    · have hne : q ≠ p := fun e' => by
        subst e'
        rcases pw q List.mem_cons_self with z | z
        · exact hq _ z
        · exact (Fre.no eq hn z).elim
      rw [upd_ne hne]; exact S.kh _ _ eq hq hn
    · by_cases e' : q = p
      · rw [e'] at hq; exact (Fre.no upd_same (fun ps z => by cases z) hq).elim
      · exact S.kd q fun o e => hq o (by rw [upd_ne e']; exact e)
    · have c1 := cp y
      have c2 := c6 y
      have c3 := k3 y
      rw [List.count_cons] at c2
      simp only [beq_iff_eq] at c2
      rw [List.count_append]
      omega
    · have src : 0 < f.count q ∨ 0 < g1.count q ∨ 0 < g2.count q := by
        have c2 := c6 q
        have c3 := k3 q
        have c4 := cn q
        rw [List.count_cons] at c2 c4
        rcases hq with hq | hq
        · have := mem_count hq; omega
        · have := mem_count hq; rw [List.count_append] at this; omega
      rcases src with z | z | z
      · exact h4 q (.inl (count_mem z))
      · exact h4 q (.inr (List.mem_append_left _ (count_mem z)))
      · exact h4 q (.inr (List.mem_append_right _ (count_mem z)))
    · rcases List.mem_append.mp hq with hq | hq
      · exact k4 q hq
      · exact h5 q (List.mem_append_right _ hq)
theorem Sta.append (S : Sta K mg b Z H σ ρ (x :: vs) (a :: as)) (e : ρ[i]? = some (some (.m l))) :
    ∃ p xs, σ[i]? = some (some (.ref p)) ∧ H p = some (.lst xs) ∧ xs.length = l.length ∧ Sta K mg b Z (upd H p (.lst (xs ++ [x]))) σ (ρ.set i (some (.m (l ++ [a])))) vs as := by
  obtain ⟨p, xs, fl, g1, e1, hp, hl, r1, r2, _, _, k⟩ := Sta.mutL (ws := [x]) (pa := [a]) S rfl e
  exact ⟨p, xs, e1, hp, hl, k (ws' := []) (pa' := []) (r1.append r2) .nil (fun y => by simp) (fun q hq => by cases hq)⟩
theorem Sta.setitem (S : Sta K mg b Z H σ ρ (x :: vs) (a :: as)) (e : ρ[i]? = some (some (.m l))) (hk : k < l.length) :
    ∃ p xs, σ[i]? = some (some (.ref p)) ∧ H p = some (.lst xs) ∧ xs.length = l.length ∧ Sta K mg b Z (upd H p (.lst (xs.set k x))) σ (ρ.set i (some (.m (l.set k a)))) vs as := by
  obtain ⟨p, xs, fl, g1, e1, hp, hl, r1, r2, _, _, q⟩ := Sta.mutL (ws := [x]) (pa := [a]) S rfl e
  cases r2 with
  | @cons _ _ _ _ fa g h1 h2 =>
    cases h2
    obtain ⟨y, fy, e2, r3, _, st⟩ := r1.at (i := k) (a := l[k]) (List.getElem?_eq_getElem hk)
    obtain ⟨g', r4, c4⟩ := st h1
    exact ⟨p, xs, e1, hp, hl, q (ws' := []) (pa' := []) r4 .nil (fun y => by have := c4 y; simp; omega) (fun q hq => by cases hq)⟩
/-- an item that is frozen data is taken out -/
theorem Sta.popat (S : Sta K mg b Z H σ ρ vs as) (e : ρ[i]? = some (some (.m l))) (hk : l[k]? = some (.v d)) :
    ∃ p xs x, σ[i]? = some (some (.ref p)) ∧ H p = some (.lst xs) ∧ xs.length = l.length ∧ xs[k]? = some x ∧ Sta K mg b Z (upd H p (.lst (xs.eraseIdx k))) σ (ρ.set i (some (.m (l.eraseIdx k)))) (x :: vs) (.v d :: as) := by
  obtain ⟨p, xs, fl, g1, e1, hp, hl, r1, r2, _, _, q⟩ := Sta.mutL (ws := []) (pa := []) S rfl e
  cases r2
  obtain ⟨y, fy, e2, r3, ⟨g', r4, c4⟩, _⟩ := r1.at (i := k) hk
  refine ⟨p, xs, y, e1, hp, hl, e2, q (ws' := [y]) (pa' := [.v d]) (g1' := fy ++ []) r4 (.cons r3 .nil) (fun y => by have := c4 y; simp; omega) fun q hq => ?_⟩
  cases r3 with
  | v _ => cases hq
theorem Sta.readL (S : Sta K mg b Z H σ ρ vs as) (e : ρ[i]? = some (some (.m l))) : ∃ p xs fl, σ[i]? = some (some (.ref p)) ∧ H p = some (.lst xs) ∧ xs.length = l.length ∧ RepAs K mg Z H xs l fl := by
  obtain ⟨p, xs, fl, g1, e1, hp, hl, r1, _⟩ := Sta.mutL (ws := []) (pa := []) S rfl e
  exact ⟨p, xs, fl, e1, hp, hl, r1⟩
/-- an own value leaves its slot -/
theorem Sta.move (S : Sta K mg b Z H σ ρ vs as) (e : ρ[i]? = some (some a)) (hn : i ∉ b.pn) : ∃ x, σ[i]? = some (some x) ∧ Sta K mg b Z H σ (ρ.set i none) (x :: vs) (a :: as) := by
  obtain ⟨f, g, h1, h2, h3, h4, h5⟩ := S.rep
  obtain ⟨x, fa, f0, e1, r3, pw, r4, cn⟩ := h1.out e
  refine ⟨x, e1, S.zz, S.zh, S.kz, S.kh, S.kd, S.sd, S.pin, S.lw, f0, fa ++ g, r4, .cons r3 h2, fun y => ?_, fun q hq => ?_, fun q hq => ?_⟩
  · have := cn y; have := h3 y; rw [List.count_append]; omega
  · have : 0 < f.count q ∨ 0 < g.count q := by
      have := cn q
      rcases hq with hq | hq
      · have := mem_count hq; omega
      · have := mem_count hq; rw [List.count_append] at this; omega
    exact h4 q (this.imp count_mem count_mem)
  · rcases List.mem_append.mp hq with hq | hq
    · rcases pw q hq with z | z
      · exact absurd (S.lw _ _ (by simpa using z)) hn
      · exact z
    · exact h5 q hq
end

def frzB (own : Bool) (a : A) : A := if own then a else .v a.frz
def dSet (own : Bool) (i : Nat) (f : M A) : M Flow := f.bind fun a ρ => if i < ρ.length then .ok .nx (ρ.set i (some (frzB own a))) else .bad
def dExpr (f : M A) : M Flow := f.bind fun _ => M.pure .nx
def dRet (f : M A) : M Flow := f.bind fun a => M.pure (.ret a)
def dSkip : M Flow := M.pure .nx
def dSeq (F G : M Flow) : M Flow := F.bind fun fl => match fl with
  | .nx => G
  | .ret a => M.pure (.ret a)
  | .bk => M.pure .bk
  | .ct => M.pure .ct
def dIfS (c : M Bool) (F G : M Flow) : M Flow := c.bind fun k => if k = true then F else G
def dMove (i : Nat) : M A := fun ρ => match ρ[i]? with
  | some (some a) => .ok a (ρ.set i none)
  | _ => .bad
/-- a slot's list is read as frozen data from here on -/
def frzSlot (i : Nat) (ρ : DEnv) : DEnv := match ρ[i]? with
  | some (some a) => ρ.set i (some (.v a.frz))
  | _ => ρ
def dFrz {α : Type} (i : Nat) (F : M α) : M α := fun ρ => F (frzSlot i ρ)
def forL (g : D → M Unit) (F : M Flow) : List D → M Flow
  | [] => M.pure .nx
  | d :: ds => (g d).bind fun _ => F.bind fun fl => match fl with
    | .nx => forL g F ds
    | .ct => forL g F ds
    | .bk => M.pure .nx
    | .ret a => M.pure (.ret a)
def dFor (src : M (List D)) (g : D → M Unit) (F : M Flow) : M Flow := src.bind fun ds => forL g F ds
def whileN (c : M Bool) (F : M Flow) : Nat → M Flow
  | 0 => fun _ => .bad
  | n + 1 => c.bind fun k => if k = true then F.bind fun fl => match fl with
      | .nx => whileN c F n
      | .ct => whileN c F n
      | .bk => M.pure .nx
      | .ret a => M.pure (.ret a)
    else M.pure .nx
open Classical in
noncomputable def dWhile (c : M Bool) (F : M Flow) : M Flow := fun ρ => if h : ∃ n, whileN c F n ρ ≠ .bad then whileN c F (Classical.choose h) ρ else .bad
theorem whileN_mono {c : M Bool} {F : M Flow} : ∀ {n : Nat} {ρ : DEnv}, whileN c F n ρ ≠ .bad → whileN c F (n + 1) ρ = whileN c F n ρ
  | 0, ρ, h => absurd rfl h
  | n + 1, ρ, h => by
    unfold whileN at h
    unfold whileN
    simp only [M.bind] at h ⊢
    cases e : c ρ with
    | bad => rfl
    | exc x ρ' => rfl
    | ok k ρ' =>
      rw [e] at h
      simp only [R.bind_ok] at h ⊢
      cases k with
      | false => rfl
      | true =>
        simp only [if_true, M.bind] at h ⊢
        cases e2 : F ρ' with
        | bad => rfl
        | exc x ρ2 => rfl
        | ok fl ρ2 =>
          rw [e2] at h
          simp only [R.bind_ok] at h ⊢
          cases fl with
          | nx => exact whileN_mono h
          | ct => exact whileN_mono h
          | bk => rfl
          | ret a => rfl
theorem whileN_le {c : M Bool} {F : M Flow} {n : Nat} {ρ : DEnv} (h : whileN c F n ρ ≠ .bad) : ∀ k, whileN c F (n + k) ρ = whileN c F n ρ
  | 0 => rfl
  | k + 1 => by
    have ih := whileN_le h k
    rw [← Nat.add_assoc, whileN_mono (by rw [ih]; exact h), ih]
theorem dWhile_eq {c : M Bool} {F : M Flow} {n : Nat} {ρ : DEnv} (h : whileN c F n ρ ≠ .bad) : dWhile c F ρ = whileN c F n ρ := by
  have hx : ∃ n, whileN c F n ρ ≠ .bad := ⟨n, h⟩
  unfold dWhile
  rw [dif_pos hx]
  have h2 := Classical.choose_spec hx
  rcases Nat.le_total n (Classical.choose hx) with q | q
  · obtain ⟨k, e⟩ := Nat.le.dest q
    rw [← e, whileN_le h]
  · obtain ⟨k, e⟩ := Nat.le.dest q
    have := whileN_le h2 k
    rw [e] at this
    exact this.symm
theorem dWhile_some {c : M Bool} {F : M Flow} {ρ : DEnv} (h : dWhile c F ρ ≠ .bad) : ∃ n, dWhile c F ρ = whileN c F n ρ := by
  unfold dWhile at h ⊢
  split
  · exact ⟨_, rfl⟩
  · rename_i h'; rw [dif_neg h'] at h; exact absurd rfl h

section
variable {X : Cx} {C : SC} {a c e : Expr} {st : Stmt} {sts sts' rest : List Stmt} {f g : M A} {F G : M Flow} {p : M Bool} {pos pos' : Pos} {i : Nat} {x : Str}
theorem go_store {own : Bool} {D : Ends} {y : V} {u : A} {σ : St} {H : Hp} (hn : i ∉ C.pn) (k : Go C (finS C D) [y] [u] (fun ρ => if i < ρ.length then .ok .nx (ρ.set i (some (frzB own u))) else .bad) σ H) : D.nx (σ.set i (some y)) H := by
  obtain ⟨b, Z, ρ, vs, as, hb, hl, S, k⟩ := k
  dsimp only at k
  split at k
  · rename_i hi
    have hn' : i ∉ b.pn := by rw [hb.pn]; exact hn
    cases own with
    | true => exact k _ _ _ (Sta.store (vs := vs) (as := as) S hi hn')
    | false =>
      obtain ⟨Z', _, S'⟩ := Sta.freeze (vs := vs) (as := as) S
      exact k _ _ _ (S'.store hi hn')
  · exact k.elim
theorem ds_set (own : Bool) (hN : X.N.Nodup) (hi : X.N[i]? = some x) (hx : Loc X.env.scope x) (hn : i ∉ C.pn) (he : PE X e (tE C f)) (hs : swapsWith e (some (.Name x pos')) pos.line X.env = pure false := by rfl)
    (hf : X.fn x = true ∨ X.env.scope.names.lookup x = some .local := by first | exact .inl rfl | exact .inr rfl | assumption) : PS X (.Assign [.Name x pos'] e pos) (tS C (dSet own i f)) := by
  refine PS.w (ps_set hN hi hx he hs hf) fun D σ H k => ?_
  exact (Go.bindE k).mono fun y H1 ⟨u, k1⟩ => go_store hn k1
theorem ds_expr (he : PE X e (tE C f)) (hs : swapsWith e none pos.line X.env = pure false := by rfl) : PS X (.Expr e pos) (tS C (dExpr f)) := by
  refine PS.w (ps_expr he hs) fun D σ H k => ?_
  exact (Go.bindE k).mono fun y H1 ⟨u, b, Z, ρ, vs, as, hb, hl, S, k⟩ => k _ _ _ (Sta.pop (vs := vs) (as := as) S)
theorem ds_ret (he : PE X e (tE C f)) : PS X (.Return (some e) pos) (tS C (dRet f)) := by
  refine PS.w (ps_ret he) fun D σ H k => ?_
  exact (Go.bindE k).mono fun y H1 ⟨u, b, Z, ρ, vs, as, hb, hl, S, k⟩ => k _ _ _ _ S
theorem dss_nil : PSs X [] (tS C dSkip) := by
  refine PSs.w pss_nil fun D σ H ⟨b, Z, ρ, vs, as, hb, hl, S, k⟩ => ?_
  exact k _ _ _ S
theorem ds_pass : PS X (.Pass pos) (tS C dSkip) := by
  refine PS.w ps_pass fun D σ H ⟨b, Z, ρ, vs, as, hb, hl, S, k⟩ => ?_
  exact k _ _ _ S
theorem go_seq {D : Ends} {σ : St} {H : Hp} (k : tS C (dSeq F G) D σ H) : tS C F { D with nx := tS C G D } σ H := by
  obtain ⟨b, Z, ρ, vs, as, hb, hl, S, k⟩ := k
  refine ⟨b, Z, ρ, vs, as, hb, rfl, S, R.sat_mono (R.sat_bind k) (fun fl ρ' q => ?_) fun _ _ q => q⟩
  cases fl with
  | nx => exact fun Z' H' σ' S' => ⟨b, Z', ρ', vs, as, hb, rfl, S', q⟩
  | ret a => exact q
  | bk => exact q
  | ct => exact q
theorem dss_cons (h1 : PS X st (tS C F)) (h2 : PSs X rest (tS C G)) : PSs X (st :: rest) (tS C (dSeq F G)) := PSs.w (pss_cons h1 h2) fun D σ H k => go_seq k
theorem dss_one (h1 : PS X st (tS C F)) : PSs X [st] (tS C F) := pss_one h1
theorem tS.imp {D D' : Ends} {σ : St} {H : Hp} (h : tS C F D σ H) (k : ∀ b vs as fl ρ', C.Of b → finS C D b vs as fl ρ' → finS C D' b vs as fl ρ') : tS C F D' σ H := by
  obtain ⟨b, Z, ρ, vs, as, hb, hl, S, h⟩ := h
  exact ⟨b, Z, ρ, vs, as, hb, rfl, S, R.sat_mono h (fun fl ρ' q => k b vs as fl ρ' hb q) fun _ _ q => q⟩
theorem ds_if (hc : PT X c (tT C p)) (ha : PSs X sts (tS C F)) (hb : PSs X sts' (tS C G)) : PS X (.If c sts sts' pos) (tS C (dIfS p F G)) := by
  refine PS.w (ps_if hc ha hb) fun D σ H k => (Go.bindT k).mono fun d H1 k1 => ?_
  cases d with
  | true => exact k1
  | false => exact k1
theorem go_frz {α : Type} {fin : Fin α} {F : M α} {σ : St} {H : Hp} (hn : i ∉ C.pn) (k : Go C fin [] [] (dFrz i F) σ H) : Go C fin [] [] F σ H := by
  obtain ⟨b, Z, ρ, vs, as, hb, hl, S, k⟩ := k
  unfold dFrz frzSlot at k
  split at k
  · rename_i a ha
    have hn' : i ∉ b.pn := by rw [hb.pn]; exact hn
    obtain ⟨y, e, S1⟩ := Sta.move (vs := vs) (as := as) S ha hn'
    obtain ⟨Z', _, S2⟩ := S1.freeze
    have hi : i < (ρ.set i none).length := by rw [List.length_set]; exact (List.getElem?_eq_some_iff.mp ha).1
    have S3 := S2.store hi hn'
    rw [set_same e, List.set_set] at S3
    exact ⟨b, Z', _, vs, as, hb, rfl, S3, k⟩
  · exact ⟨b, Z, ρ, vs, as, hb, rfl, S, k⟩
theorem ds_frz (i : Nat) (hn : i ∉ C.pn) (h : PS X st (tS C F)) : PS X st (tS C (dFrz i F)) := PS.w h fun D σ H k => go_frz hn k
/-- what is walked, by its items -/
def IsIt (C : SC) (J : It) (ws : List V) (pa : List A) (ds : List D) : Prop :=
  ∀ (b : Base) (Z H : Hp) (σ : St) (ρ : DEnv) (vs : List V) (as : List A), Sta C.K C.mg b Z H σ ρ (ws ++ vs) (pa ++ as) →
    (∀ i d, ds[i]? = some d → J.go i H ∧ ∀ x H', J.yld i H x H' → ∃ Z', Sta C.K C.mg b Z' H' σ ρ (x :: (ws ++ vs)) (.v d :: (pa ++ as))) ∧ J.stop ds.length H
def finI (C : SC) (σ : St) (R : It → Hp → Prop) : Fin (List D) := fun b vs as ds ρ => ∀ Z' H' ws pa J, ws.length = pa.length → Sta C.K C.mg b Z' H' σ ρ (ws ++ vs) (pa ++ as) → IsIt C J ws pa ds → R J H'
def tI (C : SC) (src : M (List D)) : TI := fun σ H R => Go C (finI C σ R) [] [] src σ H
def tG (C : SC) (sl : List Nat) (g : D → M Unit) : TG := fun v σ H Q => ∃ b Z ρ vs as d, C.Of b ∧ Sta C.K C.mg b Z H σ ρ (v :: vs) (.v d :: as) ∧ (g d ρ).sat (fun _ ρ' => ∀ Z' H' σ', Sta C.K C.mg b Z' H' σ' ρ' vs as → wipe σ' sl = wipe σ sl → Q σ' H') (XPost C b vs as)
theorem wipe_set (σ : St) (i : Nat) (x : Option V) : ∀ {sl : List Nat}, i ∈ sl → wipe (σ.set i x) sl = wipe σ sl
  | [], h => by cases h
  | j :: sl, h => by
    unfold wipe
    by_cases e : i ∈ sl
    · rw [wipe_set σ i x e]
    · have ej : i = j := by
        rcases List.mem_cons.mp h with z | z
        · exact z
        · exact absurd z e
      subst ej
      have : ∀ sl : List Nat, i ∉ sl → wipe (σ.set i x) sl = (wipe σ sl).set i x := fun sl => by
        induction sl with
        | nil => intro _; rfl
        | cons k sl ih =>
          intro hk
          rw [List.mem_cons, not_or] at hk
          unfold wipe
          rw [ih hk.2, List.set_comm _ _ (Ne.symm hk.1)]
      rw [this sl e, List.set_set]
theorem PI.w {tg : Expr} {t t' : TI} (h : PI X tg e t) (k : ∀ σ H R, t' σ H R → t σ H R) : PI X tg e t' := ⟨fun pins s σ H R I hw => h.run pins s σ H R I (k σ H R hw)⟩
theorem PG.w {tg : Expr} {t t' : TG} (h : PG X tg t) (k : ∀ v σ H Q, t' v σ H Q → t v σ H Q) : PG X tg t' := ⟨fun pins s σ H v u Q I r hw => h.run pins s σ H v u Q I r (k v σ H Q hw)⟩
def gSet (i : Nat) : D → M Unit := fun d ρ => if i < ρ.length then .ok () (ρ.set i (some (.v d))) else .bad
theorem dg_name {sl : List Nat} (hs : i ∈ sl) (hN : X.N.Nodup) (hi : X.N[i]? = some x) (hx : Loc X.env.scope x) (hn : i ∉ C.pn) (hf : X.fn x = true ∨ X.env.scope.names.lookup x = some .local := by first | exact .inl rfl | exact .inr rfl | assumption) : PG X (.Name x pos) (tG C sl (gSet i)) := by
  refine PG.w (pg_name hN hi hx hf) fun v σ H Q ⟨b, Z, ρ, vs, as, d, hb, S, k⟩ => ?_
  unfold gSet at k
  split at k
  · rename_i hi
    exact k _ _ _ (S.store hi (by rw [hb.pn]; exact hn)) (wipe_set _ _ _ hs)
  · exact k.elim
variable {sl : List Nat} {tg iter : Expr} {src : M (List D)} {gt : D → M Unit} {body : List Stmt}
theorem ds_for (hp : PassesOwn (model X.prog X.w) X.A X.env X.xe) (hc : X.calm = true) (hi : PI X tg iter (tI C src)) (hg : PG X tg (tG C sl gt)) (hb : PSs X body (tS C F))
    (hs : ∀ x, foldedSetIterable iter X.env x = pure x := by intro _; rfl) : PS X (.For tg iter body [] pos) (tS C (dFor src gt F)) := by
  refine PS.w (ps_for hp hc hi hg hb hs) fun D σ H k => ?_
  obtain ⟨b, Z, ρ, vs, as, hbn, hl, S, k⟩ := k
  refine ⟨b, Z, ρ, vs, as, hbn, rfl, S, R.sat_mono (R.sat_bind k) (fun ds ρ' q Z' H' ws pa J hl S' hJ => ?_) fun _ _ q => q⟩
  refine ⟨fun i m σ H => ∃ Z ρ, Sta C.K C.mg b Z H σ ρ (ws ++ vs) (pa ++ as) ∧ i + m = ds.length ∧ (forL gt F (ds.drop i) ρ).sat (finS C D b vs as) (XPost C b vs as), ⟨ds.length, Z', ρ', S', by omega, by simpa using q⟩, ?_⟩
  rintro i m σ1 H1 ⟨Z1, ρ1, S1, em, q1⟩
  obtain ⟨turn, stop⟩ := hJ b Z1 H1 σ1 ρ1 vs as S1
  by_cases hi : i < ds.length
  · obtain ⟨go, yld⟩ := turn i ds[i] (List.getElem?_eq_getElem hi)
    refine .inr ⟨go, fun σ2 H2 => ∃ Z ρ, Sta C.K C.mg b Z H2 σ2 ρ (ws ++ vs) (pa ++ as) ∧ (forL gt F (ds.drop (i + 1)) ρ).sat (finS C D b vs as) (XPost C b vs as), fun σ2 H2 ⟨Z2, ρ2, S2, q2⟩ => ⟨m - 1, by omega, Z2, ρ2, S2, by omega, q2⟩, fun x H2 hy => ?_⟩
    obtain ⟨Z2, S2⟩ := yld x H2 hy
    rw [List.drop_eq_getElem_cons hi] at q1
    refine ⟨b, Z2, ρ1, ws ++ vs, pa ++ as, ds[i], hbn, S2, R.sat_mono (R.sat_bind q1) (fun _ ρ3 q3 Z3 H3 σ3 S3 _ => ?_) fun _ _ q => q.pops hl⟩
    refine ⟨b, Z3, ρ3, ws ++ vs, pa ++ as, hbn, rfl, S3, R.sat_mono (R.sat_bind q3) (fun fl ρ4 q4 => ?_) fun _ _ q => q.pops hl⟩
    cases fl with
    | nx => exact fun Z' H' σ' S' => ⟨Z', ρ4, S', q4⟩
    | ct => exact fun Z' H' σ' S' => ⟨Z', ρ4, S', q4⟩
    | bk => exact fun Z' H' σ' S' => q4 Z' H' σ' (S'.pops hl)
    | ret a => exact fun Z' H' σ' v S' => q4 Z' H' σ' v ((S'.unrot hl).pops hl)
  · have e : i = ds.length := by omega
    subst e
    rw [List.drop_length] at q1
    exact .inl ⟨stop, q1 _ _ _ (S1.pops hl)⟩
theorem ds_while (hp : PassesOwn (model X.prog X.w) X.A X.env X.xe) (hc : PT X c (tT C p)) (hb : PSs X body (tS C F)) : PS X (.While c body [] pos) (tS C (dWhile p F)) := by
  refine PS.w (ps_while hp hc hb) fun D σ H k => ?_
  obtain ⟨b, Z, ρ, vs, as, hbn, hl, S, k⟩ := k
  have nb : dWhile p F ρ ≠ .bad := fun e => by rw [e] at k; exact k
  obtain ⟨n, en⟩ := dWhile_some nb
  rw [en] at k
  refine ⟨fun m σ H => ∃ Z ρ, Sta C.K C.mg b Z H σ ρ vs as ∧ (whileN p F m ρ).sat (finS C D b vs as) (XPost C b vs as), ⟨n, Z, ρ, S, k⟩, ?_⟩
  rintro m σ1 H1 ⟨Z1, ρ1, S1, q1⟩
  cases m with
  | zero => exact q1.elim
  | succ m =>
    refine ⟨b, Z1, ρ1, vs, as, hbn, rfl, S1, R.sat_mono (R.sat_bind q1) (fun d ρ2 q2 Z2 H2 S2 => ?_) fun _ _ q => q⟩
    cases d with
    | true =>
      refine ⟨fun σ H => ∃ Z ρ, Sta C.K C.mg b Z H σ ρ vs as ∧ (whileN p F m ρ).sat (finS C D b vs as) (XPost C b vs as), fun σ' H' q => ⟨m, by omega, q⟩, ?_⟩
      refine ⟨b, Z2, ρ2, vs, as, hbn, rfl, S2, R.sat_mono (R.sat_bind q2) (fun fl ρ3 q3 => ?_) fun _ _ q => q⟩
      cases fl with
      | nx => exact fun Z' H' σ' S' => ⟨Z', ρ3, S', q3⟩
      | ct => exact fun Z' H' σ' S' => ⟨Z', ρ3, S', q3⟩
      | bk => exact fun Z' H' σ' S' => q3 Z' H' σ' S'
      | ret a => exact q3
    | false => exact q2 Z2 H2 σ1 S2
end
end DD

namespace DD
open PySem PySem.Spec L2
open PyProof.Rows hiding St
variable [LamN]

mutual
def D.py : D → PyData
  | .non => .none
  | .bl b => .bool b
  | .int i => .int i
  | .str x => .str x
  | .tup l => .tuple (pys l)
  | .lst l => .list (pys l)
  | .fz l => .list (pys l)
  | .ins _ _ _ => .none
def pys : List D → List PyData
  | [] => []
  | d :: l => d.py :: pys l
end
mutual
def D.plain : D → Bool
  | .tup l => plains l
  | .lst l => plains l
  | .fz l => plains l
  | .ins _ _ _ => false
  | _ => true
def plains : List D → Bool
  | [] => true
  | d :: l => d.plain && plains l
end
def D.cmp (d : D) : Bool := d.plain && SeqAt.shaped d.py
section
variable {K : PySem.W.Frag} {mg : Str → Option Value} {Z H : Hp}
mutual
theorem RepD.dp (z : Same Z H) : ∀ (d : D) (x : V), RepD K mg Z x d → d.plain = true → Dp K H x d.py
  | .non, _, h, _ => by cases h; exact .non
  | .bl _, _, h, _ => by cases h; exact .bl _
  | .int _, _, h, _ => by cases h; exact .int _
  | .str _, _, h, _ => by cases h; exact .str _
  | .tup l, _, h, p => by
    cases h with
    | tup h1 h2 => exact .tup (sameT z h1) (RepDs.dp z l _ h2 (by simpa [D.plain] using p))
  | .lst l, _, h, p => by
    cases h with
    | lst h1 h2 => exact .lst (SqL.of (z _ _ h1)) (RepDs.dp z l _ h2 (by simpa [D.plain] using p))
  | .fz l, _, h, p => by
    cases h with
    | fz h1 h2 => exact .lst (z.seq h1) (RepDs.dp z l _ h2 (by simpa [D.plain] using p))
  | .ins _ _ _, _, h, p => by simp [D.plain] at p
theorem RepDs.dp (z : Same Z H) : ∀ (ds : List D) (xs : List V), RepDs K mg Z xs ds → plains ds = true → DpAll K H xs (pys ds)
  | [], _, h, _ => by cases h; exact .nil
  | d :: ds, _, h, p => by
    cases h with
    | cons h1 h2 =>
      have p' : d.plain = true ∧ plains ds = true := by simpa [plains] using p
      exact .cons (RepD.dp z d _ h1 p'.1) (RepDs.dp z ds _ h2 p'.2)
end
end

def ii (g : Int → Int → Option D) (a c : A) : Option A := match a, c with
  | .v (.int i), .v (.int j) => (g i j).map .v
  | _, _ => none
section
variable {C : SC} {X : Cx}
theorem op2_ints {r : R2} {Cd : Int → Int → Prop} {gv : Int → Int → V} {g : Int → Int → Option D} (hr : ∀ x y H Q, rI Cd gv x y H Q → r x y H Q)
    (hg : ∀ i j d, g i j = some d → Cd i j ∧ ∀ Z, RepD C.K C.mg Z (gv i j) d) : Op2 C r (ii g) := by
  intro b Z H σ ρ vs as x y a c res Q S e k
  unfold ii at e
  split at e
  · rename_i i j
    cases e' : g i j with
    | none => rw [e'] at e; cases e
    | some d =>
      rw [e'] at e
      cases e
      obtain ⟨h1, h2⟩ := hg i j d e'
      have t1 := S.top
      have t2 := S.top2
      cases t1
      cases t2
      exact hr _ _ _ _ ⟨i, j, rfl, rfl, h1, k _ _ _ (S.pop.pop.push (h2 Z))⟩
  · cases e
/-- IntMulOk below a bound -/
theorem mulOk {i j : Int} (h : i.natAbs.log2 + j.natAbs.log2 < 134217000) : IntMulOk i j := by
  have b : ∀ x : Int, Builtin.Int.intBits x ≤ x.natAbs.log2 + 1 := fun x => by
    unfold Builtin.Int.intBits
    split <;> omega
  have h1 := b i
  have h2 := b j
  have e : bitsLine = 134217728 := by decide
  unfold IntMulOk
  intro z
  rw [Bool.and_eq_true] at z
  have z2 := z.2
  unfold Builtin.Int.intTooBig at z2
  have z3 := of_decide_eq_true z2
  rw [e] at z3
  omega
def MulC (i j : Int) : Prop := i.natAbs.log2 + j.natAbs.log2 < 134217000
def DivC (i j : Int) : Prop := j ≠ 0 ∧ (j.natAbs.log2 < 9000 ∨ i.natAbs.log2 < j.natAbs.log2 + 4400)
theorem divOk {i j : Int} (h : DivC i j) : Builtin.divisionGoesByPylong i j = false := by
  rcases h.2 with h2 | h2
  · exact PyProof.noPylong_of_log2 h2
  · have h0 := h.1
    unfold Builtin.divisionGoesByPylong
    have hj : (j == 0) = false := by simp [h0]
    simp only [hj]
    by_cases hi : (i == 0) = true
    · simp only [hi]
      simp
    · simp only [hi]
      simp only [Bool.and_eq_false_iff, decide_eq_false_iff_not]
      right
      simp only [Bool.false_eq_true, if_false]
      omega
theorem or_mul : OpR X (binaryOp .Mult) (rI MulC fun i j => .int (i * j)) := opI fun _ _ _ _ _ _ _ hc q => mul_int q (mulOk hc)
theorem or_div : OpR X (binaryOp .FloorDiv) (rI DivC fun i j => .int (i.fdiv j)) := opI fun _ _ _ _ _ _ _ hc q => floordiv_int hc.1 q (.inl (divOk hc))

def opAdd (a c : A) : Option A := match a, c with
  | .v (.int i), .v (.int j) => some (.v (.int (i + j)))
  | .v (.tup l), .v (.tup k) => if l.length + k.length ≤ sizeLine then some (.v (.tup (l ++ k))) else none
  | .v (.str x), .v (.str y) => if x.length + y.length ≤ sizeLine then some (.v (.str (x ++ y))) else none
  | .m l, .m k => if l.length + k.length ≤ sizeLine then some (.m ((frzs l ++ frzs k).map A.v)) else none
  | .v (.lst l), .m k => if l.length + k.length ≤ sizeLine then some (.m ((l ++ frzs k).map A.v)) else none
  | .m l, .v (.lst k) => if l.length + k.length ≤ sizeLine then some (.m ((frzs l ++ k).map A.v)) else none
  | .v (.lst l), .v (.lst k) => if l.length + k.length ≤ sizeLine then some (.m ((l ++ k).map A.v)) else none
  | _, _ => none
def rAdd (K : PySem.W.Frag) : R2 := fun x y H Q => (rI0 (fun i j => .int (i + j)) x y H Q ∨ rCatA K x y H Q) ∨ (rCat x y H Q ∨ ∃ i j, x = .str i ∧ y = .str j ∧ i.length + j.length ≤ sizeLine ∧ Q (.str (i ++ j)) H)
theorem or_add : OpR X (binaryOp .Add) (rAdd X.K) := (op_add.or op_catA).or (op_cat.or op_add_str)
/-- two lists end to end -/
theorem add_lists {b : Base} {Z H : Hp} {σ : St} {ρ : DEnv} {vs : List V} {as : List A} {x y : V} {l k : List D} {Q : VK} (S : Sta C.K C.mg b Z H σ ρ (y :: x :: vs) (.v (.lst k) :: .v (.lst l) :: as)) (hz : l.length + k.length ≤ sizeLine)
    (q : ∀ Z' H' v, Sta C.K C.mg b Z' H' σ ρ (v :: vs) (.m ((l ++ k).map A.v) :: as) → Q v H') : rCat x y H Q := by
  have t1 := S.top
  have t2 := S.top2
  cases t1 with
  | lst h1 h2 =>
    cases t2 with
    | lst h3 h4 =>
      refine ⟨_, _, _, _, rfl, rfl, S.zh _ _ h3, S.zh _ _ h1, by rw [h4.length, h2.length]; exact hz, fun p hp => ?_⟩
      have r := RepDs.append h4 h2
      have S' := S.pop.pop
      have S2 : ∀ {ws : List V} {ds : List D}, RepDs C.K C.mg Z ws ds → Sta C.K C.mg b Z H σ ρ (ws ++ vs) (ds.map A.v ++ as) := fun {ws} => by
        induction ws with
        | nil => intro ds h; cases h; exact S'
        | cons w ws ih =>
          intro ds h
          cases h with
          | cons h1 h2 => exact (ih h2).push h1
      exact q _ _ _ ((S2 r).newM (by rw [List.length_map]; exact r.length) hp)
theorem Sta.freeze2 {b : Base} {Z H : Hp} {σ : St} {ρ : DEnv} {vs : List V} {as : List A} {x y : V} {a c : A} (S : Sta C.K C.mg b Z H σ ρ (y :: x :: vs) (c :: a :: as)) : ∃ Z', Sta C.K C.mg b Z' H σ ρ (y :: x :: vs) (.v c.frz :: .v a.frz :: as) := by
  obtain ⟨Z1, _, S1⟩ := S.freeze
  obtain ⟨Z2, z2, S2⟩ := S1.pop.freeze
  exact ⟨Z2, S2.push (RepD.mono z2 _ _ S1.top)⟩
theorem frzs_length : ∀ l : List A, (frzs l).length = l.length
  | [] => rfl
  | a :: l => by rw [frzs, List.length_cons, List.length_cons, frzs_length l]
theorem o2_add : Op2 C (rAdd C.K) opAdd := by
  intro b Z H σ ρ vs as x y a c res Q S e k
  unfold opAdd at e
  split at e
  · rename_i i j
    cases e
    have t1 := S.top
    have t2 := S.top2
    cases t1
    cases t2
    exact .inl (.inl ⟨i, j, rfl, rfl, k _ _ _ (S.pop.pop.push (.int _))⟩)
  · rename_i l m
    split at e
    · rename_i hz
      cases e
      have t1 := S.top
      have t2 := S.top2
      cases t1 with
      | tup h1 h2 =>
        cases t2 with
        | tup h3 h4 =>
          refine .inl (.inr ⟨_, _, _, _, rfl, rfl, sameT S.zh h3, sameT S.zh h1, by rw [h4.length, h2.length]; exact hz, fun e0 => ?_, fun e0 e1 => ?_, fun e0 e1 p hp => ?_⟩)
          · subst e0
            cases h4
            exact k _ _ _ (S.pop.pop.push (.tup h1 h2))
          · subst e1
            cases h2
            rw [List.append_nil] at k
            exact k _ _ _ (S.pop.pop.push (.tup h3 h4))
          · have zp := S.zh.free hp
            exact k _ _ _ (S.pop.pop.newF (o := .tup _) hp (.tup (SqT.of upd_same) (RepDs.mono (same_upd zp) _ _ (RepDs.append h4 h2))))
    · cases e
  · rename_i u w
    split at e
    · rename_i hz
      cases e
      have t1 := S.top
      have t2 := S.top2
      cases t1
      cases t2
      exact .inr (.inr ⟨u, w, rfl, rfl, hz, k _ _ _ (S.pop.pop.push (.str _))⟩)
    · cases e
  · rename_i l m
    split at e
    · rename_i hz
      cases e
      obtain ⟨Z', S'⟩ := S.freeze2
      exact .inr (.inl (add_lists S' (by rw [frzs_length, frzs_length]; exact hz) k))
    · cases e
  · rename_i l m
    split at e
    · rename_i hz
      cases e
      obtain ⟨Z', S'⟩ := S.freeze2
      exact .inr (.inl (add_lists S' (by rw [frzs_length]; exact hz) k))
    · cases e
  · rename_i l m
    split at e
    · rename_i hz
      cases e
      obtain ⟨Z', S'⟩ := S.freeze2
      exact .inr (.inl (add_lists S' (by rw [frzs_length]; exact hz) k))
    · cases e
  · rename_i l m
    split at e
    · rename_i hz
      cases e
      exact .inr (.inl (add_lists S hz k))
    · cases e
  · cases e

def opSub : A → A → Option A := ii fun i j => some (.int (i - j))
theorem o2_sub : Op2 C (rI0 fun i j => .int (i - j)) opSub := op2_ints (Cd := fun _ _ => True) (fun _ _ _ _ ⟨i, j, e1, e2, _, q⟩ => ⟨i, j, e1, e2, q⟩) fun i j d e => by cases e; exact ⟨trivial, fun _ => .int _⟩
open Classical in
noncomputable def opMul (a c : A) : Option A := match a, c with
  | .v (.int i), .v (.int j) => if MulC i j then some (.v (.int (i * j))) else none
  | .m l, .v (.int k) => if l.length * k.toNat ≤ sizeLine ∧ -(2 ^ 63) ≤ k ∧ k < 2 ^ 63 then some (.m ((List.replicate k.toNat (frzs l)).flatten.map A.v)) else none
  | .v (.tup l), .v (.int k) => if l ≠ [] ∧ l.length ≤ 1000 ∧ 2 ≤ k ∧ k ≤ 1000 then some (.v (.tup (List.replicate k.toNat l).flatten)) else none
  | _, _ => none
def rMul (K : PySem.W.Frag) : R2 := fun x y H Q => (rI MulC (fun i j => .int (i * j)) x y H Q ∨ rRep x y H Q) ∨ rRepT K x y H Q
theorem or_mulA : OpR X (binaryOp .Mult) (rMul X.K) := (or_mul.or op_rep).or op_repT
theorem RepDs.rep {K : PySem.W.Frag} {mg : Str → Option Value} {Z : Hp} {ws : List V} {ds : List D} (h : RepDs K mg Z ws ds) : ∀ k : Nat, RepDs K mg Z (List.replicate k ws).flatten (List.replicate k ds).flatten
  | 0 => .nil
  | k + 1 => by
    rw [List.replicate_succ, List.replicate_succ, List.flatten_cons, List.flatten_cons]
    exact RepDs.append h (RepDs.rep h k)
theorem Sta.pushes {b : Base} {Z H : Hp} {σ : St} {ρ : DEnv} {vs : List V} {as : List A} (S : Sta C.K C.mg b Z H σ ρ vs as) : ∀ {ws : List V} {ds : List D}, RepDs C.K C.mg Z ws ds → Sta C.K C.mg b Z H σ ρ (ws ++ vs) (ds.map A.v ++ as)
  | [], _, h => by cases h; exact S
  | w :: ws, _, h => by
    cases h with
    | cons h1 h2 => exact (Sta.pushes S h2).push h1
theorem o2_mul : Op2 C (rMul C.K) opMul := by
  intro b Z H σ ρ vs as x y a c res Q S e k
  unfold opMul at e
  split at e
  · rename_i i j
    split at e
    · rename_i hz
      cases e
      have t1 := S.top
      have t2 := S.top2
      cases t1
      cases t2
      exact .inl (.inl ⟨i, j, rfl, rfl, hz, k _ _ _ (S.pop.pop.push (.int _))⟩)
    · cases e
  · rename_i l n
    split at e
    · rename_i hz
      cases e
      obtain ⟨Z', S'⟩ := S.freeze2
      have t1 := S'.top
      have t2 := S'.top2
      cases t1
      cases t2 with
      | lst h3 h4 =>
        refine .inl (.inr ⟨_, n, _, rfl, rfl, S'.zh _ _ h3, hz.2.1, hz.2.2, by rw [h4.length, frzs_length]; exact hz.1, fun p hp => ?_⟩)
        have r := h4.rep n.toNat
        exact k _ _ _ ((S'.pop.pop.pushes r).newM (by rw [List.length_map]; exact r.length) hp)
    · cases e
  · rename_i l n
    split at e
    · rename_i hz
      cases e
      have t1 := S.top
      have t2 := S.top2
      cases t1
      cases t2 with
      | tup h3 h4 =>
        refine .inr ⟨_, n, _, rfl, rfl, sameT S.zh h3, fun e0 => ?_, hz.2.2.1, hz.2.2.2, by rw [h4.length]; exact hz.2.1, fun p hp => ?_⟩
        · subst e0; cases h4; exact hz.1 rfl
        · have zp := S.zh.free hp
          exact k _ _ _ (S.pop.pop.newF (o := .tup _) hp (.tup (SqT.of upd_same) (RepDs.mono (same_upd zp) _ _ (h4.rep n.toNat))))
    · cases e
  · cases e
open Classical in
noncomputable def opDiv : A → A → Option A := ii fun i j => if DivC i j then some (.int (i.fdiv j)) else none
theorem o2_div : Op2 C (rI DivC fun i j => .int (i.fdiv j)) opDiv := op2_ints (fun _ _ _ _ h => h) fun i j d e => by
  split at e
  · rename_i h; cases e; exact ⟨h, fun _ => .int _⟩
  · cases e
def opMod : A → A → Option A := ii fun i j => if j ≠ 0 then some (.int (i.fmod j)) else none
theorem o2_mod : Op2 C (rI (fun _ j => j ≠ 0) fun i j => .int (i.fmod j)) opMod := op2_ints (fun _ _ _ _ h => h) fun i j d e => by
  split at e
  · rename_i h; cases e; exact ⟨h, fun _ => .int _⟩
  · cases e
def PowC (i j : Int) : Prop := 0 ≤ j ∧ (Builtin.Int.intBits i : Int) * j ≤ 2 ^ 27
theorem op_powB {X : Cx} : OpR X (binaryOp .Pow) (rI PowC fun i j => .int (i ^ j.toNat)) := opI fun _ _ _ _ _ _ _ hc q => pow_int hc.1 hc.2 q
open Classical in
noncomputable def opPow : A → A → Option A := ii fun i j => if PowC i j then some (.int (i ^ j.toNat)) else none
theorem o2_pow : Op2 C (rI PowC fun i j => .int (i ^ j.toNat)) opPow := op2_ints (fun _ _ _ _ h => h) fun i j d e => by
  split at e
  · rename_i h; cases e; exact ⟨h, fun _ => .int _⟩
  · cases e
def opNeg (a : A) : Option A := match a with
  | .v (.int i) => some (.v (.int (-i)))
  | _ => none
theorem o1_neg : Op1 C (rU fun i => .int (-i)) opNeg := by
  intro b Z H σ ρ vs as x a res Q S e k
  unfold opNeg at e
  split at e
  · cases e
    have t := S.top
    cases t
    exact ⟨_, rfl, k _ _ _ (S.pop.push (.int _))⟩
  · cases e
def opLt : A → A → Option A := ii fun i j => some (.bl (decide (i < j)))
def opGt : A → A → Option A := ii fun i j => some (.bl (decide (j < i)))
def opGe : A → A → Option A := ii fun i j => some (.bl (decide (j ≤ i)))
theorem o2_c0 {g : Int → Int → Bool} : Op2 C (rI0 fun i j => .bl (g i j)) (ii fun i j => some (.bl (g i j))) := op2_ints (Cd := fun _ _ => True) (fun _ _ _ _ ⟨i, j, e1, e2, _, q⟩ => ⟨i, j, e1, e2, q⟩) fun i j d e => by cases e; exact ⟨trivial, fun _ => .bl _⟩
theorem o2_lt : Op2 C (rI0 fun i j => .bl (decide (i < j))) opLt := o2_c0
theorem o2_gt : Op2 C (rI0 fun i j => .bl (decide (j < i))) opGt := o2_c0
theorem o2_ge : Op2 C (rI0 fun i j => .bl (decide (j ≤ i))) opGe := o2_c0
def opEqv (f : Bool → Bool) (a c : A) : Option A := if a.frz.cmp && c.frz.cmp then some (.v (.bl (f (PyData.eqv a.frz.py c.frz.py)))) else none
def opEq : A → A → Option A := opEqv id
def opNe : A → A → Option A := opEqv not
theorem cmp_of {d : D} (h : d.cmp = true) : d.plain = true ∧ SeqAt.shaped d.py = true := by simpa [D.cmp] using h
theorem o2_eqv {f : Bool → Bool} {r : R2} (hr : ∀ x y H Q, (∃ d e, Dp C.K H x d ∧ Dp C.K H y e ∧ SeqAt.shaped d = true ∧ SeqAt.shaped e = true ∧ Q (.bl (f (PyData.eqv d e))) H) → r x y H Q) : Op2 C r (opEqv f) := by
  intro b Z H σ ρ vs as x y a c res Q S e k
  unfold opEqv at e
  split at e
  · rename_i hz
    cases e
    simp only [Bool.and_eq_true] at hz
    obtain ⟨p1, s1⟩ := cmp_of hz.1
    obtain ⟨p2, s2⟩ := cmp_of hz.2
    obtain ⟨Z', S'⟩ := S.freeze2
    exact hr _ _ _ _ ⟨_, _, RepD.dp S'.zh _ _ S'.top2 p1, RepD.dp S'.zh _ _ S'.top p2, s1, s2, k _ _ _ (S'.pop.pop.push (.bl _))⟩
  · cases e
theorem o2_eq : Op2 C (rEqD C.K) opEq := o2_eqv fun _ _ _ _ h => h
theorem o2_ne : Op2 C (rNeD C.K) opNe := o2_eqv fun _ _ _ _ h => h
/-- x is None -/
def isN (d : D) : Bool := match d with
  | .non => true
  | _ => false
def opIsN (a c : A) : Option A := match a, c with
  | .v d, .v .non => some (.v (.bl (isN d)))
  | _, _ => none
def opNotN (a c : A) : Option A := match a, c with
  | .v d, .v .non => some (.v (.bl (!isN d)))
  | _, _ => none
theorem RepD.isN {K : PySem.W.Frag} {mg : Str → Option Value} {Z : Hp} {x : V} {d : D} (h : RepD K mg Z x d) : decide (x = .non) = DD.isN d := by
  cases h <;> simp [DD.isN]
theorem o2_notN : Op2 C (fun x y H Q => y = .non ∧ Q (.bl (!decide (x = .non))) H) opNotN := by
  intro b Z H σ ρ vs as x y a c res Q S e k
  unfold opNotN at e
  split at e
  · cases e
    have t := S.top
    cases t
    exact ⟨rfl, k _ _ _ (S.pop.pop.push (by rw [RepD.isN S.top2]; exact .bl _))⟩
  · cases e
/-- in, not in: flat things in a list or tuple of flat things -/
def D.toV : D → V
  | .non => .non
  | .bl b => .bl b
  | .int i => .int i
  | .str x => .str x
  | _ => .non
def D.flat : D → Bool
  | .non => true
  | .bl _ => true
  | .int _ => true
  | .str _ => true
  | _ => false
theorem RepD.flat {K : PySem.W.Frag} {mg : Str → Option Value} {Z : Hp} {x : V} {d : D} (h : RepD K mg Z x d) (f : d.flat = true) : x = d.toV ∧ flatV x = true := by
  cases h <;> simp_all [D.flat, D.toV, flatV]
theorem RepDs.flat {K : PySem.W.Frag} {mg : Str → Option Value} {Z : Hp} : ∀ {xs : List V} {ds : List D}, RepDs K mg Z xs ds → ds.all D.flat = true → xs = ds.map D.toV ∧ xs.all flatV = true
  | [], _, h, _ => by cases h; exact ⟨rfl, rfl⟩
  | x :: xs, _, h, f => by
    cases h with
    | cons h1 h2 =>
      rw [List.all_cons, Bool.and_eq_true] at f
      obtain ⟨e1, e2⟩ := h1.flat f.1
      obtain ⟨e3, e4⟩ := RepDs.flat h2 f.2
      exact ⟨by rw [List.map_cons, ← e1, ← e3], by rw [List.all_cons, e2, e4]; rfl⟩
def inD (d : D) (ds : List D) : Bool := inV d.toV (ds.map D.toV)
def seqD : D → Option (List D)
  | .tup l => some l
  | .lst l => some l
  | .fz l => some l
  | _ => none
def opIn (f : Bool → Bool) (a c : A) : Option A := match seqD c.frz with
  | some ds => if a.frz.flat && ds.all D.flat then some (.v (.bl (f (inD a.frz ds)))) else none
  | none => none
/-- a sequence's place in the heap -/
theorem RepD.seq {K : PySem.W.Frag} {mg : Str → Option Value} {Z H : Hp} {x : V} {d : D} {ds : List D} (h : RepD K mg Z x d) (z : Same Z H) (e : seqD d = some ds) : ∃ p xs, x = .ref p ∧ (SqL K H p xs ∨ SqT K H p xs) ∧ RepDs K mg Z xs ds := by
  cases h with
  | tup h1 h2 => cases e; exact ⟨_, _, rfl, .inr (sameT z h1), h2⟩
  | lst h1 h2 => cases e; exact ⟨_, _, rfl, .inl (SqL.of (z _ _ h1)), h2⟩
  | fz h1 h2 => cases e; exact ⟨_, _, rfl, .inl (z.seq h1), h2⟩
  | _ => cases e
theorem o2_in {neg : Bool} : Op2 C (rIn C.K neg) (opIn fun k => if neg then !k else k) := by
  intro b Z H σ ρ vs as x y a c res Q S e k
  unfold opIn at e
  split at e
  · rename_i ds hds
    split at e
    · rename_i hz
      cases e
      rw [Bool.and_eq_true] at hz
      obtain ⟨Z', S'⟩ := S.freeze2
      obtain ⟨p, xs, rfl, hs, r⟩ := S'.top.seq S'.zh hds
      obtain ⟨e1, f1⟩ := S'.top2.flat hz.1
      obtain ⟨e2, f2⟩ := r.flat hz.2
      refine ⟨p, xs, rfl, hs, f1, f2, ?_⟩
      have q := k _ _ _ (S'.pop.pop.push (.bl (if neg then !inD a.frz ds else inD a.frz ds)))
      unfold inD at q
      rw [← e1, ← e2] at q
      cases neg <;> exact q
    · cases e
  · cases e
def opIx (a c : A) : Option A := match c with
  | .v (.int i) => (match a.frz with
    | .str z => (match atI z.cps.toList i with
      | some n => if z.length ≤ sizeLine then some (.v (.str ⟨#[n]⟩)) else none
      | none => none)
    | d => (match seqD d with
      | some ds => (match atI ds i with
        | some e => some (.v e)
        | none => none)
      | none => none))
  | _ => none
theorem atI_rep {K : PySem.W.Frag} {mg : Str → Option Value} {Z : Hp} {xs : List V} {ds : List D} {i : Int} {d : D} (h : RepDs K mg Z xs ds) (e : atI ds i = some d) : ∃ x, atI xs i = some x ∧ RepD K mg Z x d := by
  unfold atI at e ⊢
  rw [h.length]
  cases q : ixN ds.length i with
  | none => rw [q] at e; cases e
  | some j =>
    rw [q] at e
    exact h.get e
theorem ix_of {K : PySem.W.Frag} {mg : Str → Option Value} {b : Base} {Z H : Hp} {σ : St} {ρ : DEnv} {vs : List V} {as : List A} {x : V} {d : D} {ds : List D} {i : Int} {e : D} {Q : VK} (S : Sta K mg b Z H σ ρ (x :: vs) (.v d :: as)) (hds : seqD d = some ds) (he : atI ds i = some e)
    (k : ∀ Z' H' v, Sta K mg b Z' H' σ ρ (v :: vs) (.v e :: as) → Q v H') : rIx K x (.int i) H Q := by
  obtain ⟨p, xs, rfl, hs, r⟩ := S.top.seq S.zh hds
  obtain ⟨y, e1, r1⟩ := atI_rep r he
  rcases hs with hs | hs
  · exact .inl ⟨p, xs, i, y, rfl, rfl, hs, e1, k _ _ _ (S.pop.push r1)⟩
  · exact .inr (.inl ⟨p, xs, i, y, rfl, rfl, hs, e1, k _ _ _ (S.pop.push r1)⟩)
theorem o2_ix : Op2 C (rIx C.K) opIx := by
  intro b Z H σ ρ vs as x y a c res Q S e k
  obtain ⟨Z', S'⟩ := S.freeze2
  unfold opIx at e
  split at e
  · rename_i i
    have t := S'.top
    simp only [A.frz] at t
    cases t
    split at e
    · rename_i z hz
      split at e
      · rename_i n hn
        split at e
        · rename_i hl
          cases e
          rw [hz] at S'
          have t2 := S'.top2
          cases t2
          exact .inr (.inr ⟨z, i, n, rfl, rfl, hl, hn, k _ _ _ (S'.pop.pop.push (.str _))⟩)
        · cases e
      · cases e
    · split at e
      · rename_i ds hds
        split at e
        · rename_i d' hd
          cases e
          exact ix_of S'.pop hds hd k
        · cases e
      · cases e
  · cases e
end
end DD

namespace DD
open PySem PySem.Spec L2
open PyProof.Rows hiding St
variable [LamN]

/-- what a def makes of its arguments: the value, and what its lent arguments hold then -/
inductive FR where
  | ok (a : A) (l : List A)
  | exc (e : Ex) (l : List A)
  | bad
abbrev Fn := List A → FR
def okArgs (pn : List Nat) : Nat → List A → Bool
  | _, [] => true
  | i, .v _ :: as => !pn.contains i && okArgs pn (i + 1) as
  | i, _ :: as => pn.contains i && okArgs pn (i + 1) as
def lentL (pn : List Nat) : Nat → List A → DEnv → Option (List A)
  | _, [], _ => some []
  | _, _ :: _, [] => none
  | i, a :: as, s :: ρ => if pn.contains i then (match s with
      | some c => (lentL pn (i + 1) as ρ).map (c :: ·)
      | none => none)
    else (lentL pn (i + 1) as ρ).map (a :: ·)
/-- a def of n parameters and N names by its body; pn: the parameters that it may change -/
def dFn (n N : Nat) (pn : List Nat) (body : M Flow) : Fn := fun as =>
  if as.length = n ∧ okArgs pn 0 as = true then
    match body (as.map some ++ List.replicate (N - n) none) with
    | .ok fl ρ => (match lentL pn 0 as ρ with
      | some l => (match fl with
        | .ret a => .ok a l
        | .nx => .ok (.v .non) l
        | _ => .bad)
      | none => .bad)
    | .exc e ρ => (match lentL pn 0 as ρ with
      | some l => .exc e l
      | none => .bad)
    | .bad => .bad
  else .bad

section
variable (K : PySem.W.Frag) (mg : Str → Option Value)
/-- values with the footprint of each -/
inductive RepL (Z H : Hp) : List V → List A → List (List Addr) → Prop
  | nil : RepL Z H [] [] []
  | cons {x : V} {xs : List V} {a : A} {as : List A} {f : List Addr} {fs : List (List Addr)} : RepA K mg Z H x a f → RepL Z H xs as fs → RepL Z H (x :: xs) (a :: as) (f :: fs)
end
/-- behind a call -/
structure After (K : PySem.W.Frag) (Z H : Hp) (fs : List (List Addr)) (Z' H' : Hp) : Prop where
  zz : Same Z Z'
  zh : Same Z' H'
  kz : ∀ a, ¬ Fre H a → Z' a = Z a
  kh : ∀ a o, H a = some o → a ∉ fs.flatten → (∀ ps, o ≠ .tbl ps) → H' a = some o
  kd : ∀ a, Fre H' a → Fre H a
  tb : LamX.Tabs (tabT K) H'
  nt : ∀ a ps, Z' a ≠ some (.tbl ps)
def spD (K : PySem.W.Frag) (mg : Str → Option Value) (F : Fn) : Sp := fun vs H Q E => ∃ Z as fs, (Same Z H ∧ LamX.Tabs (tabT K) H ∧ ∀ a ps, Z a ≠ some (.tbl ps)) ∧ RepL K mg Z H vs as fs ∧ (∀ y, fs.flatten.count y ≤ 1) ∧ (∀ a ∈ fs.flatten, Z a = none) ∧
  match F as with
  | .ok r l => ∀ Z' H' v fr fs', After K Z H fs Z' H' → RepA K mg Z' H' v r fr → RepL K mg Z' H' vs l fs' → (∀ y, fr.count y + fs'.flatten.count y ≤ 1) → (∀ a, a ∈ fr ∨ a ∈ fs'.flatten → Z' a = none) → (∀ a ∈ fr, Fre H a) →
      (∀ (i : Nat) (f f' : List Addr), fs[i]? = some f → fs'[i]? = some f' → ∀ a ∈ f', a ∈ f ∨ Fre H a) → Q v H'
  | .exc e l => ∀ Z' H' cls d fs', After K Z H fs Z' H' → ExR K mg Z' cls d e → RepL K mg Z' H' vs l fs' → (∀ y, fs'.flatten.count y ≤ 1) → (∀ a ∈ fs'.flatten, Z' a = none) →
      (∀ (i : Nat) (f f' : List Addr), fs[i]? = some f → fs'[i]? = some f' → ∀ a ∈ f', a ∈ f ∨ Fre H a) → E cls d H'
  | .bad => False

section
variable {K : PySem.W.Frag} {mg : Str → Option Value} {Z Z' H H' : Hp}
theorem RepL.length : ∀ {xs : List V} {as : List A} {fs : List (List Addr)}, RepL K mg Z H xs as fs → xs.length = as.length
  | [], _, _, h => by cases h; rfl
  | _ :: _, _, _, h => by
    cases h with
    | cons _ h => simp [RepL.length h]
theorem RepL.lengthf : ∀ {xs : List V} {as : List A} {fs : List (List Addr)}, RepL K mg Z H xs as fs → xs.length = fs.length
  | [], _, _, h => by cases h; rfl
  | _ :: _, _, _, h => by
    cases h with
    | cons _ h => simp [RepL.lengthf h]
theorem SRep.blank {P : Nat → Addr → Prop} : ∀ {n : Nat} (m : Nat), SRep K mg P Z H n (List.replicate m none) (List.replicate m none) []
  | _, 0 => .nil
  | _, m + 1 => .no (SRep.blank m)
/-- the slots at a def's entry -/
theorem SRep.start {P : Nat → Addr → Prop} : ∀ {vs : List V} {as : List A} {fs : List (List Addr)} {n : Nat} (m : Nat), RepL K mg Z H vs as fs → (∀ i f, fs[i]? = some f → ∀ a ∈ f, P (n + i) a) →
    SRep K mg P Z H n (vs.map some ++ List.replicate m none) (as.map some ++ List.replicate m none) fs.flatten
  | [], _, _, n, m, h, _ => by
    cases h
    exact SRep.blank m
  | v :: vs, _, _, n, m, h, p => by
    cases h with
    | @cons _ _ a as f fs h1 h2 =>
      refine .so h1 (fun b hb => p 0 f rfl b hb) (SRep.start m h2 fun i g hg a ha => ?_)
      have := p (i + 1) g (by simpa using hg) a ha
      rwa [Nat.add_right_comm, Nat.add_assoc]
/-- what the lent parameters hold at the end -/
theorem SRep.lent {P : Nat → Addr → Prop} {pn : List Nat} : ∀ {vs : List V} {as : List A} {fs : List (List Addr)} {n : Nat} {σ : St} {ρ : DEnv} {f : List Addr} {l : List A}, RepL K mg Z H vs as fs → okArgs pn n as = true → Same Z Z' → SRep K mg P Z' H' n σ ρ f →
    (∀ i, n + i ∈ pn → i < vs.length → σ[i]? = some (vs[i]?)) → lentL pn n as ρ = some l → ∃ fs', RepL K mg Z' H' vs l fs' ∧ (∀ y, fs'.flatten.count y ≤ f.count y) ∧ ∀ i f', fs'[i]? = some f' → ∀ a ∈ f', P (n + i) a
  | [], _, _, _, _, _, _, _, h, _, _, _, _, e => by
    cases h
    simp only [lentL, Option.some.injEq] at e
    subst e
    exact ⟨[], .nil, fun y => by simp, fun i f' e => by simp at e⟩
  | v :: vs, _, _, n, σ, ρ, f, l, h, ok, zz, hs, pin, e => by
    cases h with
    | @cons _ _ a as fa fs h1 h2 =>
      cases hs with
      | nil => simp [lentL] at e
      | @no _ s σ ρ f hs =>
        have pin' : ∀ i, n + 1 + i ∈ pn → i < vs.length → σ[i]? = some (vs[i]?) := fun i hi hl => by
          have := pin (i + 1) (by rwa [Nat.add_right_comm, Nat.add_assoc] at hi) (by simpa using hl)
          simpa using this
        unfold lentL at e
        split at e
        · cases e
        · rename_i hn
          cases h1 with
          | v r =>
            simp only [okArgs, Bool.and_eq_true] at ok
            cases q : lentL pn (n + 1) as ρ with
            | none => rw [q] at e; cases e
            | some l' =>
              rw [q] at e
              cases e
              obtain ⟨fs', r1, c1, p1⟩ := SRep.lent h2 ok.2 zz hs pin' q
              refine ⟨[] :: fs', .cons (.v (RepD.mono zz _ _ r)) r1, fun y => by simpa using c1 y, fun i f' ef => ?_⟩
              cases i with
              | zero => simp at ef; subst ef; intro a ha; cases ha
              | succ i =>
                intro a ha
                have := p1 i f' (by simpa using ef) a ha
                rwa [Nat.add_right_comm, Nat.add_assoc] at this
          | m _ _ => simp only [okArgs, Bool.and_eq_true] at ok; exact absurd ok.1 hn
          | mi _ _ _ => simp only [okArgs, Bool.and_eq_true] at ok; exact absurd ok.1 hn
          | t _ _ => simp only [okArgs, Bool.and_eq_true] at ok; exact absurd ok.1 hn
      | @so _ x c σ ρ fc f hc pc hs =>
        have pin' : ∀ i, n + 1 + i ∈ pn → i < vs.length → σ[i]? = some (vs[i]?) := fun i hi hl => by
          have := pin (i + 1) (by rwa [Nat.add_right_comm, Nat.add_assoc] at hi) (by simpa using hl)
          simpa using this
        have ok' : okArgs pn (n + 1) as = true := by
          cases a <;> simp only [okArgs, Bool.and_eq_true] at ok <;> exact ok.2
        unfold lentL at e
        split at e
        · rename_i hn
          have ex : x = v := by
            have := pin 0 (by simpa using hn) (by simp)
            simpa using this
          subst ex
          dsimp only at e
          cases q : lentL pn (n + 1) as ρ with
          | none => rw [q] at e; cases e
          | some l' =>
            rw [q] at e
            cases e
            obtain ⟨fs', r1, c1, p1⟩ := SRep.lent h2 ok' zz hs pin' q
            refine ⟨fc :: fs', .cons hc r1, fun y => ?_, fun i f' ef => ?_⟩
            · have := c1 y
              rw [List.flatten_cons, List.count_append, List.count_append]; omega
            · cases i with
              | zero => simp at ef; subst ef; exact pc
              | succ i =>
                intro a ha
                have := p1 i f' (by simpa using ef) a ha
                rwa [Nat.add_right_comm, Nat.add_assoc] at this
        · rename_i hn
          cases h1 with
          | v r =>
            cases q : lentL pn (n + 1) as ρ with
            | none => rw [q] at e; cases e
            | some l' =>
              rw [q] at e
              cases e
              obtain ⟨fs', r1, c1, p1⟩ := SRep.lent h2 ok' zz hs pin' q
              refine ⟨[] :: fs', .cons (.v (RepD.mono zz _ _ r)) r1, fun y => ?_, fun i f' ef => ?_⟩
              · have := c1 y
                rw [List.flatten_cons, List.nil_append, List.count_append]; omega
              · cases i with
                | zero => simp at ef; subst ef; intro a ha; cases ha
                | succ i =>
                  intro a ha
                  have := p1 i f' (by simpa using ef) a ha
                  rwa [Nat.add_right_comm, Nat.add_assoc] at this
          | m _ _ => simp only [okArgs, Bool.and_eq_true] at ok; exact absurd ok.1 hn
          | mi _ _ _ => simp only [okArgs, Bool.and_eq_true] at ok; exact absurd ok.1 hn
          | t _ _ => simp only [okArgs, Bool.and_eq_true] at ok; exact absurd ok.1 hn
/-- of parameters that are not lent nothing is owned -/
theorem okArgs_fp {pn : List Nat} : ∀ {vs : List V} {as : List A} {fs : List (List Addr)} {n : Nat}, RepL K mg Z H vs as fs → okArgs pn n as = true → ∀ i f, fs[i]? = some f → ∀ a ∈ f, n + i ∈ pn
  | [], _, _, _, h, _, i, f, e, _, _ => by cases h; simp at e
  | v :: vs, _, _, n, h, ok, i, f, e, q, hq => by
    cases h with
    | @cons _ _ a as fa fs h1 h2 =>
      cases i with
      | zero =>
        simp at e; subst e
        cases h1 with
        | v r => cases hq
        | m _ _ => simp only [okArgs, Bool.and_eq_true] at ok; simpa using ok.1
        | mi _ _ _ => simp only [okArgs, Bool.and_eq_true] at ok; simpa using ok.1
        | t _ _ => simp only [okArgs, Bool.and_eq_true] at ok; simpa using ok.1
      | succ i =>
        have ok' : okArgs pn (n + 1) as = true := by
          cases a <;> simp only [okArgs, Bool.and_eq_true] at ok <;> exact ok.2
        have := okArgs_fp h2 ok' i f (by simpa using e) q hq
        rwa [Nat.add_right_comm, Nat.add_assoc] at this
end

section
variable {P : Program} {w : World} {K : PySem.W.Frag} {mg : Str → Option Value} {base : Heap}
/-- a def's body keeps what it makes: no exception leaves it -/
theorem body_ok {n N : Nat} {pn : List Nat} {body : M Flow} {F : Fn} (hF : ∀ as, F as ≠ .bad → F as = dFn n N pn body as) {vs : List V} {H : Hp} {Q : VK} {E : XK} {W : WX} (hW : ∀ cls d σ H', E cls d H' → W cls d σ H') (h : spD K mg F vs H Q E) (hn : n ≤ N) :
    vs.length = n ∧ tS ⟨K, mg, W, pn, []⟩ body { nx := fun _ H' => Q .non H', rt := Q } (vs.map some ++ List.replicate (N - n) none) H := by
  obtain ⟨Z, as, fs, ⟨zh, tb, nt⟩, r, c1, zn, h⟩ := h
  have nb : F as ≠ .bad := fun e => by rw [e] at h; exact h
  rw [hF as nb] at h
  unfold dFn at h
  by_cases ok : as.length = n ∧ okArgs pn 0 as = true
  · rw [if_pos ok] at h
    have hl : vs.length = n := r.length.trans ok.1
    refine ⟨hl, ⟨Z, H, fun i a => ∃ f, fs[i]? = some f ∧ a ∈ f, pn, vs.map some ++ List.replicate (N - n) none, []⟩, Z, as.map some ++ List.replicate (N - n) none, [], [], ⟨rfl, rfl⟩, rfl, ?_, ?_⟩
    · refine ⟨Same.refl Z, zh, fun _ _ => rfl, fun _ _ e _ _ => e, fun _ e => e, ⟨tb, nt, fun _ h => by cases h⟩, fun _ _ => rfl, fun i a ⟨f, e, ha⟩ => ?_, fs.flatten, [], ?_, .nil, fun y => by simpa using c1 y, fun a ha => ?_, fun a ha => by cases ha⟩
      · have := okArgs_fp r ok.2 i f e a ha
        simpa using this
      · exact SRep.start _ r fun i f e a ha => .inl ⟨f, by simpa using e, ha⟩
      · rcases ha with ha | ha
        · exact zn a ha
        · cases ha
    · -- the end
      have pinE : ∀ {σ' : St}, (∀ i ∈ pn, σ'[i]? = (vs.map some ++ List.replicate (N - n) none)[i]?) → ∀ i, 0 + i ∈ pn → i < vs.length → σ'[i]? = some (vs[i]?) := fun {σ'} hp i hi hlt => by
        rw [Nat.zero_add] at hi
        rw [hp i hi, List.getElem?_append_left (by simpa using hlt), List.getElem?_map, List.getElem?_eq_getElem hlt]
        rfl
      have aft : ∀ {Z' H' : Hp} {σ' : St} {ρ' : DEnv} {ws : List V} {bs : List A}, Sta K mg ⟨Z, H, fun i a => ∃ f, fs[i]? = some f ∧ a ∈ f, pn, vs.map some ++ List.replicate (N - n) none, []⟩ Z' H' σ' ρ' ws bs → After K Z H fs Z' H' := fun S =>
        ⟨S.zz, S.zh, S.kz, fun a o e ha n => S.kh a o e (fun i ⟨f, ef, haf⟩ => ha (List.mem_flatten.mpr ⟨f, List.mem_of_getElem? ef, haf⟩)) n, S.kd, S.sd.tabs, S.sd.nt⟩
      have own : ∀ {fs' : List (List Addr)} {i : Nat} {f f' : List Addr}, fs[i]? = some f → fs'[i]? = some f' → (∀ i f', fs'[i]? = some f' → ∀ a ∈ f', Base.Own ⟨Z, H, fun i a => ∃ f, fs[i]? = some f ∧ a ∈ f, pn, vs.map some ++ List.replicate (N - n) none, []⟩ (0 + i) a) → ∀ a ∈ f', a ∈ f ∨ Fre H a :=
        fun {fs' i f f'} e1 e2 p a ha => by
          rcases p i f' e2 a ha with ⟨g, eg, hg⟩ | z
          · rw [Nat.zero_add, e1] at eg; cases eg; exact .inl hg
          · exact .inr z
      cases eb : body (as.map some ++ List.replicate (N - n) none) with
      | bad => rw [eb] at h; exact h.elim
      | exc e ρ' =>
        rw [eb] at h
        dsimp only at h
        cases el : lentL pn 0 as ρ' with
        | none => rw [el] at h; exact h.elim
        | some l =>
          rw [el] at h
          intro Z' H' σ' cls d S x
          obtain ⟨f, g, h1, h2, h3, h4, h5⟩ := S.rep
          cases h2
          obtain ⟨fs', r1, c2, p1⟩ := SRep.lent r ok.2 S.zz h1 (pinE S.pin) el
          exact hW _ _ _ _ (h Z' H' cls d fs' (aft S) x r1 (fun y => by have := c2 y; have := h3 y; omega) (fun a ha => h4 a (.inl (count_mem (by have := c2 a; have := mem_count ha; omega)))) fun i f f' e1 e2 => own e1 e2 p1)
      | ok fl ρ' =>
        rw [eb] at h
        dsimp only at h
        cases el : lentL pn 0 as ρ' with
        | none => rw [el] at h; exact h.elim
        | some l =>
          rw [el] at h
          have fin : ∀ {r0 : A} {Z' H' : Hp} {σ' : St} {v : V}, (∀ Z' H' v fr fs', After K Z H fs Z' H' → RepA K mg Z' H' v r0 fr → RepL K mg Z' H' vs l fs' → (∀ y, fr.count y + fs'.flatten.count y ≤ 1) → (∀ a, a ∈ fr ∨ a ∈ fs'.flatten → Z' a = none) → (∀ a ∈ fr, Fre H a) →
              (∀ (i : Nat) (f f' : List Addr), fs[i]? = some f → fs'[i]? = some f' → ∀ a ∈ f', a ∈ f ∨ Fre H a) → Q v H') → Sta K mg ⟨Z, H, fun i a => ∃ f, fs[i]? = some f ∧ a ∈ f, pn, vs.map some ++ List.replicate (N - n) none, []⟩ Z' H' σ' ρ' [v] [r0] → Q v H' := fun {r0 Z' H' σ' v} hq S => by
            obtain ⟨f, g, h1, h2, h3, h4, h5⟩ := S.rep
            cases h2 with
            | @cons _ _ _ _ fr g0 hr hn0 =>
              cases hn0
              obtain ⟨fs', r1, c2, p1⟩ := SRep.lent r ok.2 S.zz h1 (pinE S.pin) el
              refine hq Z' H' v fr fs' (aft S) hr r1 (fun y => ?_) (fun a ha => ?_) (fun a ha => h5 a (List.mem_append_left _ ha)) fun i f f' e1 e2 => own e1 e2 p1
              · have := c2 y; have := h3 y; rw [List.append_nil] at this; omega
              · rcases ha with ha | ha
                · exact h4 a (.inr (List.mem_append_left _ ha))
                · exact h4 a (.inl (count_mem (by have := c2 a; have := mem_count ha; omega)))
          cases fl with
          | nx => exact fun Z' H' σ' S => fin (v := .non) h (S.push .non)
          | ret a => exact fun Z' H' σ' v S => fin h S
          | bk => exact h.elim
          | ct => exact h.elim
  · rw [if_neg ok] at h
    exact h.elim

/-- a def, without exceptions -/
theorem fn_ok {x qual : Str} {st : Stmt} {f : Addr} {fd : FuncData} {Ns ps : List Str} {k : Nat} {pn : List Nat} {body : M Flow} {F : Fn} (Fu : Fun K x qual st f fd) (S : FnScope Ns ps (defScope st))
    (hF : ∀ as, F as ≠ .bad → F as = dFn ps.length Ns.length pn body as)
    (hb : ∀ (cdv : Value) (A : Around) (outer : List PySem.Env) (s : Shared) (H : Hp) (E : XK), Room k (A.deeper (envOfC qual (defScope st) s.heap.objs.size f cdv)) →
      PSs (cxOf CX0 P w K mg base Ns qual (defScope st) f cdv A outer s H E).nox (defBody st) (tS ⟨K, mg, fun _ _ _ _ => False, pn, []⟩ body)) : FnOk P w K mg base CX0 (k + 1) f fd ps (fun vs H Q _ => spD K mg F vs H Q fun _ _ _ => False) := by
  have hn : ps.length ≤ Ns.length := by have := congrArg List.length S.pre; rw [List.length_take] at this; omega
  refine Fu.ok S (fun vs H Q E h => (body_ok (W := fun _ _ _ _ => False) hF (fun _ _ _ _ z => z) h hn).1) fun cdv A outer s H vs Q E hr h => ?_
  obtain ⟨hl, ht⟩ := body_ok (W := fun _ _ _ _ => False) hF (fun _ _ _ _ z => z) h hn
  refine ⟨_, hb cdv A outer s H E hr, ?_⟩
  unfold L2.start
  rw [hl]
  exact ht
end

/-- an argument: a value, or the list of a slot by its place -/
inductive AV where
  | val (a : A)
  | ref (i : Nat)
inductive ArgR (σ : St) : List V → List AV → List V → List A → Prop
  | nil : ArgR σ [] [] [] []
  | val {w : V} {ws : List V} {a : A} {l : List AV} {pv : List V} {pa : List A} : ArgR σ ws l pv pa → ArgR σ (w :: ws) (.val a :: l) (w :: pv) (a :: pa)
  | ref {w : V} {ws : List V} {i : Nat} {l : List AV} {pv : List V} {pa : List A} : σ[i]? = some (some w) → ArgR σ ws l pv pa → ArgR σ (w :: ws) (.ref i :: l) pv pa
def finV (C : SC) (σ : St) (Q : List V → Hp → Prop) : Fin (List AV) := fun b vs as l ρ => ∀ Z' H' ws pv pa, ArgR σ ws l pv pa → Sta C.K C.mg b Z' H' σ ρ (pv ++ vs) (pa ++ as) → Q ws H'
def tV (C : SC) (f : M (List AV)) : TA := fun σ H Q => Go C (finV C σ Q) [] [] f σ H
def vNil : M (List AV) := M.pure []
def vVal (own : Bool) (f : M A) (fs : M (List AV)) : M (List AV) := f.bind fun a => fs.bind fun l => M.pure (.val (frzB own a) :: l)
def vRef (i : Nat) (fs : M (List AV)) : M (List AV) := fun ρ => match ρ[i]? with
  | some (some _) => (fs.bind fun l => M.pure (.ref i :: l)) ρ
  | _ => .bad
def gath : List AV → DEnv → Option (List A × DEnv)
  | [], ρ => some ([], ρ)
  | .val a :: l, ρ => (gath l ρ).map fun q => (a :: q.1, q.2)
  | .ref i :: l, ρ => match ρ[i]? with
    | some (some a) => (gath l (ρ.set i none)).map fun q => (a :: q.1, q.2)
    | _ => none
def back : List AV → List A → DEnv → DEnv
  | .ref i :: l, a :: as, ρ => back l as (ρ.set i (some a))
  | .val _ :: l, _ :: as, ρ => back l as ρ
  | _, _, ρ => ρ
def dCall (F : Fn) (fs : M (List AV)) (ds : List D) : M A := fs.bind fun l ρ => match gath l ρ with
  | none => .bad
  | some q => match F (q.1 ++ ds.map .v) with
    | .ok r l' => .ok r (back l l' q.2)
    | .exc e l' => .exc e (back l l' q.2)
    | .bad => .bad
section
variable {K : PySem.W.Frag} {mg : Str → Option Value} {Z Z' H H' : Hp}
theorem ArgR.length {σ : St} : ∀ {ws : List V} {l : List AV} {pv : List V} {pa : List A}, ArgR σ ws l pv pa → ws.length = l.length ∧ pv.length = pa.length
  | [], _, _, _, h => by cases h; exact ⟨rfl, rfl⟩
  | _ :: _, _, _, _, h => by
    cases h with
    | val h => obtain ⟨h1, h2⟩ := ArgR.length h; simp [h1, h2]
    | ref _ h => obtain ⟨h1, h2⟩ := ArgR.length h; simp [h1, h2]
theorem gath_rep {P : Nat → Addr → Prop} {σ : St} : ∀ {ws : List V} {l : List AV} {pv : List V} {pa : List A} {ρ ρ1 : DEnv} {f g : List Addr} {as1 : List A}, SRep K mg P Z H 0 σ ρ f → RepAs K mg Z H pv pa g → ArgR σ ws l pv pa → gath l ρ = some (as1, ρ1) →
    ∃ f1 fs, SRep K mg P Z H 0 σ ρ1 f1 ∧ RepL K mg Z H ws as1 fs ∧ (∀ y, f1.count y + fs.flatten.count y = f.count y + g.count y) ∧ (∀ (k i : Nat) (f' : List Addr), l[k]? = some (.ref i) → fs[k]? = some f' → ∀ a ∈ f', P i a) ∧
      ∀ (k : Nat) (c : A) (f' : List Addr), l[k]? = some (.val c) → fs[k]? = some f' → ∀ y ∈ f', y ∈ g
  | [], _, _, _, ρ, ρ1, f, g, as1, hs, hp, h, e => by
    cases h
    cases hp
    simp only [gath, Option.some.injEq, Prod.mk.injEq] at e
    obtain ⟨e1, e2⟩ := e
    subst e1 e2
    exact ⟨f, [], hs, .nil, fun y => by simp, fun k i f' e => by simp at e, fun k c f' e => by simp at e⟩
  | w :: ws, _, _, _, ρ, ρ1, f, g, as1, hs, hp, h, e => by
    cases h with
    | @val _ _ a l pv pa h =>
      cases hp with
      | @cons _ _ _ _ fa g0 h1 h2 =>
        unfold gath at e
        cases q : gath l ρ with
        | none => rw [q] at e; cases e
        | some z =>
          rw [q] at e
          simp only [Option.map_some, Option.some.injEq, Prod.mk.injEq] at e
          obtain ⟨e1, e2⟩ := e
          subst e1 e2
          obtain ⟨f1, fs, r1, r2, c1, p1, p2⟩ := gath_rep hs h2 h q
          refine ⟨f1, fa :: fs, r1, .cons h1 r2, fun y => by have := c1 y; rw [List.flatten_cons, List.count_append, List.count_append]; omega, fun k i f' ek ef => ?_, fun k c f' ek ef => ?_⟩
          · cases k with
            | zero => simp at ek
            | succ k => exact p1 k i f' (by simpa using ek) (by simpa using ef)
          · cases k with
            | zero => simp at ef; subst ef; exact fun y hy => List.mem_append_left _ hy
            | succ k => exact fun y hy => List.mem_append_right _ (p2 k c f' (by simpa using ek) (by simpa using ef) y hy)
    | @ref _ _ i l pv pa hw h =>
      unfold gath at e
      split at e
      · rename_i a ha
        cases q : gath l (ρ.set i none) with
        | none => rw [q] at e; cases e
        | some z =>
          rw [q] at e
          simp only [Option.map_some, Option.some.injEq, Prod.mk.injEq] at e
          obtain ⟨e1, e2⟩ := e
          subst e1 e2
          obtain ⟨x, fa, f0, ex, ra, pw, rs, cn⟩ := hs.out ha
          have exw : x = w := by rw [hw] at ex; cases ex; rfl
          subst exw
          obtain ⟨f1, fs, r1, r2, c1, p1, p2⟩ := gath_rep rs hp h q
          refine ⟨f1, fa :: fs, r1, .cons ra r2, fun y => by have := c1 y; have := cn y; rw [List.flatten_cons, List.count_append]; omega, fun k j f' ek ef => ?_, fun k c f' ek ef => ?_⟩
          · cases k with
            | zero =>
              simp at ek ef
              subst ek ef
              intro y hy
              have := pw y hy
              rwa [Nat.zero_add] at this
            | succ k => exact p1 k j f' (by simpa using ek) (by simpa using ef)
          · cases k with
            | zero => simp at ek
            | succ k => exact p2 k c f' (by simpa using ek) (by simpa using ef)
      · cases e
theorem back_rep {P : Nat → Addr → Prop} {σ : St} : ∀ {ws ys : List V} {l : List AV} {pv : List V} {pa : List A} {ρ : DEnv} {f : List Addr} {as1 : List A} {fs : List (List Addr)}, SRep K mg P Z H 0 σ ρ f → RepL K mg Z H (ws ++ ys) as1 fs → ArgR σ ws l pv pa →
    (∀ (k i : Nat) (f' : List Addr), l[k]? = some (.ref i) → fs[k]? = some f' → ∀ a ∈ f', P i a) → ∃ f2, SRep K mg P Z H 0 σ (back l as1 ρ) f2 ∧ ∀ y, f2.count y ≤ f.count y + fs.flatten.count y
  | [], ys, _, _, _, ρ, f, as1, fs, hs, hp, h, p => by
    cases h
    exact ⟨f, by unfold back; exact hs, fun y => Nat.le_add_right _ _⟩
  | w :: ws, ys, _, _, _, ρ, f, as1, fs, hs, hp, h, p => by
    cases hp with
    | @cons _ _ a as1 fa fs h1 h2 =>
      cases h with
      | @val _ _ c l pv pa h =>
        obtain ⟨f2, r, c2⟩ := back_rep hs h2 h fun k i f' ek ef => p (k + 1) i f' (by simpa using ek) (by simpa using ef)
        exact ⟨f2, by unfold back; exact r, fun y => by have := c2 y; rw [List.flatten_cons, List.count_append]; omega⟩
      | @ref _ _ i l pv pa hw h =>
        obtain ⟨f1, r1, c1⟩ := hs.into (i := i) (List.getElem?_eq_some_iff.mp hw).1 h1 (fun y hy => by rw [Nat.zero_add]; exact p 0 i fa rfl rfl y hy)
        rw [set_same hw] at r1
        obtain ⟨f2, r, c2⟩ := back_rep r1 h2 h fun k j f' ek ef => p (k + 1) j f' (by simpa using ek) (by simpa using ef)
        exact ⟨f2, by unfold back; exact r, fun y => by have := c2 y; have := c1 y; rw [List.flatten_cons, List.count_append]; omega⟩
theorem RepL.append : ∀ {xs ys : List V} {as bs : List A} {fs gs : List (List Addr)}, RepL K mg Z H xs as fs → RepL K mg Z H ys bs gs → RepL K mg Z H (xs ++ ys) (as ++ bs) (fs ++ gs)
  | [], _, _, _, _, _, h, g => by cases h; exact g
  | _ :: _, _, _, _, _, _, h, g => by
    cases h with
    | cons h1 h2 => exact .cons h1 (RepL.append h2 g)
theorem RepDs.toL : ∀ {xs : List V} {ds : List D}, RepDs K mg Z xs ds → RepL K mg Z H xs (ds.map .v) (ds.map fun _ => [])
  | [], _, h => by cases h; exact .nil
  | x :: xs, _, h => by
    cases h with
    | cons h1 h2 => exact .cons (.v h1) (RepDs.toL h2)
theorem flatten_nils {α β : Type} : ∀ l : List α, (l.map fun _ => ([] : List β)).flatten = []
  | [] => rfl
  | _ :: l => by rw [List.map_cons, List.flatten_cons, flatten_nils l]; rfl
end
section
variable {X : Cx} {C : SC} {e : Expr} {es : List Expr} {f : M A} {fs : M (List AV)} {pos p : Pos} {i : Nat} {x : Str}
theorem dv_nil : PA X [] (tV C vNil) := PA.w pa_nil fun σ H Q ⟨b, Z, ρ, vs, as, hb, hl, S, k⟩ => k _ _ [] [] [] .nil S
theorem Go.bindV {α : Type} {fin : Fin α} {ps : List V} {pa : List A} {σ : St} {H : Hp} {f : M (List AV)} {g : List AV → M α} (h : Go C fin ps pa (f.bind g) σ H) : tV C f σ H (fun ws H1 => ∃ l pv qa, ArgR σ ws l pv qa ∧ Go C fin (pv ++ ps) (qa ++ pa) (g l) σ H1) := by
  obtain ⟨b, Z, ρ, vs, as, hb, hl, S, h⟩ := h
  refine ⟨b, Z, ρ, ps ++ vs, pa ++ as, hb, rfl, S, R.sat_mono (R.sat_bind h) (fun l ρ' q Z' H' ws pv qa r S' => ?_) fun e ρ' q => q.pops hl⟩
  exact ⟨l, pv, qa, r, b, Z', ρ', vs, as, hb, by simp [hl, r.length.2], by rw [List.append_assoc, List.append_assoc]; exact S', q⟩
theorem tV.mono {f : M (List AV)} {Q Q' : List V → Hp → Prop} {σ : St} {H : Hp} (h : tV C f σ H Q) (k : ∀ v H', Q v H' → Q' v H') : tV C f σ H Q' := by
  obtain ⟨b, Z, ρ, vs, as, hb, hl, S, h⟩ := h
  exact ⟨b, Z, ρ, vs, as, hb, hl, S, R.sat_mono h (fun a ρ' q Z' H' ws pv pa r S' => k _ _ (q Z' H' ws pv pa r S')) fun _ _ q => q⟩
theorem dv_val (own : Bool) (ha : PE X e (tE C f)) (hr : PA X es (tV C fs)) (hs : starEach (e :: es) X.env = (false, eval e X.env) :: starEach es X.env := by rfl) : PA X (e :: es) (tV C (vVal own f fs)) := by
  refine PA.w (pa_cons ha hr hs) fun σ H Q k => ?_
  refine (Go.bindE k).mono fun y H1 ⟨u, k1⟩ => (Go.bindV k1).mono fun ws H2 ⟨l, pv, qa, r, b, Z, ρ, vs, as, hb, _, S, k2⟩ => ?_
  have S' : Sta C.K C.mg b Z H2 σ ρ (pv ++ y :: vs) (qa ++ u :: as) := by simpa using S
  have S2 := S'.rot r.length.2
  cases own with
  | true => exact k2 _ _ (y :: ws) (y :: pv) (u :: qa) (.val r) S2
  | false =>
    obtain ⟨Z', _, S3⟩ := S2.freeze
    exact k2 _ _ (y :: ws) (y :: pv) (.v u.frz :: qa) (.val r) S3
theorem dv_ref (hN : X.N[i]? = some x) (hv : Vis X.env.scope x) (hr : PA X es (tV C fs)) (hd : (x == ("__debug__" : Str)) = false := by decide) (hcd : (x == ("__classdict__" : Str)) = false := by decide)
    (hs : starEach (.Name x p :: es) X.env = (false, eval (.Name x p) X.env) :: starEach es X.env := by rfl) : PA X (.Name x p :: es) (tV C (vRef i fs)) := by
  refine PA.w (pa_cons (pe_var hN hv hd hcd) hr hs) fun σ H Q ⟨b, Z, ρ, vs, as, hb, hl, S, k⟩ => ?_
  unfold vRef at k
  split at k
  · rename_i a ha
    obtain ⟨ff, g, h1, _⟩ := S.rep
    obtain ⟨y, fa, f0, ey, _⟩ := h1.out ha
    refine ⟨y, ey, ?_⟩
    have k' : Go C (finV C σ Q) [] [] (fs.bind fun l => M.pure (.ref i :: l)) σ H := ⟨b, Z, ρ, vs, as, hb, hl, S, k⟩
    exact (Go.bindV k').mono fun ws H2 ⟨l, pv, qa, r, b, Z, ρ, vs, as, hb, _, S, k2⟩ => k2 _ _ (y :: ws) pv qa (.ref ey r) (by simpa using S)
  · exact k.elim
/-- behind a call, in the caller's state -/
theorem Sta.called {K : PySem.W.Frag} {mg : Str → Option Value} {b : Base} {Z H Z2 H2 : Hp} {σ : St} {ρ ρ1 : DEnv} {vs pv ws ys : List V} {as pa as1 l' : List A} {l : List AV} {ds : List D} (S : Sta K mg b Z H σ ρ (pv ++ vs) (pa ++ as)) (r : ArgR σ ws l pv pa) (hg : gath l ρ = some (as1, ρ1)) (hy : RepDs K mg Z ys ds) :
    ∃ fs, RepL K mg Z H (ws ++ ys) (as1 ++ ds.map .v) fs ∧ (∀ y, fs.flatten.count y ≤ 1) ∧ (∀ a ∈ fs.flatten, Z a = none) ∧
      ∀ {Z2 H2 : Hp} {l' : List A} {fs' : List (List Addr)} {ps : List V} {qa : List A} {fr : List Addr}, After K Z H fs Z2 H2 → RepL K mg Z2 H2 (ws ++ ys) l' fs' → (∀ (i : Nat) (f f' : List Addr), fs[i]? = some f → fs'[i]? = some f' → ∀ a ∈ f', a ∈ f ∨ Fre H a) →
        RepAs K mg Z2 H2 ps qa fr → (∀ y, fr.count y + fs'.flatten.count y ≤ 1) → (∀ a, a ∈ fr ∨ a ∈ fs'.flatten → Z2 a = none) → (∀ a ∈ fr, Fre H a) → Sta K mg b Z2 H2 σ (back l l' ρ1) (ps ++ vs) (qa ++ as) := by
  obtain ⟨f, g, h1, h2, h3, h4, h5⟩ := S.rep
  obtain ⟨g1, g2, eg, r1, r2⟩ := h2.split r.length.2
  obtain ⟨f1, fs, s1, l1, c1, p1, p2⟩ := gath_rep h1 r1 r hg
  have cf : ∀ y, f1.count y + fs.flatten.count y + g2.count y ≤ 1 := fun y => by
    have := h3 y; have := c1 y
    rw [eg, List.count_append] at *; omega
  have fe : (fs ++ ds.map fun _ => ([] : List Addr)).flatten = fs.flatten := by rw [List.flatten_append, flatten_nils, List.append_nil]
  have inF : ∀ a, (0 < f1.count a ∨ 0 < fs.flatten.count a ∨ 0 < g2.count a) → a ∈ f ∨ a ∈ g := fun a ha => by
    have := c1 a
    rw [eg]
    by_cases q : 0 < f.count a
    · exact .inl (count_mem q)
    · right
      refine List.mem_append.mpr ?_
      by_cases q2 : 0 < g1.count a
      · exact .inl (count_mem q2)
      · exact .inr (count_mem (by omega))
  refine ⟨fs ++ ds.map fun _ => [], l1.append (RepDs.toL hy), fun y => by rw [fe]; have := cf y; omega, fun a ha => ?_, fun {Z2 H2 l' fs' ps qa fr} af rl own rr cr zr hr => ?_⟩
  · rw [fe] at ha
    exact h4 a (inF a (.inr (.inl (mem_count ha))))
  · have nin : ∀ a, (0 < f1.count a ∨ 0 < g2.count a) → a ∉ (fs ++ ds.map fun _ => ([] : List Addr)).flatten := fun a ha hm => by
      rw [fe] at hm
      have := cf a; have := mem_count hm; omega
    have k1 : ∀ y ∈ f1, H2 y = H y := fun y hy => by
      obtain ⟨o, e, m⟩ := s1.thereM y hy
      rw [e, af.kh _ _ e (nin y (.inl (mem_count hy))) m.nt]
    have k2 : ∀ y ∈ g2, H2 y = H y := fun y hy => by
      obtain ⟨o, e, m⟩ := RepAs.thereM _ _ _ r2 y hy
      rw [e, af.kh _ _ e (nin y (.inr (mem_count hy))) m.nt]
    have pin : ∀ (k i : Nat) (f' : List Addr), l[k]? = some (.ref i) → fs'[k]? = some f' → ∀ a ∈ f', b.Own i a := fun k i f' ek ef a ha => by
      have hk : k < fs.length := by
        have : k < l.length := (List.getElem?_eq_some_iff.mp ek).1
        rw [← l1.lengthf, r.length.1]; exact this
      rcases own k fs[k] f' (by rw [List.getElem?_append_left hk]; exact List.getElem?_eq_getElem hk) ef a ha with z | z
      · exact p1 k i fs[k] ek (List.getElem?_eq_getElem hk) a z
      · exact .inr (S.kd a z)
    obtain ⟨f2, s2, c2⟩ := back_rep (s1.mono af.zz k1 fun _ _ _ z => z) rl r pin
    refine ⟨S.zz.trans af.zz, af.zh, fun a ha => (af.kz a fun q => ha (S.kd a q)).trans (S.kz a ha), fun a o e ha hn => af.kh a o (S.kh a o e ha hn) ?_ hn, fun a ha => S.kd a (af.kd a ha), ⟨af.tb, af.nt, S.sd.kn⟩, S.pin, S.lw, f2, fr ++ g2, s2, rr.append (RepAs.mono af.zz _ _ _ k2 r2), fun y => ?_, fun a ha => ?_, fun a ha => ?_⟩
    · intro hm
      rw [fe] at hm
      obtain ⟨f', hf', haf⟩ := List.mem_flatten.mp hm
      obtain ⟨k, ek⟩ := List.getElem?_of_mem hf'
      have hk : k < l.length := by
        have := (List.getElem?_eq_some_iff.mp ek).1
        rw [← l1.lengthf, r.length.1] at this; exact this
      cases el : l[k] with
      | val c =>
        have := h5 a (by rw [eg]; exact List.mem_append_left _ (p2 k c f' (by rw [List.getElem?_eq_getElem hk, el]) ek a haf))
        exact Fre.no e hn this
      | ref i =>
        rcases p1 k i f' (by rw [List.getElem?_eq_getElem hk, el]) ek a haf with z | z
        · exact ha i z
        · exact Fre.no e hn z
    · have e1 := cf y; have e2 := c2 y; have e3 := cr y
      rw [List.count_append]
      -- a new address of the result is in nothing that stood
      by_cases q : 0 < f1.count y ∨ 0 < g2.count y
      · have : ¬ Fre H y := by
          rcases q with q | q
          · obtain ⟨o, e, m⟩ := s1.thereM y (count_mem q); exact Fre.no e m.nt
          · obtain ⟨o, e, m⟩ := RepAs.thereM _ _ _ r2 y (count_mem q); exact Fre.no e m.nt
        have nfr : fr.count y = 0 := List.count_eq_zero.mpr fun z => this (hr y z)
        have nfs : fs'.flatten.count y = 0 := List.count_eq_zero.mpr fun z => by
          obtain ⟨f', hf', haf⟩ := List.mem_flatten.mp z
          obtain ⟨k, ek⟩ := List.getElem?_of_mem hf'
          have hk : k < (fs ++ ds.map fun _ => ([] : List Addr)).length := by
            have := (List.getElem?_eq_some_iff.mp ek).1
            rw [← rl.lengthf, (l1.append (RepDs.toL (H := H) hy)).lengthf] at this
            exact this
          rcases own k _ f' (List.getElem?_eq_getElem hk) ek y haf with z | z
          · exact nin y q (List.mem_flatten.mpr ⟨_, List.getElem_mem hk, z⟩)
          · exact this z
        omega
      · omega
    · have : 0 < f1.count a ∨ 0 < g2.count a ∨ (a ∈ fr ∨ a ∈ fs'.flatten) := by
        have e2 := c2 a
        rcases ha with ha | ha
        · have := mem_count ha
          by_cases q : 0 < f1.count a
          · exact .inl q
          · exact .inr (.inr (.inr (count_mem (by omega))))
        · rcases List.mem_append.mp ha with ha | ha
          · exact .inr (.inr (.inl ha))
          · exact .inr (.inl (mem_count ha))
      rcases this with q | q | q
      · obtain ⟨o, e, m⟩ := s1.thereM a (count_mem q)
        rw [af.kz a (Fre.no e m.nt)]
        exact h4 a (inF a (.inl q))
      · obtain ⟨o, e, m⟩ := RepAs.thereM _ _ _ r2 a (count_mem q)
        rw [af.kz a (Fre.no e m.nt)]
        exact h4 a (inF a (.inr (.inr q)))
      · exact zr a q
    · rcases List.mem_append.mp ha with ha | ha
      · exact S.kd a (hr a ha)
      · exact h5 a (by rw [eg]; exact List.mem_append_right _ ha)

/-- a def that may be called by its name -/
structure CalD (P : Program) (w : World) (K : PySem.W.Frag) (mg : Str → Option Value) (base : Heap) (k : Nat) (x : Str) (F : Fn) (ds : List D) : Prop where
  ex : ∃ (f : Addr) (fd : FuncData) (ps : List Str) (us : List Value) (ys : List V), FnOk P w K mg base CX0 k f fd ps (fun vs H Q _ => spD K mg F vs H Q fun _ _ _ => False) ∧ mg x = some (.ref f) ∧ PySem.W.keepIn K (.ref f) = true ∧ Binds K fd ps us ∧ Vals ys us ∧
    ∀ Z, RepDs K mg Z ys ds
/-- a call's reading from the state with its arguments -/
theorem go_call {F : Fn} {ds : List D} {ys : List V} (hy : ∀ Z, RepDs C.K C.mg Z ys ds) {σ : St} {H : Hp} {Q : VK} {ws pv : List V} {l : List AV} {pa : List A} {E : XK} (r : ArgR σ ws l pv pa) (hE : ∀ cls d H', E cls d H' → C.W cls d σ H')
    (hE' : ∀ cls d H', C.W cls d σ H' → E cls d H')
    (k : Go C (finE C σ Q) pv pa (fun ρ => match gath l ρ with
      | none => .bad
      | some q => match F (q.1 ++ ds.map .v) with
        | .ok r l' => .ok r (back l l' q.2)
        | .exc e l' => .exc e (back l l' q.2)
        | .bad => .bad) σ H) : spD C.K C.mg F (ws ++ ys) H Q E := by
  obtain ⟨b, Z, ρ, vs, as, hb, hl, S, k⟩ := k
  dsimp only at k
  cases eg : gath l ρ with
  | none => rw [eg] at k; exact k.elim
  | some q =>
    obtain ⟨as1, ρ1⟩ := q
    rw [eg] at k
    dsimp only at k
    obtain ⟨fs, r1, c1, z1, fin⟩ := Sta.called (Z2 := Z) (H2 := H) (l' := []) S r eg (hy Z)
    refine ⟨Z, _, fs, ⟨S.zh, S.sd.tabs, S.sd.nt⟩, r1, c1, z1, ?_⟩
    cases eF : F (as1 ++ ds.map .v) with
    | bad => rw [eF] at k; exact k.elim
    | ok u l' =>
      rw [eF] at k
      intro Z' H' v fr fs' af hr rl cr zr nr own
      exact k Z' H' v (fin (ps := [v]) (qa := [u]) (fr := fr ++ []) af rl own (.cons hr .nil) (by simpa using cr) (by simpa using zr) (by simpa using nr))
    | exc e l' =>
      rw [eF] at k
      intro Z' H' cls d fs' af hx rl cr zr own
      exact hE' _ _ _ (k Z' H' σ cls d (fin (ps := []) (qa := []) (fr := []) af rl own .nil (by simpa using cr) (by simpa using zr) (by simp)) hx)
theorem de_call {F : Fn} {ds : List D} {k : Nat} (c : CalD X.prog X.w X.K X.mg X.base k x F ds) (hr : Room k X.A) (hg : Gl X x) (hK : X.K = C.K) (hM : X.mg = C.mg) (hW : C.W = fun _ _ _ _ => False) (ha : PA X (e :: es) (tV C fs)) (hdb : (x == ("__debug__" : Str)) = false := by decide)
    (he : starEach (e :: es) X.env = (false, eval e X.env) :: starEach es X.env := by rfl) (hpl : (backTo pos (starEach es X.env)).any (·.1) = false := by rfl) : PE X (.Call (.Name x p) (e :: es) [] pos) (tE C (dCall F fs ds)) := by
  obtain ⟨f, fd, ps, us, ys, F', h1, h2, h3, h4, h5⟩ := c.ex
  refine PE.w (pe_call (E := fun _ _ _ => False) F' hr hg h1 h2 h3 h4 pass0 ha hdb he hpl) fun σ H Q q => ?_
  refine (Go.bindV q).mono fun ws H1 ⟨l, pv, qa, r, q1⟩ => ?_
  rw [hK, hM] at h5
  show spD X.K X.mg F (ws ++ ys) H1 Q fun _ _ _ => False
  rw [hK, hM]
  exact go_call h5 r (fun _ _ _ z => z.elim) (fun _ _ _ z => by rw [hW] at z; exact z) (by simpa using q1)
end
end DD

namespace DD
open PySem PySem.Spec L2
open PyProof.Rows hiding St
variable [LamN]

def dBlt (op : List A → Option A) (fs : M (List A)) : M A := fs.bind fun l => ofO (op l)
section
variable {C : SC} {X : Cx} {x : Str} {p pos : Pos} {e : Expr} {es : List Expr} {fs : M (List A)} {bid T : String} {r : List V → Hp → VK → Prop} {op : List A → Option A}
theorem go_blt (ho : OpN C r op) {σ : St} {H : Hp} {Q : VK} (k : tE C (dBlt op fs) σ H Q) : tA C fs σ H fun vs H1 => r vs H1 Q := by
  refine (Go.bindA k).mono fun ws H1 ⟨l, hl, k1⟩ => ?_
  obtain ⟨res, e, b, Z, ρ, vs, as, hb, _, S, k2⟩ := go_ofO k1
  rw [List.append_nil, List.append_nil] at S
  exact ho b Z H1 σ ρ vs as ws l res Q hl S e k2
theorem de_callB (hc : CallR X (.builtin bid) r) (ho : OpN C r op) (hg : Gl X x) (hm : X.mg x = none) (hv : bootBuiltins x = some (.builtin bid)) (ha : PA X (e :: es) (tA C fs)) (hn : x ≠ "__name__" := by decide) (hdb : (x == ("__debug__" : Str)) = false := by decide)
    (he : starEach (e :: es) X.env = (false, eval e X.env) :: starEach es X.env := by rfl) (hpl : (backTo pos (starEach es X.env)).any (·.1) = false := by rfl) : PE X (.Call (.Name x p) (e :: es) [] pos) (tE C (dBlt op fs)) :=
  PE.w (pe_callB hc hg hm hv ha hn hdb he hpl) fun σ H Q k => go_blt ho k
theorem de_callTy (hc : CallR X (.type T) r) (ho : OpN C r op) (hg : Gl X x) (hm : X.mg x = none) (hv : bootBuiltins x = some (.type T)) (ha : PA X (e :: es) (tA C fs)) (hn : x ≠ "__name__" := by decide) (hdb : (x == ("__debug__" : Str)) = false := by decide)
    (he : starEach (e :: es) X.env = (false, eval e X.env) :: starEach es X.env := by rfl) (hpl : (backTo pos (starEach es X.env)).any (·.1) = false := by rfl) : PE X (.Call (.Name x p) (e :: es) [] pos) (tE C (dBlt op fs)) :=
  PE.w (pe_callTy hc hg hm hv ha hn hdb he hpl) fun σ H Q k => go_blt ho k
theorem one {ws : List V} {a : A} (h : ws.length = [a].length) : ∃ w, ws = [w] := by
  match ws, h with
  | [w], _ => exact ⟨w, rfl⟩
theorem two {ws : List V} {a c : A} (h : ws.length = [a, c].length) : ∃ w y, ws = [w, y] := by
  match ws, h with
  | [w, y], _ => exact ⟨w, y, rfl⟩
def opLen (l : List A) : Option A := match l with
  | [.m l] => some (.v (.int l.length))
  | [.v (.str z)] => if z.length ≤ sizeLine then some (.v (.int z.length)) else none
  | [.v d] => (seqD d).map fun ds => .v (.int ds.length)
  | _ => none
def rLen (K : PySem.W.Frag) : List V → Hp → VK → Prop := fun xs H Q => (∃ p ys, xs = [.ref p] ∧ (SqL K H p ys ∨ SqT K H p ys) ∧ Q (.int ys.length) H) ∨ ∃ z, xs = [.str z] ∧ z.length ≤ sizeLine ∧ Q (.int z.length) H
theorem cl_len : CallR X (.builtin "len") (rLen X.K) := call_len_seq.or call_len_str
theorem on_len : OpN C (rLen C.K) opLen := by
  intro b Z H σ ρ vs as ws l res Q hl S e k
  unfold opLen at e
  split at e
  · cases e
    obtain ⟨w, rfl⟩ := one hl
    obtain ⟨f, g, h1, h2, h3, h4, h5⟩ := Sta.rep S
    cases h2 with
    | cons r1 r2 => cases r1 with
      | m hp hr =>
        exact .inl ⟨_, _, rfl, .inl (SqL.of hp), by rw [hr.length]; exact k _ _ _ ((Sta.pop S).push (.int _))⟩
  · split at e
    · rename_i hz
      cases e
      obtain ⟨w, rfl⟩ := one hl
      have t := Sta.top S
      cases t
      exact .inr ⟨_, rfl, hz, k _ _ _ ((Sta.pop S).push (.int _))⟩
    · cases e
  · rename_i d _
    obtain ⟨w, rfl⟩ := one hl
    cases hd : seqD d with
    | none => rw [hd] at e; cases e
    | some ds =>
      rw [hd] at e
      cases e
      obtain ⟨p, xs, rfl, hs, r⟩ := (Sta.top S).seq S.zh hd
      exact .inl ⟨p, xs, rfl, hs, by rw [r.length]; exact k _ _ _ ((Sta.pop S).push (.int _))⟩
  · cases e
def opAbs (l : List A) : Option A := match l with
  | [.v (.int i)] => some (.v (.int (if i < 0 then -i else i)))
  | _ => none
theorem on_abs : OpN C (fun xs H Q => ∃ i, xs = [.int i] ∧ Q (.int (if i < 0 then -i else i)) H) opAbs := by
  intro b Z H σ ρ vs as ws l res Q hl S e k
  unfold opAbs at e
  split at e
  · cases e
    obtain ⟨w, rfl⟩ := one hl
    have t := Sta.top S
    cases t
    exact ⟨_, rfl, k _ _ _ ((Sta.pop S).push (.int _))⟩
  · cases e
def opI2 (g : Int → Int → Int) (l : List A) : Option A := match l with
  | [.v (.int i), .v (.int j)] => some (.v (.int (g i j)))
  | _ => none
theorem on_i2 {g : Int → Int → Int} : OpN C (fun xs H Q => ∃ i j, xs = [.int i, .int j] ∧ Q (.int (g i j)) H) (opI2 g) := by
  intro b Z H σ ρ vs as ws l res Q hl S e k
  unfold opI2 at e
  split at e
  · cases e
    obtain ⟨w, y, rfl⟩ := two hl
    have t := Sta.top S
    have t2 := Sta.top (Sta.pop S)
    cases t
    cases t2
    exact ⟨_, _, rfl, k _ _ _ ((Sta.pop (Sta.pop S)).push (.int _))⟩
  · cases e
def opMax : List A → Option A := opI2 fun i j => if j > i then j else i
def opMin : List A → Option A := opI2 fun i j => if j < i then j else i
def bls : List D → Option (List Bool)
  | [] => some []
  | .bl b :: l => (bls l).map (b :: ·)
  | _ => none
theorem bls_rep {K : PySem.W.Frag} {mg : Str → Option Value} {Z : Hp} : ∀ {xs : List V} {ds : List D} {bs : List Bool}, RepDs K mg Z xs ds → bls ds = some bs → xs = bs.map V.bl
  | [], _, _, h, e => by cases h; simp [bls] at e; subst e; rfl
  | x :: xs, _, bs, h, e => by
    cases h with
    | @cons _ _ d ds h1 h2 =>
      cases h1 with
      | bl b =>
        unfold bls at e
        cases q : bls ds with
        | none => rw [q] at e; cases e
        | some cs =>
          rw [q] at e
          cases e
          rw [bls_rep h2 q]
          rfl
      | _ => simp [bls] at e
def lstD : D → Option (List D)
  | .lst l => some l
  | .fz l => some l
  | _ => none
theorem RepD.lsq {K : PySem.W.Frag} {mg : Str → Option Value} {Z H : Hp} {x : V} {d : D} {ds : List D} (h : RepD K mg Z x d) (z : Same Z H) (e : lstD d = some ds) : ∃ p xs, x = .ref p ∧ SqL K H p xs ∧ RepDs K mg Z xs ds := by
  cases h with
  | lst h1 h2 => cases e; exact ⟨_, _, rfl, SqL.of (z _ _ h1), h2⟩
  | fz h1 h2 => cases e; exact ⟨_, _, rfl, z.seq h1, h2⟩
  | _ => cases e
def opBs (g : List Bool → Bool) (l : List A) : Option A := match l with
  | [a] => (lstD a.frz).bind fun ds => (bls ds).map fun bs => .v (.bl (g bs))
  | _ => none
theorem on_bs {g : List Bool → Bool} : OpN C (fun vs H Q => ∃ (a : Addr) (bs : List Bool), vs = [V.ref a] ∧ SqL C.K H a (bs.map V.bl) ∧ Q (.bl (g bs)) H) (opBs g) := by
  intro b Z H σ ρ vs as ws l res Q hl S e k
  unfold opBs at e
  split at e
  · rename_i a
    obtain ⟨w, rfl⟩ := one hl
    obtain ⟨Z', _, S'⟩ := Sta.freeze S
    cases hd : lstD a.frz with
    | none => rw [hd] at e; cases e
    | some ds =>
      rw [hd] at e
      cases hb : bls ds with
      | none => simp [hb] at e
      | some bs =>
        simp only [Option.bind_some, hb, Option.map_some, Option.some.injEq] at e
        subst e
        obtain ⟨q, xs, rfl, hs, r⟩ := (Sta.top S').lsq S'.zh hd
        have ex := bls_rep r hb
        subst ex
        exact ⟨q, bs, rfl, hs, k _ _ _ ((Sta.pop S').push (.bl _))⟩
  · cases e
def opAll : List A → Option A := opBs fun bs => bs.all id
def opTuple (l : List A) : Option A := match l with
  | [a] => (seqD a.frz).map fun ds => .v (.tup ds)
  | _ => none
theorem on_tuple : OpN C (fun xs H Q => ∃ p ys, xs = [.ref p] ∧ ((SqL C.K H p ys ∧ ∀ l, H l = none → Q (.ref l) (upd H l (.tup ys))) ∨ (SqT C.K H p ys ∧ Q (.ref p) H))) opTuple := by
  intro b Z H σ ρ vs as ws l res Q hl S e k
  unfold opTuple at e
  split at e
  · rename_i a
    obtain ⟨w, rfl⟩ := one hl
    obtain ⟨Z', _, S'⟩ := Sta.freeze S
    have t := Sta.top S'
    have S2 := Sta.pop S'
    generalize a.frz = d at e t
    cases t with
    | @tup q xs ds h1 h2 =>
      cases e
      exact ⟨q, xs, rfl, .inr ⟨sameT S'.zh h1, k _ _ _ (S2.push (.tup h1 h2))⟩⟩
    | @lst q xs ds h1 h2 =>
      cases e
      refine ⟨q, xs, rfl, .inl ⟨SqL.of (S'.zh _ _ h1), fun p hp => ?_⟩⟩
      exact k _ _ _ (S2.newF (o := .tup xs) hp (.tup (SqT.of upd_same) (RepDs.mono (same_upd (S'.zh.free hp)) _ _ h2)))
    | @fz q xs ds h1 h2 =>
      cases e
      refine ⟨q, xs, rfl, .inl ⟨S'.zh.seq h1, fun p hp => ?_⟩⟩
      exact k _ _ _ (S2.newF (o := .tup xs) hp (.tup (SqT.of upd_same) (RepDs.mono (same_upd (S'.zh.free hp)) _ _ h2)))
    | _ => cases e
  · cases e
def opList (l : List A) : Option A := match l with
  | [a] => (seqD a.frz).map fun ds => .m (ds.map .v)
  | _ => none
theorem on_list : OpN C (fun xs H Q => ∃ p ys, xs = [.ref p] ∧ (SqL C.K H p ys ∨ SqT C.K H p ys) ∧ ∀ l, H l = none → Q (.ref l) (upd H l (.lst ys))) opList := by
  intro b Z H σ ρ vs as ws l res Q hl S e k
  unfold opList at e
  split at e
  · rename_i a
    obtain ⟨w, rfl⟩ := one hl
    obtain ⟨Z', _, S'⟩ := Sta.freeze S
    cases hd : seqD a.frz with
    | none => rw [hd] at e; cases e
    | some ds =>
      rw [hd] at e
      cases e
      obtain ⟨q, xs, rfl, hs, r⟩ := (Sta.top S').seq S'.zh hd
      refine ⟨q, xs, rfl, hs, fun p hp => ?_⟩
      exact k _ _ _ (((Sta.pop S').pushes r).newM (by rw [List.length_map]; exact r.length) hp)
  · cases e
def opInt (l : List A) : Option A := match l with
  | [.v (.int i)] => some (.v (.int i))
  | [.v (.bl k)] => some (.v (.int (if k then 1 else 0)))
  | _ => none
theorem on_int : OpN C (fun xs H Q => (∃ i, xs = [.int i] ∧ Q (.int i) H) ∨ ∃ k, xs = [.bl k] ∧ Q (.int (if k then 1 else 0)) H) opInt := by
  intro b Z H σ ρ vs as ws l res Q hl S e k
  unfold opInt at e
  split at e
  · cases e
    obtain ⟨w, rfl⟩ := one hl
    have t := Sta.top S
    cases t
    exact .inl ⟨_, rfl, k _ _ _ ((Sta.pop S).push (.int _))⟩
  · cases e
    obtain ⟨w, rfl⟩ := one hl
    have t := Sta.top S
    cases t
    exact .inr ⟨_, rfl, k _ _ _ ((Sta.pop S).push (.int _))⟩
  · cases e
end

def kindD : D → String
  | .non => "NoneType"
  | .bl _ => "bool"
  | .int _ => "int"
  | .str _ => "str"
  | .tup _ => "tuple"
  | .lst _ => "list"
  | .fz _ => "list"
  | .ins _ _ _ => ""
def opIs (T : String) (l : List A) : Option A := match l with
  | [.v d] => if kindD d = "" then none else (kitB (kindD d) T).map fun b => .v (.bl b)
  | [.m _] => (kitB "list" T).map fun b => .v (.bl b)
  | _ => none
def dIsi (T : String) (f : M A) : M A := f.bind fun a => ofO (opIs T [a])
theorem RepD.ty {K : PySem.W.Frag} {mg : Str → Option Value} {Z H : Hp} {x : V} {d : D} (h : RepD K mg Z x d) (z : Same Z H) (n : kindD d ≠ "") : TyX K H x (.type (kindD d)) := by
  cases h with
  | non => exact .base .non
  | bl b => exact .base (.bl b)
  | int i => exact .base (.int i)
  | str x => exact .base (.str x)
  | tup h1 h2 =>
    rcases sameT z h1 with (h | ⟨o, h⟩) | ⟨o, _, _, h, c, _⟩
    · exact .base (.tup h)
    · exact .fTuple h
    · exact .kTuple h c
  | lst h1 h2 => exact .base (.lst (z _ _ h1))
  | fz h1 h2 =>
    rcases z.seq h1 with (h | ⟨o, h⟩) | ⟨o, _, _, h, c, _⟩
    · exact .base (.lst h)
    · exact .base (.frz h)
    · exact .kList h c
  | ins _ _ _ => exact absurd rfl n
section
variable {C : SC} {X : Cx} {e : Expr} {f : M A} {p p2 pos : Pos} {T : String} {y : Str}
theorem de_isi (hK : X.K = C.K) (hg : Gl X "isinstance") (hm : X.mg "isinstance" = none) (ha : PE X e (tE C f)) (hg2 : Gl X y) (hm2 : X.mg y = none) (hv2 : bootBuiltins y = some (.type T)) (hv : bootBuiltins "isinstance" = some (.builtin "isinstance"))
    (hn2 : y ≠ "__name__" := by decide) (hdb2 : (y == ("__debug__" : Str)) = false := by decide)
    (he : starEach (e :: [.Name y p2]) X.env = (false, eval e X.env) :: starEach [.Name y p2] X.env := by rfl) (he2 : starEach (.Name y p2 :: []) X.env = (false, eval (.Name y p2) X.env) :: starEach [] X.env := by rfl)
    (hpl : (backTo pos (starEach [.Name y p2] X.env)).any (·.1) = false := by rfl) : PE X (.Call (.Name "isinstance" p) [e, .Name y p2] [] pos) (tE C (dIsi T f)) := by
  refine PE.w (pe_callB call_isi hg hm hv (pa_cons ha (pa_cons (pe_bltn (v := .ty T) hg2 hm2 hv2 rfl hn2 hdb2) pa_nil he2) he) (by decide) (by decide) he hpl) fun σ H Q k => ?_
  refine (Go.bindE k).mono fun x H1 ⟨a, k1⟩ => ?_
  obtain ⟨res, e1, b, Z, ρ, vs, as, hb, _, S, k2⟩ := go_ofO k1
  show rIsi X.K [x, .ty T] H1 Q
  rw [hK]
  unfold opIs at e1
  split at e1
  · rename_i d heq
    cases heq
    split at e1
    · cases e1
    · rename_i hn
      cases q : kitB (kindD d) T with
      | none => rw [q] at e1; cases e1
      | some c =>
        rw [q] at e1
        cases e1
        exact ⟨x, .ty T, _, _, c, rfl, .ty T, (Sta.top (vs := vs) (as := as) S).ty S.zh hn, kit_ty q, k2 _ _ _ ((Sta.pop (vs := vs) (as := as) S).push (.bl _))⟩
  · rename_i l heq
    cases heq
    cases q : kitB "list" T with
    | none => rw [q] at e1; cases e1
    | some c =>
      rw [q] at e1
      cases e1
      obtain ⟨Z', _, S'⟩ := Sta.freeze (vs := vs) (as := as) S
      exact ⟨x, .ty T, _, _, c, rfl, .ty T, (Sta.top S').ty S'.zh (by simp [A.frz, kindD]), kit_ty q, k2 _ _ _ ((Sta.pop S').push (.bl _))⟩
  · cases e1
end

def cutL {α : Type} (xs : List α) (lo hi : Option Int) : List α := (xs.drop (HT.sIx xs.length 0 lo)).take (HT.sIx xs.length xs.length hi - HT.sIx xs.length 0 lo)
theorem cut_rep {K : PySem.W.Frag} {mg : Str → Option Value} {Z : Hp} {xs : List V} {ds : List D} (h : RepDs K mg Z xs ds) (lo hi : Option Int) : RepDs K mg Z (cutV xs lo hi) (cutL ds lo hi) := by
  unfold cutV cutL
  rw [h.length]
  exact RepDs.take _ (RepDs.drop _ h)
def opSl (a : A) (lo hi : Option Int) : Option A := match a.frz with
  | .tup l => some (.v (.tup (cutL l lo hi)))
  | .lst l => some (.m ((cutL l lo hi).map .v))
  | .fz l => some (.m ((cutL l lo hi).map .v))
  | .str z => if z.length ≤ sizeLine then some (.v (.str (cutS z lo hi))) else none
  | _ => none
def pNo : M (Option Int) := M.pure none
def pSo (f : M A) : M (Option Int) := f.bind fun a ρ => match a with
  | .v (.int i) => .ok (some i) ρ
  | _ => .bad
def dSl (f : M A) (lo hi : M (Option Int)) : M A := f.bind fun a => lo.bind fun l => hi.bind fun h => ofO (opSl a l h)
def rSl (K : PySem.W.Frag) : V → Option Int → Option Int → Hp → VK → Prop := fun x lo hi H Q => rSlA K x lo hi H Q ∨ (rSlL K x lo hi H Q ∨ rSlS x lo hi H Q)
def finO (C : SC) (σ : St) (Q : Option Int → Hp → Prop) : Fin (Option Int) := fun b vs as o ρ => ∀ Z' H', Sta C.K C.mg b Z' H' σ ρ vs as → Q o H'
def tO (C : SC) (f : M (Option Int)) : TO := fun σ H Q => Go C (finO C σ Q) [] [] f σ H
section
variable {C : SC} {X : Cx} {e : Expr} {lo hi : Option Expr} {f : M A} {l h : M (Option Int)} {pos p2 : Pos}
theorem sl_all : SlR X (rSl X.K) := sl_tupA.or (sl_list.or sl_str)
theorem PO.w {e : Option Expr} {t t' : TO} (h : PO X e t) (k : ∀ σ H Q, t' σ H Q → t σ H Q) : PO X e t' := ⟨fun pins s σ H Q I hw => h.run pins s σ H Q I (k σ H Q hw)⟩
theorem do_none : PO X none (tO C pNo) := PO.w po_none fun σ H Q ⟨b, Z, ρ, vs, as, hb, hl, S, k⟩ => k _ _ S
theorem do_some (he : PE X e (tE C f)) : PO X (some e) (tO C (pSo f)) := by
  refine PO.w (po_some he) fun σ H Q k => ?_
  refine (Go.bindE k).mono fun x H1 ⟨a, b, Z, ρ, vs, as, hb, _, S, k1⟩ => ?_
  dsimp only at k1
  split at k1
  · have t := Sta.top (vs := vs) (as := as) S
    cases t
    exact ⟨_, rfl, k1 _ _ (Sta.pop (vs := vs) (as := as) S)⟩
  · exact k1.elim
theorem Go.bindO {α : Type} {fin : Fin α} {ps : List V} {pa : List A} {σ : St} {H : Hp} {f : M (Option Int)} {g : Option Int → M α} (h : Go C fin ps pa (f.bind g) σ H) : tO C f σ H (fun o H1 => Go C fin ps pa (g o) σ H1) := by
  obtain ⟨b, Z, ρ, vs, as, hb, hl, S, h⟩ := h
  refine ⟨b, Z, ρ, ps ++ vs, pa ++ as, hb, rfl, S, R.sat_mono (R.sat_bind h) (fun c ρ' q Z' H' S' => ?_) fun e ρ' q => q.pops hl⟩
  exact ⟨b, Z', ρ', vs, as, hb, hl, S', q⟩
theorem tO.mono {f : M (Option Int)} {Q Q' : Option Int → Hp → Prop} {σ : St} {H : Hp} (h : tO C f σ H Q) (k : ∀ v H', Q v H' → Q' v H') : tO C f σ H Q' := by
  obtain ⟨b, Z, ρ, vs, as, hb, hl, S, h⟩ := h
  exact ⟨b, Z, ρ, vs, as, hb, hl, S, R.sat_mono h (fun a ρ' q Z' H' S' => k _ _ (q Z' H' S')) fun _ _ q => q⟩
theorem de_slice (hK : X.K = C.K) (he : PE X e (tE C f)) (hl : PO X lo (tO C l)) (hh : PO X hi (tO C h)) : PE X (.Subscript e (.Slice lo hi none p2) pos) (tE C (dSl f l h)) := by
  refine PE.w (pe_slice sl_all he hl hh) fun σ H Q k => ?_
  refine (Go.bindE k).mono fun x H1 ⟨a, k1⟩ => (Go.bindO k1).mono fun i H2 k2 => (Go.bindO k2).mono fun j H3 k3 => ?_
  obtain ⟨res, e1, b, Z, ρ, vs, as, hb, _, S, k4⟩ := go_ofO k3
  rw [hK]
  obtain ⟨Z', _, S'⟩ := Sta.freeze (vs := vs) (as := as) S
  have t := Sta.top S'
  have S2 := Sta.pop S'
  unfold opSl at e1
  generalize a.frz = d at e1 t
  cases t with
  | @tup q xs ds h1 h2 =>
    cases e1
    refine .inl ⟨q, xs, rfl, sameT S'.zh h1, fun hw => ?_, fun hw p hp => ?_⟩
    · have ed : cutL ds i j = ds := by
        unfold cutL
        rw [← h2.length, hw.1, hw.2, List.drop_zero, Nat.sub_zero, h2.length, List.take_length]
      rw [ed] at k4
      exact k4 _ _ _ (S2.push (.tup h1 h2))
    · exact k4 _ _ _ (S2.newF (o := .tup _) hp (.tup (SqT.of upd_same) (RepDs.mono (same_upd (S'.zh.free hp)) _ _ (cut_rep h2 i j))))
  | @lst q xs ds h1 h2 =>
    cases e1
    refine .inr (.inl ⟨q, xs, rfl, SqL.of (S'.zh _ _ h1), fun p hp => ?_⟩)
    have r := cut_rep h2 i j
    exact k4 _ _ _ ((S2.pushes r).newM (by rw [List.length_map]; exact r.length) hp)
  | @fz q xs ds h1 h2 =>
    cases e1
    refine .inr (.inl ⟨q, xs, rfl, S'.zh.seq h1, fun p hp => ?_⟩)
    have r := cut_rep h2 i j
    exact k4 _ _ _ ((S2.pushes r).newM (by rw [List.length_map]; exact r.length) hp)
  | str z =>
    dsimp only at e1
    split at e1
    · rename_i hz
      cases e1
      exact .inr (.inr ⟨z, rfl, hz, k4 _ _ _ (S2.push (.str _))⟩)
    · cases e1
  | _ => cases e1
end

section
variable {C : SC} {X : Cx} {a b : Expr} {f g : M A} {pos : Pos}
theorem de_ix (ha : PE X a (tE C f)) (hb : PE X b (tE C g)) (hK : X.K = C.K) (hs : PlainIx b) : PE X (.Subscript a b pos) (tE C (dOp2 opIx f g)) := by
  refine PE.w (pe_ix ix_seq ha hb hs) fun σ H Q k => ?_
  refine (Go.bindE k).mono fun x H1 ⟨u, k1⟩ => (Go.bindE k1).mono fun y H2 ⟨w, k2⟩ => ?_
  rw [hK]
  exact go_op2 o2_ix k2
end

def dItems (f : M A) : M (List D) := f.bind fun a => ofO (seqD a.frz)
def dRng1 (f : M A) : M (List D) := f.bind fun a => ofO (match a with
  | .v (.int j) => if -(2 ^ 62) ≤ j ∧ j < 2 ^ 62 then some ((List.range j.toNat).map fun i : Nat => .int i) else none
  | _ => none)
def dRng2 (f g : M A) : M (List D) := f.bind fun a => g.bind fun c => ofO (match a, c with
  | .v (.int i), .v (.int j) => if -(2 ^ 62) ≤ i ∧ i < 2 ^ 62 ∧ -(2 ^ 62) ≤ j ∧ j < 2 ^ 62 then some ((List.range (j - i).toNat).map fun n : Nat => .int (i + n)) else none
  | _, _ => none)
section
variable {C : SC} {X : Cx} {e e2 tg : Expr} {f g : M A} {pos p : Pos}
def iSeq (K : PySem.W.Frag) (tl : TE) : TI := fun σ H R => tl σ H fun x H1 => ∃ a, x = .ref a ∧ (((∃ xs, SqL K H1 a xs) ∧ R (Itl K a) H1) ∨ ((∃ xs, SqT K H1 a xs) ∧ R (Itt K a) H1))
theorem pi_seq {l : Expr} {tl : TE} (hl : PE X l tl) : PI X tg l (iSeq X.K tl) := by
  refine ⟨fun pins s σ H R I h => ?_⟩
  refine thn (hl.run pins s σ H _ I h) fun v s1 ⟨x, H1, I1, r1, q1⟩ => ?_
  obtain ⟨a, e, q⟩ := q1
  subst e
  cases r1
  rcases q with ⟨⟨xs, hq⟩, q⟩ | ⟨⟨xs, hq⟩, q⟩
  · obtain ⟨its, rv, p, hz⟩ := I1.list hq
    refine wpAny_pyIter_list p.isList ?_
    refine ⟨s1.heap.objs.size, [s1.heap.objs.size], _, _, H1, rfl, I1.kept (t' := s1.toks) fun b o e => Heap.get?_push_of_some _ e, turn_list a _, ⟨_, Heap.get?_push_size _ rfl, rfl, rfl⟩, fun b hb => ?_, q⟩
    have e : b = s1.heap.objs.size := by simpa using hb
    subst e
    exact I1.fpOk (Nat.le_refl _) (I1.hok.fresh (Nat.le_refl _))
  · obtain ⟨its, rv, p, hz⟩ := I1.tuple hq
    refine wpAny_pyIter_tuple (show s1.heap.IsTuple a its.toArray from p) ?_
    refine ⟨s1.heap.objs.size, [s1.heap.objs.size], _, _, H1, rfl, I1.kept (t' := s1.toks) fun b o e => Heap.get?_push_of_some _ e, turn_tuple a _, ⟨_, Heap.get?_push_size _ rfl, rfl, rfl⟩, fun b hb => ?_, q⟩
    have e : b = s1.heap.objs.size := by simpa using hb
    subst e
    exact I1.fpOk (Nat.le_refl _) (I1.hok.fresh (Nat.le_refl _))
theorem isIt_list {a : Addr} {d : D} {ds : List D} (hd : lstD d = some ds) : IsIt C (Itl C.K a) [.ref a] [.v d] ds := by
  intro b Z H σ ρ vs as S
  obtain ⟨q, xs, e, hs, r⟩ := (Sta.top S).lsq S.zh hd
  cases e
  refine ⟨fun i d hi => ?_, xs, hs, by rw [r.length]; exact Nat.le_refl _⟩
  obtain ⟨x, hx, rx⟩ := r.get hi
  refine ⟨⟨xs, x, hs, hx⟩, fun y H' ⟨e', hy⟩ => ?_⟩
  subst e'
  have := hy xs hs
  rw [hx] at this
  cases this
  exact ⟨Z, S.push rx⟩
theorem isIt_tup {a : Addr} {ds : List D} : IsIt C (Itt C.K a) [.ref a] [.v (.tup ds)] ds := by
  intro b Z H σ ρ vs as S
  have t := Sta.top S
  cases t with
  | @tup _ xs _ h1 r =>
    have hs := sameT S.zh h1
    refine ⟨fun i d hi => ?_, xs, hs, by rw [r.length]; exact Nat.le_refl _⟩
    obtain ⟨x, hx, rx⟩ := r.get hi
    refine ⟨⟨xs, x, hs, hx⟩, fun y H' ⟨e', hy⟩ => ?_⟩
    subst e'
    have := hy xs hs
    rw [hx] at this
    cases this
    exact ⟨Z, S.push rx⟩
theorem di_seq (hK : X.K = C.K) (he : PE X e (tE C f)) : PI X tg e (tI C (dItems f)) := by
  refine PI.w (pi_seq he) fun σ H R k => ?_
  refine (Go.bindE k).mono fun x H1 ⟨a, k1⟩ => ?_
  obtain ⟨ds, e1, b, Z, ρ, vs, as, hb, _, S, k2⟩ := go_ofO k1
  rw [hK]
  obtain ⟨Z', _, S'⟩ := Sta.freeze (vs := vs) (as := as) S
  have t := Sta.top S'
  generalize a.frz = d at e1 t S'
  cases t with
  | @tup q xs es h1 h2 =>
    cases e1
    exact ⟨q, rfl, .inr ⟨⟨xs, sameT S'.zh h1⟩, k2 _ _ [.ref q] [.v (.tup _)] _ rfl S' isIt_tup⟩⟩
  | @lst q xs es h1 h2 =>
    cases e1
    exact ⟨q, rfl, .inl ⟨⟨xs, SqL.of (S'.zh _ _ h1)⟩, k2 _ _ [.ref q] [.v (.lst _)] _ rfl S' (isIt_list rfl)⟩⟩
  | @fz q xs es h1 h2 =>
    cases e1
    exact ⟨q, rfl, .inl ⟨⟨xs, S'.zh.seq h1⟩, k2 _ _ [.ref q] [.v (.fz _)] _ rfl S' (isIt_list rfl)⟩⟩
  | _ => cases e1
theorem isIt_rng {lo : Int} {n : Nat} : IsIt C (Itr lo n) [] [] ((List.range n).map fun i : Nat => .int (lo + i)) := by
  intro b Z H σ ρ vs as S
  refine ⟨fun i d hi => ?_, by show n ≤ _; simp⟩
  have hin : i < n := by
    have := (List.getElem?_eq_some_iff.mp hi).1
    simpa using this
  refine ⟨hin, fun y H' ⟨e1, e2⟩ => ?_⟩
  subst e1 e2
  rw [List.getElem?_map, List.getElem?_range hin] at hi
  cases hi
  exact ⟨Z, S.push (.int _)⟩
theorem di_rng1 (hg : Gl X "range") (hm : X.mg "range" = none) (ha : PE X e (tE C f)) (hs : starEach [e] X.env = [(false, eval e X.env)] := by rfl) (hs' : starEach (e :: []) X.env = (false, eval e X.env) :: starEach [] X.env := by rfl) : PI X tg (.Call (.Name "range" p) [e] [] pos) (tI C (dRng1 f)) := by
  refine PI.w (pi_range1 hg hm (pa_cons ha pa_nil hs') hs) fun σ H R k => ?_
  refine (Go.bindE k).mono fun x H1 ⟨a, k1⟩ => ?_
  obtain ⟨ds, e1, b, Z, ρ, vs, as, hb, _, S, k2⟩ := go_ofO k1
  split at e1
  · rename_i j
    split at e1
    · rename_i hz
      cases e1
      have t := Sta.top (vs := vs) (as := as) S
      cases t
      refine ⟨_, rfl, hz.1, hz.2, k2 _ _ [] [] _ rfl (Sta.pop (vs := vs) (as := as) S) ?_⟩
      simpa using isIt_rng (C := C) (lo := 0)
    · cases e1
  · cases e1
theorem di_rng2 (hg : Gl X "range") (hm : X.mg "range" = none) (ha : PE X e (tE C f)) (hb : PE X e2 (tE C g)) (hs : starEach [e, e2] X.env = [(false, eval e X.env), (false, eval e2 X.env)] := by rfl) (hs2 : starEach [e2] X.env = [(false, eval e2 X.env)] := by rfl)
    (ht : starEach (e :: [e2]) X.env = (false, eval e X.env) :: starEach [e2] X.env := by rfl) (ht2 : starEach (e2 :: []) X.env = (false, eval e2 X.env) :: starEach [] X.env := by rfl) : PI X tg (.Call (.Name "range" p) [e, e2] [] pos) (tI C (dRng2 f g)) := by
  refine PI.w (pi_range2 hg hm (pa_cons ha (pa_cons hb pa_nil ht2) ht) hs hs2) fun σ H R k => ?_
  refine (Go.bindE k).mono fun x H1 ⟨a, k1⟩ => (Go.bindE k1).mono fun y H2 ⟨c, k2⟩ => ?_
  obtain ⟨ds, e1, b, Z, ρ, vs, as, hb, _, S, k3⟩ := go_ofO k2
  split at e1
  · rename_i i j
    split at e1
    · rename_i hz
      cases e1
      have t := Sta.top (vs := x :: vs) (as := _ :: as) S
      have t2 := Sta.top2 (vs := vs) (as := as) S
      cases t
      cases t2
      exact ⟨_, _, rfl, hz, k3 _ _ [] [] _ rfl (Sta.pop (vs := vs) (as := as) (Sta.pop (vs := _ :: vs) (as := _ :: as) S)) isIt_rng⟩
    · cases e1
  · cases e1
end

def gNilD : List D → M Unit := fun ds => match ds with
  | [] => M.pure ()
  | _ => fun _ => .bad
def gConsD (g : D → M Unit) (gs : List D → M Unit) : List D → M Unit := fun ds => match ds with
  | d :: ds => (g d).bind fun _ => gs ds
  | [] => fun _ => .bad
def gTupD (n : Nat) (gs : List D → M Unit) : D → M Unit := fun d => match d with
  | .tup ds => if ds.length = n then gs ds else fun _ => .bad
  | _ => fun _ => .bad
def tGs (C : SC) (sl : List Nat) (g : List D → M Unit) : TGs := fun ws σ H Q => ∃ b Z ρ vs as ds, C.Of b ∧ ws.length = ds.length ∧ Sta C.K C.mg b Z H σ ρ (ws ++ vs) (ds.map .v ++ as) ∧
  (g ds ρ).sat (fun _ ρ' => ∀ Z' H' σ', Sta C.K C.mg b Z' H' σ' ρ' vs as → wipe σ' sl = wipe σ sl → Q σ' H') (XPost C b vs as)
section
variable {C : SC} {X : Cx} {e : Expr} {es : List Expr} {g : D → M Unit} {gs : List D → M Unit} {sl : List Nat} {pos : Pos} {n k : Nat}
theorem PGs.w {ts : List Expr} {t t' : TGs} (h : PGs X ts t) (k : ∀ v σ H Q, t' v σ H Q → t v σ H Q) : PGs X ts t' := ⟨fun pins s σ H vs us Q I r hw => h.run pins s σ H vs us Q I r (k vs σ H Q hw)⟩
theorem dgs_nil : PGs X [] (tGs C sl gNilD) := by
  refine PGs.w pgs_nil fun ws σ H Q ⟨b, Z, ρ, vs, as, ds, hb, hl, S, k⟩ => ?_
  unfold gNilD at k
  split at k
  · have e : ws = [] := List.eq_nil_of_length_eq_zero (by simpa using hl)
    subst e
    exact ⟨rfl, k _ _ _ S rfl⟩
  · exact k.elim
theorem dgs_cons (h1 : PG X e (tG C sl g)) (h2 : PGs X es (tGs C sl gs)) (hs : (assignEach (e :: es) X.env).map (·.2) = assign e X.env :: (assignEach es X.env).map (·.2) := by rfl) : PGs X (e :: es) (tGs C sl (gConsD g gs)) := by
  refine PGs.w (pgs_cons h1 h2 hs) fun ws σ H Q ⟨b, Z, ρ, vs, as, ds, hb, hl, S, k⟩ => ?_
  unfold gConsD at k
  split at k
  · rename_i d ds
    match ws, hl with
    | w :: ws, hl =>
      have hl' : ws.length = ds.length := by simpa using hl
      refine ⟨w, ws, rfl, b, Z, ρ, ws ++ vs, ds.map .v ++ as, d, hb, by simpa using S, R.sat_mono (R.sat_bind k) (fun _ ρ1 q Z1 H1 σ1 S1 w1 => ?_) fun _ _ q => q.pops (by simpa using hl')⟩
      exact ⟨b, Z1, ρ1, vs, as, ds, hb, hl', S1, R.sat_mono q (fun _ ρ2 q2 Z2 H2 σ2 S2 w2 => q2 Z2 H2 σ2 S2 (w2.trans w1)) fun _ _ q => q⟩
  · exact k.elim
theorem dg_tup (hK : X.K = C.K) (hc : X.calm = true) (h : PGs X es (tGs C sl gs)) (hn : (assignEach es X.env).length = n := by rfl) (hst : (assignEach es X.env).findIdx? (·.1) = none := by rfl) : PG X (.Tuple es k pos) (tG C sl (gTupD n gs)) := by
  refine PG.w (pg_tup hc h hn hst) fun v σ H Q ⟨b, Z, ρ, vs, as, d, hb, S, k⟩ => ?_
  unfold gTupD at k
  split at k
  · split at k
    · rename_i hz
      have t := Sta.top S
      rw [hK]
      cases t with
      | @tup q xs ds h1 h2 =>
        exact ⟨q, xs, rfl, sameT S.zh h1, by rw [h2.length]; exact hz, b, Z, ρ, vs, as, _, hb, h2.length, (Sta.pop S).pushes h2, k⟩
    · exact k.elim
  · exact k.elim
end
/-- target = value -/
def dAsg (f : M A) (g : D → M Unit) : M Flow := f.bind fun a => (g a.frz).bind fun _ => M.pure .nx
section
variable {C : SC} {X : Cx} {tg e : Expr} {f : M A} {g : D → M Unit} {sl : List Nat} {pos : Pos}
theorem ds_asg (he : PE X e (tE C f)) (hg : PG X tg (tG C sl g)) (hs : swapsWithSole [tg] e pos.line X.env = pure false := by rfl) (hw : swappedStores [tg] e X.env = pure none := by rfl) (h1 : (assignEach [tg] X.env).map (·.2) = [assign tg X.env] := by rfl) :
    PS X (.Assign [tg] e pos) (tS C (dAsg f g)) := by
  refine PS.w (ps_asg he hg hs hw h1) fun D σ H k => ?_
  refine (Go.bindE k).mono fun x H1 ⟨a, b, Z, ρ, vs, as, hb, _, S, k1⟩ => ?_
  obtain ⟨Z', _, S'⟩ := Sta.freeze (vs := vs) (as := as) S
  exact ⟨b, Z', ρ, vs, as, _, hb, S', R.sat_mono (R.sat_bind k1) (fun _ ρ' q Z' H' σ' S' _ => q Z' H' σ' S') fun _ _ q => q⟩
end
/-- a, b = x, y with plain local names -/
def dPar (o1 o2 : Bool) (i j : Nat) (f g : M A) : M Flow := f.bind fun a => g.bind fun c ρ => if i < ρ.length ∧ j < ρ.length ∧ i ≠ j then .ok .nx ((ρ.set i (some (frzB o1 a))).set j (some (frzB o2 c))) else .bad
section
variable {C : SC} {X : Cx} {a b : Expr} {f g : M A} {i j : Nat} {x y : Str} {px py pt pos : Pos} {kt k2 : Nat} {pt2 : Pos}
theorem Sta.frzTop {K : PySem.W.Frag} {mg : Str → Option Value} {b : Base} {Z H : Hp} {σ : St} {ρ : DEnv} {vs : List V} {as : List A} {x : V} {a : A} (o : Bool) (S : Sta K mg b Z H σ ρ (x :: vs) (a :: as)) : ∃ Z', Sta K mg b Z' H σ ρ (x :: vs) (frzB o a :: as) := by
  cases o with
  | true => exact ⟨Z, S⟩
  | false => obtain ⟨Z', _, S'⟩ := S.freeze; exact ⟨Z', S'⟩
theorem ds_par (o1 o2 : Bool) (hc : X.calm = true) (hN : X.N.Nodup) (hi : X.N[i]? = some x) (hj : X.N[j]? = some y) (hni : i ∉ C.pn) (hnj : j ∉ C.pn) (hx : X.env.scope.names.lookup x = some .local) (hy : X.env.scope.names.lookup y = some .local)
    (ha : PE X a (tE C f)) (hb : PE X b (tE C g)) (hij : i ≠ j) (hw : swappedStores [.Tuple [.Name x px, .Name y py] kt pt] (.Tuple [a, b] k2 pt2) X.env = pure (some [x, y]))
    (hs : swapsWithSole [.Tuple [.Name x px, .Name y py] kt pt] (.Tuple [a, b] k2 pt2) pos.line X.env = pure false := by rfl) (h1 : starEach (a :: [b]) X.env = (false, eval a X.env) :: starEach [b] X.env := by rfl) (h2 : starEach (b :: []) X.env = (false, eval b X.env) :: starEach [] X.env := by rfl) :
    PS X (.Assign [.Tuple [.Name x px, .Name y py] kt pt] (.Tuple [a, b] k2 pt2) pos) (tS C (dPar o1 o2 i j f g)) := by
  refine PS.w (ps_par hc hN hi hj hij hx hy (pa_cons ha (pa_cons hb pa_nil h2) h1) hw hs) fun D σ H k => ?_
  refine (Go.bindE k).mono fun u H1 ⟨c, k1⟩ => (Go.bindE k1).mono fun w H2 ⟨d, b, Z, ρ, vs, as, hb, _, S, k2⟩ => ?_
  dsimp only at k2
  split at k2
  · rename_i hz
    refine ⟨u, w, rfl, ?_⟩
    obtain ⟨Z1, S1⟩ := Sta.frzTop (vs := u :: vs) (as := c :: as) o2 S
    have S2 := (S1.rot (ws := [w]) (l := [frzB o2 d]) rfl)
    obtain ⟨Z2, S3⟩ := Sta.frzTop o1 S2
    have S4 := (S3.store (i := i) hz.1 (by rw [hb.pn]; exact hni))
    exact k2 _ _ _ (S4.store (i := j) (by rw [List.length_set]; exact hz.2.1) (by rw [hb.pn]; exact hnj))
  · exact k2.elim
end
end DD

namespace DD
open PySem PySem.Spec L2
open PyProof.Rows hiding St
variable [LamN]

def wipeE (ρ : DEnv) : List Nat → DEnv
  | [] => ρ
  | i :: sl => (wipeE ρ sl).set i none
def wipeF : DEnv → List Nat → DEnv
  | ρ, [] => ρ
  | ρ, i :: sl => wipeF (ρ.set i none) sl
def parkL (ρ : DEnv) : List Nat → List (Nat × D)
  | [] => []
  | i :: sl => match ρ[i]? with
    | some (some (.v d)) => (i, d) :: parkL ρ sl
    | _ => parkL ρ sl
def putL : List (Nat × D) → DEnv → DEnv
  | [], ρ => ρ
  | (i, d) :: l, ρ => putL l (ρ.set i (some (.v d)))
def wipeM (sl : List Nat) : M Unit := fun ρ => .ok () (wipeE ρ sl)
def compL (sl : List Nat) (g : D → M Unit) (p : M Bool) (elt : M A) : List D → M (List A)
  | [] => M.pure []
  | d :: ds => (g d).bind fun _ => p.bind fun k => if k = true then elt.bind fun a => (wipeM sl).bind fun _ => (compL sl g p elt ds).bind fun l => M.pure (a :: l)
      else (wipeM sl).bind fun _ => compL sl g p elt ds
def dComp (sl : List Nat) (src : M (List D)) (g : D → M Unit) (p : M Bool) (elt : M A) : M A := src.bind fun ds ρ =>
  if ds.length ≤ sizeLine then
    match compL sl g p elt ds (wipeE ρ sl) with
    | .ok l ρ' => .ok (.m l) (putL (parkL ρ sl) (wipeF ρ' sl))
    | _ => .bad
  else .bad

section
variable {K : PySem.W.Frag} {mg : Str → Option Value} {b : Base} {Z H : Hp} {σ : St} {ρ : DEnv} {vs ws xs : List V} {as l pa : List A} {x y : V} {a c : A} {d : D} {i : Nat} {p : Addr}
theorem Sta.wipes (S : Sta K mg b Z H σ ρ vs as) : ∀ {sl : List Nat}, (∀ i ∈ sl, i ∉ b.pn) → Sta K mg b Z H (wipe σ sl) (wipeE ρ sl) vs as
  | [], _ => S
  | i :: sl, h => (Sta.wipes S fun j hj => h j (List.mem_cons_of_mem _ hj)).wipe1 i none (h i List.mem_cons_self)
theorem wipe_none {σ : St} {j : Nat} : ∀ {sl : List Nat}, j ∈ sl → j < σ.length → (wipe σ sl)[j]? = some none
  | [], h, _ => by cases h
  | k :: sl, h, hl => by
    show ((wipe σ sl).set k none)[j]? = some none
    by_cases e : j = k
    · subst e
      rw [List.getElem?_set_self (by rw [wipe_length]; exact hl)]
    · rw [List.getElem?_set_ne (Ne.symm e)]
      rcases List.mem_cons.mp h with z | z
      · exact absurd z e
      · exact wipe_none z hl
theorem wipe_wipe {σ : St} {sl : List Nat} : ∀ {sl' : List Nat}, (∀ i ∈ sl', i ∈ sl) → wipe (wipe σ sl) sl' = wipe σ sl
  | [], _ => rfl
  | j :: sl', h => by
    show (wipe (wipe σ sl) sl').set j none = wipe σ sl
    rw [wipe_wipe fun i hi => h i (List.mem_cons_of_mem _ hi)]
    by_cases hj : j < σ.length
    · exact set_same (wipe_none (h j List.mem_cons_self) hj)
    · exact List.set_eq_of_length_le (by rw [wipe_length]; omega)
theorem bind_inv {α β : Type} {f : M α} {g : α → M β} {ρ ρ' : DEnv} {y : β} (h : f.bind g ρ = .ok y ρ') : ∃ a ρ1, f ρ = .ok a ρ1 ∧ g a ρ1 = .ok y ρ' := by
  unfold M.bind at h
  cases e : f ρ with
  | bad => rw [e] at h; cases h
  | exc _ _ => rw [e] at h; cases h
  | ok a ρ1 => rw [e] at h; exact ⟨a, ρ1, rfl, h⟩
theorem Sta.unwipe : ∀ {sl : List Nat} {ρ : DEnv}, sl.Nodup → (∀ i ∈ sl, i ∉ b.pn) → Sta K mg b Z H (wipe σ sl) ρ vs as → Sta K mg b Z H σ (wipeF ρ sl) vs as
  | [], _, _, _, S => S
  | i :: sl, ρ, nd, h, S => by
    have S1 := Sta.wipe1 S i ((wipe σ sl)[i]?.getD none) (h i List.mem_cons_self)
    have e : (wipe σ (i :: sl)).set i ((wipe σ sl)[i]?.getD none) = wipe σ sl := by
      show ((wipe σ sl).set i none).set i _ = _
      rw [List.set_set]
      by_cases hi : i < (wipe σ sl).length
      · exact set_same (by rw [List.getElem?_eq_getElem hi]; rfl)
      · rw [List.set_eq_of_length_le (by omega)]
    rw [e] at S1
    exact Sta.unwipe (sl := sl) (ρ := ρ.set i none) (List.nodup_cons.mp nd).2 (fun j hj => h j (List.mem_cons_of_mem _ hj)) S1
theorem Sta.park (S : Sta K mg b Z H σ ρ vs as) : ∀ sl : List Nat, ∃ xs, RepDs K mg Z xs ((parkL ρ sl).map (·.2)) ∧ xs.length = (parkL ρ sl).length ∧ ∀ (k : Nat) (q : Nat × D), (parkL ρ sl)[k]? = some q → q.1 ∈ sl ∧ ∃ x, xs[k]? = some x ∧ σ[q.1]? = some (some x)
  | [] => ⟨[], .nil, rfl, fun k q e => by simp [parkL] at e⟩
  | i :: sl => by
    obtain ⟨xs, r, hl, h⟩ := Sta.park S sl
    unfold parkL
    split
    · rename_i d hd
      obtain ⟨x, e, rx⟩ := S.slot hd
      refine ⟨x :: xs, .cons rx r, by simp [hl], fun k q ek => ?_⟩
      cases k with
      | zero =>
        simp at ek
        subst ek
        exact ⟨List.mem_cons_self, x, rfl, e⟩
      | succ k =>
        obtain ⟨h1, y, h2, h3⟩ := h k q (by simpa using ek)
        exact ⟨List.mem_cons_of_mem _ h1, y, by simpa using h2, h3⟩
    · exact ⟨xs, r, hl, fun k q ek => let ⟨h1, h2⟩ := h k q ek; ⟨List.mem_cons_of_mem _ h1, h2⟩⟩
theorem Sta.unpark : ∀ {pk : List (Nat × D)} {xs : List V} {ρ : DEnv}, Sta K mg b Z H σ ρ (xs ++ vs) (pk.map (fun q => A.v q.2) ++ as) → xs.length = pk.length → (∀ (k : Nat) (q : Nat × D), pk[k]? = some q → q.1 ∉ b.pn ∧ ∃ x, xs[k]? = some x ∧ σ[q.1]? = some (some x)) →
    Sta K mg b Z H σ (putL pk ρ) vs as
  | [], [], _, S, _, _ => S
  | [], _ :: _, _, _, e, _ => by simp at e
  | _ :: _, [], _, _, e, _ => by simp at e
  | q :: pk, x :: xs, ρ, S, e, h => by
    obtain ⟨h1, y, h2, h3⟩ := h 0 q rfl
    simp at h2
    subst h2
    have S1 := Sta.store (i := q.1) (vs := xs ++ vs) (as := pk.map (fun q => A.v q.2) ++ as) S (by rw [← S.len]; exact (List.getElem?_eq_some_iff.mp h3).1) h1
    rw [set_same h3] at S1
    exact Sta.unpark (pk := pk) (xs := xs) (ρ := ρ.set q.1 (some (.v q.2))) S1 (by simpa using e) fun k q' ek => h (k + 1) q' (by simpa using ek)
/-- a pending value goes behind a pending list -/
theorem Sta.appPend (S : Sta K mg b Z H σ ρ (x :: y :: vs) (.m l :: a :: as)) : ∃ p xs, x = .ref p ∧ H p = some (.lst xs) ∧ xs.length = l.length ∧ Sta K mg b Z (upd H p (.lst (xs ++ [y]))) σ ρ (x :: vs) (.m (l ++ [a]) :: as) := by
  obtain ⟨f, g, h1, h2, h3, h4, h5⟩ := S.rep
  cases h2 with
  | @cons _ _ _ _ fl g0 r1 r0 =>
    cases r0 with
    | @cons _ _ _ _ fa g1 r2 r3 =>
      cases r1 with
      | @m p xs _ fl hp rl =>
        have cp : ∀ q, f.count q + ((fl.count q + if p = q then 1 else 0) + (fa.count q + g1.count q)) ≤ 1 := fun q => by
          have := h3 q
          rw [List.count_append, List.count_append, List.count_cons] at this
          simp only [beq_iff_eq] at this
          omega
        have zp : Z p = none := h4 p (.inr (List.mem_append_left _ List.mem_cons_self))
        have np : ∀ {q : Addr}, (0 < f.count q ∨ 0 < fl.count q ∨ 0 < fa.count q ∨ 0 < g1.count q) → q ≠ p := fun {q} hq e => by
          have := cp q
          rw [if_pos e.symm] at this
          omega
        have bp : Fre b.H p := h5 p (List.mem_append_left _ List.mem_cons_self)
        refine ⟨p, xs, rfl, hp, rl.length, S.zz, fun q u eq => ?_, S.kz, fun q u eq hq hn => ?_, fun q hq => ?_, ⟨tabs_upd S.sd.tabs hp (.inl ⟨_, rfl⟩), S.sd.nt, S.sd.kn⟩, S.pin, S.lw, f, (p :: (fl ++ (fa ++ []))) ++ g1, h1.mono (Same.refl Z) (fun q hq => upd_ne (np (.inl (mem_count hq)))) (fun _ _ _ z => z), ?_, fun q => ?_, fun q hq => ?_, fun q hq => ?_⟩
        · rw [upd_ne (fun e => by rw [e, zp] at eq; cases eq)]; exact S.zh _ _ eq
        · rw [upd_ne (fun e => by rw [e] at eq; exact Fre.no eq hn bp)]; exact S.kh _ _ eq hq hn
        · by_cases e : q = p
          · rw [e] at hq; exact (Fre.no upd_same (fun ps z => by cases z) hq).elim
          · exact S.kd q fun o e' => hq o (by rw [upd_ne e]; exact e')
        · refine .cons (.m upd_same ?_) (RepAs.mono (Same.refl Z) _ _ _ (fun q hq => upd_ne (np (.inr (.inr (.inr (mem_count hq)))))) r3)
          refine (RepAs.mono (Same.refl Z) _ _ _ (fun q hq => upd_ne (np (.inr (.inl (mem_count hq))))) rl).append (.cons (RepA.mono (Same.refl Z) _ _ _ (fun q hq => upd_ne (np (.inr (.inr (.inl (mem_count hq)))))) r2) .nil)
        · have := cp q
          rw [List.append_nil, List.count_append, List.count_cons, List.count_append]
          simp only [beq_iff_eq]
          omega
        · refine h4 q (hq.imp id fun z => ?_)
          rw [List.append_nil] at z
          rcases List.mem_append.mp z with z | z
          · rcases List.mem_cons.mp z with z | z
            · exact List.mem_append_left _ (z ▸ List.mem_cons_self)
            · rcases List.mem_append.mp z with z | z
              · exact List.mem_append_left _ (List.mem_cons_of_mem _ z)
              · exact List.mem_append_right _ (List.mem_append_left _ z)
          · exact List.mem_append_right _ (List.mem_append_right _ z)
        · refine h5 q ?_
          rw [List.append_nil] at hq
          rcases List.mem_append.mp hq with z | z
          · rcases List.mem_cons.mp z with z | z
            · exact List.mem_append_left _ (z ▸ List.mem_cons_self)
            · rcases List.mem_append.mp z with z | z
              · exact List.mem_append_left _ (List.mem_cons_of_mem _ z)
              · exact List.mem_append_right _ (List.mem_append_left _ z)
          · exact List.mem_append_right _ (List.mem_append_right _ z)
/-- .. over others that lie between -/
theorem Sta.appPend2 (S : Sta K mg b Z H σ ρ (y :: (ws ++ .ref p :: vs)) (a :: (pa ++ .m l :: as))) (hl : ws.length = pa.length) :
    ∃ xs, H p = some (.lst xs) ∧ xs.length = l.length ∧ Sta K mg b Z (upd H p (.lst (xs ++ [y]))) σ ρ (ws ++ .ref p :: vs) (pa ++ .m (l ++ [a]) :: as) := by
  have S1 := Sta.rot (ws := y :: ws) (l := a :: pa) S (by simp [hl])
  obtain ⟨p', xs, e, hp, hx, S2⟩ := Sta.appPend S1
  cases e
  exact ⟨xs, hp, hx, Sta.unrot S2 hl⟩
end

section
variable {X : Cx} {C : SC} {elt tg iter c : Expr} {ifs : List Expr} {scope : Scope} {own : List (Str × Nat)} {pos : Pos} {src : M (List D)} {g : D → M Unit} {p : M Bool} {f : M A}
theorem PTs.w {t t' : TT} (h : PTs X ifs t) (k : ∀ σ H Q, t' σ H Q → t σ H Q) : PTs X ifs t' := ⟨fun pins s σ H Q I hw => h.run pins s σ H Q I (k σ H Q hw)⟩
theorem dts_nil : PTs X [] (tT C (M.pure true)) := PTs.w pts_nil fun σ H Q k => go_tpure k
theorem dts_one (h : PT X c (tT C p)) : PTs X [c] (tT C p) := pts_one h
/-- the context within a comprehension: nothing raises -/
def SC.nox (C : SC) : SC := { C with W := fun _ _ _ _ => False }
theorem go_comp {σ : St} {H : Hp} {Q : VK} (nd : (own.map (·.2)).Nodup) (np : ∀ i ∈ own.map (·.2), i ∉ C.pn) (k : tE C (dComp (own.map (·.2)) src g p f) σ H Q) :
    tLc (tI C src) (tG C.nox (own.map (·.2)) g) (tT C.nox p) (tE C.nox f) (own.map (·.2)) σ H Q := by
  generalize hsl : own.map (·.2) = sl at *
  obtain ⟨b, Z, ρ, vs, as, hb, hl, S, k⟩ := k
  refine ⟨b, Z, ρ, vs, as, hb, rfl, S, R.sat_mono (R.sat_bind k) (fun ds ρ1 q Z1 H1 ws pa J hl S1 hJ D hD => ?_) fun _ _ q => q⟩
  have np' : ∀ i ∈ sl, i ∉ b.pn := fun i hi => by rw [hb.pn]; exact np i hi
  split at q
  · rename_i hz
    cases ec : compL sl g p f ds (wipeE ρ1 sl) with
    | bad => rw [ec] at q; exact q.elim
    | exc e ρ2 => rw [ec] at q; exact q.elim
    | ok l0 ρ2 =>
      rw [ec] at q
      -- the new list, the parked values, the slots wiped
      have S2 : Sta C.K C.mg b Z1 (upd H1 D (.lst [])) σ ρ1 (.ref D :: (ws ++ vs)) (.m [] :: (pa ++ as)) := Sta.newM (ws := []) (l := []) S1 rfl hD
      obtain ⟨xs, rp, lp, hp⟩ := S2.park sl
      have S2' := S2.unrot hl
      have S3 : Sta C.K C.mg b Z1 (upd H1 D (.lst [])) σ ρ1 (xs ++ (ws ++ .ref D :: vs)) ((parkL ρ1 sl).map (fun q => A.v q.2) ++ (pa ++ .m [] :: as)) := by
        have := S2'.pushes rp
        rwa [List.map_map] at this
      -- parked below all
      have S4 : ∀ {ys : List V} {bs : List A} {vs' : List V} {as' : List A} {H' Z' : Hp} {σ' : St} {ρ' : DEnv}, ys.length = bs.length → ∀ {xs' : List V} {ps : List A}, xs'.length = ps.length → Sta C.K C.mg b Z' H' σ' ρ' (xs' ++ (ys ++ vs')) (ps ++ (bs ++ as')) → Sta C.K C.mg b Z' H' σ' ρ' (ys ++ (xs' ++ vs')) (bs ++ (ps ++ as')) := by
        intro ys bs vs' as' H' Z' σ' ρ' hy
        intro xs'
        induction xs' generalizing vs' as' with
        | nil =>
          intro ps hps S
          have : ps = [] := List.eq_nil_of_length_eq_zero (by simpa using hps.symm)
          subst this
          exact S
        | cons x xs' ih =>
          intro ps hps S
          match ps, hps with
          | c :: ps, hps =>
            have hps' : xs'.length = ps.length := by simpa using hps
            -- x :: (xs' ++ (ys ++ vs')) : bring x below ys: first put xs' below
            have T1 : Sta C.K C.mg b Z' H' σ' ρ' (xs' ++ x :: (ys ++ vs')) (ps ++ c :: (bs ++ as')) := Sta.unrot (ws := xs') (l := ps) S hps'
            have T2 : Sta C.K C.mg b Z' H' σ' ρ' ((xs' ++ ys) ++ x :: vs') ((ps ++ bs) ++ c :: as') := by
              have e1 : ∀ {zs : List V} {cs : List A}, zs.length = cs.length → Sta C.K C.mg b Z' H' σ' ρ' (zs ++ x :: (ys ++ vs')) (cs ++ c :: (bs ++ as')) → Sta C.K C.mg b Z' H' σ' ρ' ((zs ++ ys) ++ x :: vs') ((cs ++ bs) ++ c :: as') := by
                intro zs cs hz T
                have U := T.rot hz
                rw [← List.append_assoc, ← List.append_assoc] at U
                exact Sta.unrot (ws := zs ++ ys) (l := cs ++ bs) U (by simp [hz, hy])
              exact e1 hps' T1
            have T3 := Sta.rot (ws := xs' ++ ys) (l := ps ++ bs) T2 (by simp [hps', hy])
            -- x :: ((xs' ++ ys) ++ vs')
            have T4 := T3.pop
            rw [List.append_assoc, List.append_assoc] at T4
            have T2' : Sta C.K C.mg b Z' H' σ' ρ' (xs' ++ (ys ++ x :: vs')) (ps ++ (bs ++ c :: as')) := by
              rw [List.append_assoc, List.append_assoc] at T2; exact T2
            have T5 := ih (vs' := x :: vs') (as' := c :: as') hps' T2'
            -- ys ++ (xs' ++ x :: vs')
            have T6 : Sta C.K C.mg b Z' H' σ' ρ' ((ys ++ xs') ++ x :: vs') ((bs ++ ps) ++ c :: as') := by
              rw [List.append_assoc, List.append_assoc]; exact T5
            have T7 := Sta.rot (ws := ys ++ xs') (l := bs ++ ps) T6 (by simp [hps', hy])
            rw [List.append_assoc, List.append_assoc] at T7
            exact Sta.unrot (ws := ys) (l := bs) T7 hy
      have S5 : Sta C.K C.mg b Z1 (upd H1 D (.lst [])) (wipe σ sl) (wipeE ρ1 sl) (ws ++ .ref D :: (xs ++ vs)) (pa ++ .m [] :: ((parkL ρ1 sl).map (fun q => A.v q.2) ++ as)) := by
        have T : Sta C.K C.mg b Z1 (upd H1 D (.lst [])) σ ρ1 (xs ++ ((ws ++ [.ref D]) ++ vs)) ((parkL ρ1 sl).map (fun q => A.v q.2) ++ ((pa ++ [.m []]) ++ as)) := by simpa using S3
        have T2 := S4 (ys := ws ++ [.ref D]) (bs := pa ++ [.m []]) (by simp [hl]) (by simp [lp]) T
        have T3 := T2.wipes np'
        simpa using T3
      refine ⟨fun i m H => ∃ Z ρ acc, Sta C.K C.mg b Z H (wipe σ sl) ρ (ws ++ .ref D :: (xs ++ vs)) (pa ++ .m acc :: ((parkL ρ1 sl).map (fun q => A.v q.2) ++ as)) ∧ acc.length ≤ i ∧ i + m = ds.length ∧
        ∃ l ρ', compL sl g p f (ds.drop i) ρ = .ok l ρ' ∧ finE C σ Q b vs as (.m (acc ++ l)) (putL (parkL ρ1 sl) (wipeF ρ' sl)), ⟨ds.length, Z1, _, [], S5, Nat.le_refl _, by omega, l0, ρ2, by simpa using ec, q⟩, ?_⟩
      rintro i m H2 ⟨Z2, ρ3, acc, T, la, em, l, ρ4, el, q1⟩
      obtain ⟨turn, stop⟩ := hJ b Z2 H2 (wipe σ sl) ρ3 _ _ T
      by_cases hi : i < ds.length
      · obtain ⟨go, yld⟩ := turn i ds[i] (List.getElem?_eq_getElem hi)
        rw [List.drop_eq_getElem_cons hi] at el
        unfold compL at el
        refine .inr ⟨go, fun H3 => ∃ Z ρ acc, Sta C.K C.mg b Z H3 (wipe σ sl) ρ (ws ++ .ref D :: (xs ++ vs)) (pa ++ .m acc :: ((parkL ρ1 sl).map (fun q => A.v q.2) ++ as)) ∧ acc.length ≤ i + 1 ∧
          ∃ l ρ', compL sl g p f (ds.drop (i + 1)) ρ = .ok l ρ' ∧ finE C σ Q b vs as (.m (acc ++ l)) (putL (parkL ρ1 sl) (wipeF ρ' sl)), fun H3 ⟨Z3, ρ5, acc', T3, la', h⟩ => ⟨m - 1, by omega, Z3, ρ5, acc', T3, la', by omega, h⟩, fun x H3 hy => ?_⟩
        obtain ⟨Z3, T3⟩ := yld x H3 hy
        refine ⟨b, Z3, ρ3, _, _, ds[i], ⟨hb.pn, hb.kn⟩, T3, ?_⟩
        obtain ⟨u, ρ5, e1, el⟩ := bind_inv el
        obtain ⟨kk, ρ6, e2, el⟩ := bind_inv el
        rw [e1]
        intro Z4 H4 σ4 T4 w4
        have w4' : wipe σ4 sl = wipe σ sl := w4.trans (wipe_wipe fun _ h => h)
        refine ⟨w4', ⟨b, Z4, ρ5, _, _, ⟨hb.pn, hb.kn⟩, rfl, T4, ?_⟩⟩
        rw [e2]
        intro Z5 H5 T5
        cases kk with
        | true =>
          rw [if_pos rfl]
          rw [if_pos rfl] at el
          obtain ⟨a, ρ7, e3, elB⟩ := bind_inv el
          obtain ⟨u2, ρ9, e5, elC⟩ := bind_inv elB
          obtain ⟨l', ρ8, e4, elD⟩ := bind_inv elC
          clear el elB elC
          have e5 : R.ok () (wipeE ρ7 sl) = R.ok u2 ρ9 := e5
          injection e5 with _ e5
          subst e5
          have elD : R.ok (a :: l') ρ8 = R.ok l ρ4 := elD
          injection elD with el1 el2
          subst el1 el2
          refine ⟨b, Z5, ρ6, _, _, ⟨hb.pn, hb.kn⟩, rfl, T5, ?_⟩
          rw [e3]
          intro Z6 H6 y T6
          obtain ⟨av, hD6, lav, T7⟩ := Sta.appPend2 T6 hl
          refine ⟨av, hD6, by rw [lav]; omega, Z6, wipeE ρ7 sl, acc ++ [a], ?_, by simp; omega, l', _, e4, by simpa using q1⟩
          have := T7.wipes np'
          rw [w4'] at this
          exact this
        | false =>
          rw [if_neg (by decide)]
          rw [if_neg (by decide)] at el
          obtain ⟨u2, ρ9, e5, el⟩ := bind_inv el
          have e5 : R.ok () (wipeE ρ6 sl) = R.ok u2 ρ9 := e5
          injection e5 with _ e5
          subst e5
          refine ⟨Z5, wipeE ρ6 sl, acc, ?_, by omega, l, ρ4, el, q1⟩
          have := T5.wipes np'
          rw [w4'] at this
          exact this
      · have e : i = ds.length := by omega
        subst e
        rw [List.drop_length] at el
        simp only [compL, M.pure, R.ok.injEq] at el
        obtain ⟨el1, el2⟩ := el
        subst el1 el2
        refine .inl ⟨stop, ?_⟩
        have U := (T.pops hl).unwipe nd np'
        have U2 := Sta.unrot (ws := xs) (l := (parkL ρ1 sl).map (fun q => A.v q.2)) U (by simp [lp])
        have U3 := Sta.unpark U2 lp fun kk q ek => let ⟨h1, h2⟩ := hp kk q ek; ⟨np' _ h1, h2⟩
        simpa using q1 _ _ _ (by simpa using U3)
  · exact q.elim
theorem de_comp (nd : (own.map (·.2)).Nodup) (np : ∀ i ∈ own.map (·.2), i ∉ C.pn) (hc : X.calm = true) (hN : X.N.Nodup) (hi : PI X tg iter (tI C src)) (ok : BlkOk X.N X.env.scope scope own)
    (hg : ∀ (s : Shared) (H : Hp) (D : Addr) (cl : List (Str × Addr)) (fp : List Addr), PG (X.blk s H scope (compEnvC scope cl D X.env) fp) tg (tG C.nox (own.map (·.2)) g)) (ht : ∀ (s : Shared) (H : Hp) (D : Addr) (cl : List (Str × Addr)) (fp : List Addr), PTs (X.blk s H scope (compEnvC scope cl D X.env) fp) ifs (tT C.nox p))
    (he : ∀ (s : Shared) (H : Hp) (D : Addr) (cl : List (Str × Addr)) (fp : List Addr), PE (X.blk s H scope (compEnvC scope cl D X.env) fp) elt (tE C.nox f)) (hs : ∀ x, foldedSetIterable iter X.env x = pure x := by intro _; rfl) :
    PE X (.ListComp elt [⟨tg, iter, ifs, 0⟩] scope pos) (tE C (dComp (own.map (·.2)) src g p f)) :=
  PE.w (pe_lc hc hN hi ok hg ht he hs) fun σ H Q k => go_comp nd np k
/-- name = [..] on one line -/
theorem ds_setComp {i : Nat} {y : Str} {py spos : Pos} (o : Bool) (hni : i ∉ C.pn) (nd : (own.map (·.2)).Nodup) (np : ∀ i ∈ own.map (·.2), i ∉ C.pn) (hc : X.calm = true) (hN : X.N.Nodup) (hy : X.N[i]? = some y) (hyl : X.env.scope.names.lookup y = some .local)
    (hsw : swapsWith (.ListComp elt [⟨tg, iter, ifs, 0⟩] scope pos) (some (.Name y py)) spos.line X.env = pure true) (hi : PI X tg iter (tI C src)) (ok : BlkOk X.N X.env.scope scope own)
    (hg : ∀ (s : Shared) (H : Hp) (D : Addr) (cl : List (Str × Addr)) (fp : List Addr), PG (X.blk s H scope (compEnvC scope cl D X.env) fp) tg (tG C.nox (own.map (·.2)) g)) (ht : ∀ (s : Shared) (H : Hp) (D : Addr) (cl : List (Str × Addr)) (fp : List Addr), PTs (X.blk s H scope (compEnvC scope cl D X.env) fp) ifs (tT C.nox p))
    (he : ∀ (s : Shared) (H : Hp) (D : Addr) (cl : List (Str × Addr)) (fp : List Addr), PE (X.blk s H scope (compEnvC scope cl D X.env) fp) elt (tE C.nox f)) (hs : ∀ x, foldedSetIterable iter X.env x = pure x := by intro _; rfl) :
    PS X (.Assign [.Name y py] (.ListComp elt [⟨tg, iter, ifs, 0⟩] scope pos) spos) (tS C (dSet o i (dComp (own.map (·.2)) src g p f))) := by
  refine PS.w (ps_setLc hc hN hy hyl hsw hi ok hg ht he hs) fun D σ H k => ?_
  exact go_comp nd np ((Go.bindE k).mono fun y H1 ⟨u, k1⟩ => go_store hni k1)
end

def dAppend (i : Nat) (o : Bool) (f : M A) : M A := fun ρ => match ρ[i]? with
  | some (some (.m _)) => (f.bind fun a ρ => match ρ[i]? with
    | some (some (.m l)) => if l.length < sizeLine then .ok (.v .non) (ρ.set i (some (.m (l ++ [frzB o a])))) else .bad
    | _ => .bad) ρ
  | _ => .bad
def dPopAt (i : Nat) (f : M A) : M A := fun ρ => match ρ[i]? with
  | some (some (.m _)) => (f.bind fun a ρ => match ρ[i]?, a with
    | some (some (.m l)), .v (.int n) => if -(2 ^ 63) ≤ n ∧ n < 2 ^ 63 then (match seqIndex? n l.length with
      | some k => (match l[k]? with
        | some (.v d) => .ok (.v d) (ρ.set i (some (.m (l.eraseIdx k))))
        | _ => .bad)
      | none => .bad) else .bad
    | _, _ => .bad) ρ
  | _ => .bad
def dSetItem (i : Nat) (o : Bool) (f g : M A) : M Flow := f.bind fun a ρ => match ρ[i]? with
  | some (some (.m _)) => (g.bind fun c ρ => match ρ[i]?, c with
    | some (some (.m l)), .v (.int n) => (match ixN l.length n with
      | some k => .ok .nx (ρ.set i (some (.m (l.set k (frzB o a)))))
      | none => .bad)
    | _, _ => .bad) ρ
  | _ => .bad
section
variable {X : Cx} {C : SC} {e e2 : Expr} {f g : M A} {i : Nat} {x : Str} {p apos cpos pos pos' : Pos}
theorem go_slot {α : Type} {fin : Fin α} {ps : List V} {pa : List A} {σ : St} {H : Hp} {h : M α} (k : Go C fin ps pa (fun ρ => match ρ[i]? with
    | some (some (.m _)) => h ρ
    | _ => .bad) σ H) : (∃ q xs, σ[i]? = some (some (.ref q)) ∧ H q = some (.lst xs)) ∧ Go C fin ps pa h σ H := by
  obtain ⟨b, Z, ρ, vs, as, hb, hl, S, k⟩ := k
  dsimp only at k
  split at k
  · rename_i l hl2
    obtain ⟨q, xs, fl, e1, hp, _, _⟩ := S.readL hl2
    exact ⟨⟨q, xs, e1, hp⟩, b, Z, ρ, vs, as, hb, hl, S, k⟩
  · exact k.elim
theorem de_append (o : Bool) (hN : X.N[i]? = some x) (hv : Vis X.env.scope x) (ha : PE X e (tE C f)) (hd : (x == ("__debug__" : Str)) = false := by decide) (hcd : (x == ("__classdict__" : Str)) = false := by decide)
    (hbase : attributeBase (.Name x p) "append" X.env (eval (.Name x p) X.env) = eval (.Name x p) X.env := by rfl)
    (hfew : ((backTo cpos (starEach (e :: []) X.env)).all (fun x => !x.1) && (backToKw cpos (keywordEach [] X.env)).all (fun x => x.1.isSome)
      && decide ((e :: ([] : List Expr)).length + ([] : List Keyword).length + (if ([] : List Keyword).isEmpty then 0 else 1) < 30)) = true := by rfl)
    (hline : (apos.endLine == cpos.line) = true := by rfl) (hs : starEach (e :: []) X.env = (false, eval e X.env) :: starEach [] X.env := by rfl) (hplain : (backTo cpos (starEach [] X.env)).any (·.1) = false := by rfl) :
    PE X (.Call (.Attribute (.Name x p) "append" apos) [e] [] cpos) (tE C (dAppend i o f)) := by
  refine PE.w (pe_bm PySem.F.plainAttrs_list PySem.F.slot_list_append PySem.F.type_list_append mt_append (pe_var hN hv hd hcd) (pa_cons ha pa_nil hs) hbase hfew hline hs hplain) fun σ H Q k => ?_
  obtain ⟨⟨q, xs, e1, hp⟩, k⟩ := go_slot k
  refine ⟨.ref q, e1, .inl ⟨rfl, xs, SqL.of hp⟩, ?_⟩
  refine (Go.bindE k).mono fun y H1 h1 => ?_
  obtain ⟨a, b, Z, ρ, vs, as, hb, -, S, k1⟩ := h1
  dsimp only at k1
  split at k1
  · rename_i l hl
    split at k1
    · rename_i hz
      obtain ⟨Z', S'⟩ := Sta.frzTop (vs := vs) (as := as) o S
      obtain ⟨q', xs', e2, hp', lx, S2⟩ := S'.append hl
      rw [e1] at e2
      cases e2
      exact ⟨q, xs', y, rfl, rfl, hp', by rw [lx]; exact hz, k1 _ _ _ (S2.push .non)⟩
    · exact k1.elim
  · exact k1.elim
theorem de_popAt (hN : X.N[i]? = some x) (hv : Vis X.env.scope x) (ha : PE X e (tE C f)) (hd : (x == ("__debug__" : Str)) = false := by decide) (hcd : (x == ("__classdict__" : Str)) = false := by decide)
    (hbase : attributeBase (.Name x p) "pop" X.env (eval (.Name x p) X.env) = eval (.Name x p) X.env := by rfl)
    (hfew : ((backTo cpos (starEach (e :: []) X.env)).all (fun x => !x.1) && (backToKw cpos (keywordEach [] X.env)).all (fun x => x.1.isSome)
      && decide ((e :: ([] : List Expr)).length + ([] : List Keyword).length + (if ([] : List Keyword).isEmpty then 0 else 1) < 30)) = true := by rfl)
    (hline : (apos.endLine == cpos.line) = true := by rfl) (hs : starEach (e :: []) X.env = (false, eval e X.env) :: starEach [] X.env := by rfl) (hplain : (backTo cpos (starEach [] X.env)).any (·.1) = false := by rfl) :
    PE X (.Call (.Attribute (.Name x p) "pop" apos) [e] [] cpos) (tE C (dPopAt i f)) := by
  refine PE.w (pe_bm PySem.F.plainAttrs_list PySem.F.slot_list_pop PySem.F.type_list_pop mt_popAt (pe_var hN hv hd hcd) (pa_cons ha pa_nil hs) hbase hfew hline hs hplain) fun σ H Q k => ?_
  obtain ⟨⟨q, xs, e1, hp⟩, k⟩ := go_slot k
  refine ⟨.ref q, e1, .inl ⟨rfl, xs, SqL.of hp⟩, ?_⟩
  refine (Go.bindE k).mono fun y H1 h1 => ?_
  obtain ⟨a, b, Z, ρ, vs, as, hb, -, S, k1⟩ := h1
  dsimp only at k1
  split at k1
  · rename_i l n hl
    split at k1
    · rename_i hz
      split at k1
      · rename_i kk hk
        split at k1
        · rename_i d hd2
          have t := Sta.top (vs := vs) (as := as) S
          cases t
          obtain ⟨q', xs', w, e2, hp', lx, hx, S2⟩ := (Sta.pop (vs := vs) (as := as) S).popat hl hd2
          rw [e1] at e2
          cases e2
          exact ⟨q, xs', _, kk, w, rfl, rfl, hp', hz.1, hz.2, by rw [lx]; exact hk, hx, k1 _ _ _ S2⟩
        · exact k1.elim
      · exact k1.elim
    · exact k1.elim
  · exact k1.elim
theorem ds_setitem (o : Bool) (hN : X.N[i]? = some x) (hv : Vis X.env.scope x) (he : PE X e (tE C f)) (hi : PE X e2 (tE C g)) (hd : (x == ("__debug__" : Str)) = false := by decide) (hcd : (x == ("__classdict__" : Str)) = false := by decide)
    (hsv : ∀ v, assign (.Subscript (.Name x p) e2 pos') X.env v = (do
      let ov ← holding [v] (eval (.Name x p) X.env)
      let iv ← holding [v, ov] (eval e2 X.env)
      standAt pos'
      holding [v, ov, iv] (setItem ov iv v)
      release [v, ov, iv] []) := by intro _; rfl)
    (hs : swapsWithSole [.Subscript (.Name x p) e2 pos'] e pos.line X.env = pure false := by rfl) (hw : swappedStores [.Subscript (.Name x p) e2 pos'] e X.env = pure none := by rfl)
    (h1 : (assignEach [.Subscript (.Name x p) e2 pos'] X.env).map (·.2) = [assign (.Subscript (.Name x p) e2 pos') X.env] := by rfl) : PS X (.Assign [.Subscript (.Name x p) e2 pos'] e pos) (tS C (dSetItem i o f g)) := by
  refine PS.w (ps_asg he (pg_sub (pe_var hN hv hd hcd) hi set_list hsv) hs hw h1) fun D σ H k => ?_
  refine (Go.bindE k).mono fun y H1 ⟨a, k1⟩ => ?_
  obtain ⟨⟨q, xs, e1, hp⟩, k1⟩ := go_slot k1
  refine ⟨.ref q, e1, (Go.bindE k1).mono fun z H2 h2 => ?_⟩
  obtain ⟨c, b, Z, ρ, vs, as, hb, -, S, k2⟩ := h2
  dsimp only at k2
  split at k2
  · rename_i l n hl
    split at k2
    · rename_i kk hk
      have t := Sta.top (vs := y :: vs) (as := a :: as) S
      cases t
      obtain ⟨Z', S'⟩ := Sta.frzTop o (Sta.pop (vs := y :: vs) (as := a :: as) S)
      have hkk : kk < l.length := (ixN_seq hk).2.1
      obtain ⟨q', xs', e3, hp', lx, S2⟩ := S'.setitem hl hkk
      rw [e1] at e3
      cases e3
      exact ⟨q, xs', n, kk, rfl, rfl, hp', by rw [lx]; exact hk, k2 _ _ _ S2⟩
    · exact k2.elim
  · exact k2.elim
/-- x[e], x a list of one's own: an item that is frozen data -/
def dIxOwn (i : Nat) (f : M A) : M A := fun ρ => match ρ[i]? with
  | some (some (.m _)) => (f.bind fun a ρ => match ρ[i]?, a with
    | some (some (.m l)), .v (.int n) => (match atI l n with
      | some (.v d) => .ok (.v d) ρ
      | _ => .bad)
    | _, _ => .bad) ρ
  | _ => .bad
theorem de_ixOwn (hK : X.K = C.K) (hN : X.N[i]? = some x) (hv : Vis X.env.scope x) (ha : PE X e (tE C f)) (hpl : PlainIx e) (hd : (x == ("__debug__" : Str)) = false := by decide) (hcd : (x == ("__classdict__" : Str)) = false := by decide) :
    PE X (.Subscript (.Name x p) e pos) (tE C (dIxOwn i f)) := by
  refine PE.w (pe_ix ix_seq (pe_var hN hv hd hcd) ha hpl) fun σ H Q k => ?_
  obtain ⟨⟨q, xs, e1, hp⟩, k⟩ := go_slot k
  refine ⟨.ref q, e1, (Go.bindE k).mono fun y H1 h1 => ?_⟩
  obtain ⟨a, b, Z, ρ, vs, as, hb, -, S, k1⟩ := h1
  dsimp only at k1
  split at k1
  · rename_i l n hl
    split at k1
    · rename_i d hat
      have t := Sta.top (vs := vs) (as := as) S
      cases t
      obtain ⟨q', xs', fl, e2, hp', lx, r⟩ := Sta.readL S hl
      rw [e1] at e2
      cases e2
      unfold atI at hat
      cases ek : ixN l.length n with
      | none => rw [ek] at hat; cases hat
      | some kk =>
        rw [ek] at hat
        obtain ⟨w, fa, hw, ra, _⟩ := r.at (i := kk) hat
        cases ra with
        | v rd =>
          refine .inl ⟨q, xs', n, w, rfl, rfl, SqL.of hp', ?_, k1 _ _ _ ((Sta.pop (vs := vs) (as := as) S).push rd)⟩
          unfold atI
          rw [lx, ek]
          exact hw
    · exact k1.elim
  · exact k1.elim
/-- len(x), x a list of one's own -/
def dLenOwn (i : Nat) : M A := fun ρ => match ρ[i]? with
  | some (some (.m l)) => .ok (.v (.int l.length)) ρ
  | _ => .bad
theorem de_lenOwn {p0 : Pos} (hg : Gl X "len") (hm : X.mg "len" = none) (hK : X.K = C.K) (hN : X.N[i]? = some x) (hv : Vis X.env.scope x) (hd : (x == ("__debug__" : Str)) = false := by decide) (hcd : (x == ("__classdict__" : Str)) = false := by decide)
    (he : starEach (.Name x p :: []) X.env = (false, eval (.Name x p) X.env) :: starEach [] X.env := by rfl) (hpl : (backTo pos (starEach [] X.env)).any (·.1) = false := by rfl) : PE X (.Call (.Name "len" p0) [.Name x p] [] pos) (tE C (dLenOwn i)) := by
  refine PE.w (pe_callB cl_len hg hm PySem.boot_len (pa_cons (pe_var hN hv hd hcd) pa_nil he) (by decide) (by decide) he hpl) fun σ H Q ⟨b, Z, ρ, vs, as, hb, _, S, k⟩ => ?_
  unfold dLenOwn at k
  split at k
  · rename_i l hl
    obtain ⟨q, xs, fl, e1, hp, lx, r⟩ := Sta.readL S hl
    exact ⟨.ref q, e1, .inl ⟨q, xs, rfl, .inl (SqL.of hp), by rw [lx]; exact k _ _ _ (S.push (.int _))⟩⟩
  · exact k.elim
/-- a module's constant -/
theorem de_glob {d : D} {v : V} {u : Value} (hg : Gl X x) (hm : X.mg x = some u) (r : RelV v u) (rd : ∀ Z, RepD C.K C.mg Z v d) (hd : (x == ("__debug__" : Str)) = false := by decide) : PE X (.Name x pos) (tE C (dC d)) :=
  PE.w (pe_glob hg hm r hd) fun σ H Q k => go_pure k rd
end
end DD

namespace DD
open PySem PySem.Spec L2
open PyProof.Rows hiding St
variable [LamN]

def intA : A → Option Int
  | .v (.int i) => some i
  | _ => none
theorem intA_of {a : A} {i : Int} (h : intA a = some i) : a = .v (.int i) := by
  unfold intA at h
  split at h
  · cases h; rfl
  · cases h
def two2 (a c : A) : Option (Int × Int) := (intA a).bind fun i => (intA c).map fun j => (i, j)
theorem two2_of {a c : A} {z : Int × Int} (h : two2 a c = some z) : a = .v (.int z.1) ∧ c = .v (.int z.2) := by
  unfold two2 at h
  cases e1 : intA a with
  | none => rw [e1] at h; cases h
  | some i =>
    cases e2 : intA c with
    | none => rw [e1, e2] at h; cases h
    | some j =>
      rw [e1, e2] at h
      cases h
      exact ⟨intA_of e1, intA_of e2⟩
/-- a op b op' c of ints -/
def dChain (p q : Int → Int → Bool) (f g h : M A) : M A := f.bind fun a => g.bind fun c => (ofO (two2 a c)).bind fun z => if p z.1 z.2 = true then h.bind fun d => ofO ((intA d).map fun k => .v (.bl (q z.2 k))) else M.pure (.v (.bl false))
section
variable {X : Cx} {C : SC} {a b c : Expr} {f g h : M A} {pos : Pos} {op op' : CmpOp} {p q : Int → Int → Bool}
theorem go_chain {σ : St} {H : Hp} {Q : VK} (k : tE C (dChain p q f g h) σ H Q) : tChain (rI0 fun i j => .bl (p i j)) (rI0 fun i j => .bl (q i j)) (tE C f) (tE C g) (tE C h) σ H Q := by
  refine (Go.bindE k).mono fun x H1 ⟨u, k1⟩ => (Go.bindE k1).mono fun y H2 ⟨w, b, Z, ρ, vs, as, hb, hl, S, k2⟩ => ?_
  have k2a := R.sat_bind k2
  clear k2
  cases e : two2 u w with
  | none => rw [e] at k2a; exact k2a.elim
  | some z =>
    rw [e] at k2a
    have k2b : ((if p z.1 z.2 = true then h.bind fun d => ofO ((intA d).map fun k => A.v (.bl (q z.2 k))) else M.pure (.v (.bl false))) ρ).sat (finE C σ Q b vs as) (XPost C b vs as) := k2a
    clear k2a
    obtain ⟨e1, e2⟩ := two2_of e
    subst e1 e2
    have t1 := Sta.top (vs := x :: vs) (as := _ :: as) S
    have t2 := Sta.top2 (vs := vs) (as := as) S
    cases t1
    cases t2
    refine ⟨_, _, rfl, rfl, _, rfl, ?_⟩
    have S0 := Sta.pop (vs := vs) (as := as) (Sta.pop (vs := _ :: vs) (as := _ :: as) S)
    by_cases hp : p z.1 z.2 = true
    · rw [if_pos hp] at k2b ⊢
      have k3 : tE C h σ H2 fun x H' => ∃ d, Go C (finE C σ Q) [x] [d] (ofO ((intA d).map fun k => A.v (.bl (q z.2 k)))) σ H' := Go.bindE (ps := []) (pa := []) ⟨b, Z, ρ, vs, as, hb, rfl, S0, k2b⟩
      refine k3.mono fun w' H3 ⟨d, k4⟩ => ?_
      obtain ⟨res, e, b', Z', ρ', vs', as', hb', _, S', k5⟩ := go_ofO k4
      cases ed : intA d with
      | none => rw [ed] at e; cases e
      | some n =>
        rw [ed] at e
        cases e
        have := intA_of ed
        subst this
        have t := Sta.top (vs := vs') (as := as') S'
        cases t
        exact ⟨_, _, rfl, rfl, k5 _ _ _ ((Sta.pop (vs := vs') (as := as') S').push (.bl _))⟩
    · rw [if_neg hp] at k2b ⊢
      exact k2b _ _ _ (S0.push (.bl _))
theorem de_chain (ho : OpR X (compareOp op) (rI0 fun i j => .bl (p i j))) (ho' : OpR X (compareOp op') (rI0 fun i j => .bl (q i j))) (ha : PE X a (tE C f)) (hb : PE X b (tE C g)) (hc : PE X c (tE C h)) (hm : lastMarks [op, op'] [b, c] = false := by with_unfolding_all rfl) :
    PE X (.Compare a [op, op'] [b, c] pos) (tE C (dChain p q f g h)) := PE.w (pe_chain ho ho' ha hb hc hm) fun σ H Q k => go_chain k
theorem dt_chain (ho : OpR X (compareOp op) (rI0 fun i j => .bl (p i j))) (ho' : OpR X (compareOp op') (rI0 fun i j => .bl (q i j))) (ha : PE X a (tE C f)) (hb : PE X b (tE C g)) (hc : PE X c (tE C h)) (hm : lastMarks [op, op'] [b, c] = false := by with_unfolding_all rfl) :
    PT X (.Compare a [op, op'] [b, c] pos) (tT C (dTest (dChain p q f g h))) := PT.w (pt_chain ho ho' ha hb hc hm) fun σ H Q k => go_chain (go_test k)
end

section
variable {X : Cx} {C : SC}
theorem xv (i : Nat) {x : Str} {pos : Pos} (hN : X.N[i]? = some x := by rfl) (hv : Vis X.env.scope x := by first | exact Or.inl rfl | exact Or.inr (Or.inl rfl) | exact Or.inr (Or.inr rfl)) (hd : (x == ("__debug__" : Str)) = false := by decide)
    (hcd : (x == ("__classdict__" : Str)) = false := by decide) : PE X (.Name x pos) (tE C (dVar i)) := de_var hN hv hd hcd
end
/-- a def that may be called: from its place behind the top -/
theorem cal_mk {P : Program} {w : World} {K : PySem.W.Frag} {mg : Str → Option Value} {base : Heap} {k : Nat} {x : Str} {F : Fn} {f : Addr} {fd : FuncData} {ps : List Str} (G : FnOk P w K mg base CX0 k f fd ps (fun vs H Q _ => spD K mg F vs H Q fun _ _ _ => False))
    (m : mg x = some (.ref f)) (kp : PySem.W.keepIn K (.ref f) = true) (b : Binds K fd ps []) : CalD P w K mg base k x F [] := ⟨f, fd, ps, [], [], G, m, kp, b, .nil, fun _ => .nil⟩
theorem CalD.mono {P : Program} {w : World} {K : PySem.W.Frag} {mg : Str → Option Value} {base : Heap} {j k : Nat} {x : Str} {F : Fn} {ds : List D} (c : CalD P w K mg base j x F ds) (h : j ≤ k) : CalD P w K mg base k x F ds :=
  let ⟨f, fd, ps, us, ys, G, r⟩ := c.ex
  ⟨f, fd, ps, us, ys, G.mono h, r⟩
end DD

namespace DD
open PySem PySem.Spec L2
open PyProof.Rows hiding St
variable [LamN]

/-- what stands of a def behind the top -/
structure Def (K : PySem.W.Frag) (mg : Str → Option Value) (x : Str) (st : Stmt) (ps : List Str) (f : Addr) (fd : FuncData) : Prop where
  fn : Fun K x x st f fd
  m : mg x = some (.ref f)
  b : ∀ us : List Value, us.length = ps.length → bindArgs fd ⟨us, []⟩ = pure (ps.zip us)
def Def0 (K : PySem.W.Frag) (mg : Str → Option Value) (x : Str) (st : Stmt) (ps : List Str) : Prop := ∃ f fd, Def K mg x st ps f fd
theorem def_ex {K : PySem.W.Frag} {h : Heap} {mg : Str → Option Value} {x : Str} {st : Stmt} {f : Addr} {oc : Value} {od an : Option Addr} {osl : Array (Option Value)} {kV dc pm cd ct : Value} {ps : List Str} (X : K.In h) (G : h.Ns mainGlobals mg)
    (a : PySem.W.nsIn K mainGlobals x = some (some (.ref f))) (l : K.lookup f = some ⟨oc, od, .func (PySem.W.fnOf x x (defArgs st) (defBody st) (defScope st) .none kV dc pm an cd ct), osl⟩) (c : PySem.W.codeIn K cd x = true) (k : PySem.W.keepIn K (.ref f) = true)
    (b : ∀ (kV doc pm : Value) (an : Option Addr) (cdv ct : Value) (us : List Value), us.length = ps.length → bindArgs (PySem.W.fnOf x x (defArgs st) (defBody st) (defScope st) .none kV doc pm an cdv ct) ⟨us, []⟩ = pure (ps.zip us)) : Def0 K mg x st ps :=
  ⟨f, _, fun_mk l c k, PySem.W.mg_of X G a, b _ _ _ _ _ _⟩
theorem fn_def {P : Program} {w : World} {K : PySem.W.Frag} {mg : Str → Option Value} {base : Heap} {k n N : Nat} {x : Str} {st : Stmt} {f : Addr} {fd : FuncData} {Ns ps : List Str} {pn : List Nat} {body : M Flow} {F : Fn} (h : Def K mg x st ps f fd) (S : FnScope Ns ps (defScope st))
    (hF : F = dFn n N pn body) (hn : ps.length = n) (hN : Ns.length = N)
    (hb : ∀ (cdv : Value) (A : Around) (outer : List PySem.Env) (s : Shared) (H : Hp) (E : XK), Room k (A.deeper (envOfC x (defScope st) s.heap.objs.size f cdv)) →
      PSs (cxOf CX0 P w K mg base Ns x (defScope st) f cdv A outer s H E).nox (defBody st) (tS ⟨K, mg, fun _ _ _ _ => False, pn, []⟩ body)) : FnOk P w K mg base CX0 (k + 1) f fd ps (fun vs H Q _ => spD K mg F vs H Q fun _ _ _ => False) := by
  subst hF hn hN
  exact fn_ok h.fn S (fun _ _ => rfl) hb
theorem cal_def {P : Program} {w : World} {K : PySem.W.Frag} {mg : Str → Option Value} {base : Heap} {k n N : Nat} {x : Str} {st : Stmt} {Ns ps : List Str} {pn : List Nat} {body : M Flow} {F : Fn} (h0 : Def0 K mg x st ps) (S : FnScope Ns ps (defScope st))
    (hF : F = dFn n N pn body) (hn : ps.length = n) (hN : Ns.length = N)
    (hb : ∀ (f : Addr) (cdv : Value) (A : Around) (outer : List PySem.Env) (s : Shared) (H : Hp) (E : XK), Room k (A.deeper (envOfC x (defScope st) s.heap.objs.size f cdv)) →
      PSs (cxOf CX0 P w K mg base Ns x (defScope st) f cdv A outer s H E).nox (defBody st) (tS ⟨K, mg, fun _ _ _ _ => False, pn, []⟩ body)) : CalD P w K mg base (k + 1) x F [] := by
  obtain ⟨f, fd, h⟩ := h0
  exact cal_mk (fn_def h S hF hn hN (hb f)) h.m h.fn.kp (.all h.b)

/-- a name of the top that stands for constant data -/
structure Glob (K : PySem.W.Frag) (mg : Str → Option Value) (x : Str) (d : D) : Prop where
  ex : ∃ v u, mg x = some u ∧ RelV v u ∧ ∀ Z, RepD K mg Z v d
theorem de_globC {X : Cx} {C : SC} {x : Str} {pos : Pos} {d : D} (g : Glob X.K X.mg x d) (hg : Gl X x) (hK : X.K = C.K) (hM : X.mg = C.mg) (hd : (x == ("__debug__" : Str)) = false := by decide) : PE X (.Name x pos) (tE C (dC d)) := by
  obtain ⟨v, u, m, r, rd⟩ := g.ex
  rw [hK, hM] at rd
  exact de_glob hg m r rd hd
theorem glob_int {K : PySem.W.Frag} {h : Heap} {mg : Str → Option Value} {x : Str} {i : Int} {t : Nat} (X : K.In h) (G : h.Ns mainGlobals mg) (e : PySem.W.nsIn K mainGlobals x = some (some (.int i t))) : Glob K mg x (.int i) :=
  ⟨.int i, .int i t, PySem.W.mg_of X G e, ⟨t, rfl⟩, fun Z => .int i⟩

/-- the law's own head: it is given the script, and it returns True -/
def spScript (K : PySem.W.Frag) (n : Nat) : Sp := fun vs H Q _ => ∃ (a : Addr) (ns : List Int), vs = [.ref a] ∧ ns.length ≤ n ∧ (∀ z ∈ ns, Builtin.Int.intBits z ≤ 1048576) ∧ SqL K H a (ns.map V.int) ∧ LamX.Tabs (tabT K) H ∧ ∀ v H', v = .bl true → Q v H'
theorem repDs_ints {K : PySem.W.Frag} {mg : Str → Option Value} {Z : Hp} : ∀ ns : List Int, RepDs K mg Z (ns.map V.int) (ns.map D.int)
  | [] => .nil
  | _ :: ns => .cons (.int _) (repDs_ints ns)
def script (ns : List Int) : A := .v (.fz (ns.map .int))
theorem law_sp {K : PySem.W.Frag} {mg : Str → Option Value} {F : Fn} {n : Nat} (h : ∀ ns : List Int, ns.length ≤ n → (∀ z ∈ ns, Builtin.Int.intBits z ≤ 1048576) → ∃ l, F [script ns] = .ok (.v (.bl true)) l) (vs : List V) (H : Hp) (Q : VK) (E : XK) (p : spScript K n vs H Q E) :
    spD K mg F vs H Q fun _ _ _ => False := by
  obtain ⟨a, ns, rfl, hl, hb, hS, tb, q⟩ := p
  obtain ⟨l, e⟩ := h ns hl hb
  refine ⟨noT H, [script ns], [[]], ⟨noT_same, tb, noT_nt⟩, .cons (.v (.fz (noT_seq hS) (repDs_ints ns))) .nil, fun y => by simp, fun a ha => by simp at ha, ?_⟩
  rw [e]
  intro Z' H' v fr fs' _ r _ _ _ _ _
  cases r with
  | v r => cases r; exact q _ _ rfl
theorem law_end {l : PySem.W.OpenLaw} {w : World} {K : PySem.W.Frag} {mg : Str → Option Value} {fa f : Addr} {fd : FuncData} {x y : Str} {st : Stmt} {k n : Nat} {F : Fn} (hfa : mg x = some (.ref fa)) (d : Def K mg x st [y] f fd)
    (hF : ∀ base : Heap, FnOk l.prog w K mg base CX0 k f fd [y] (fun vs H Q _ => spD K mg F vs H Q fun _ _ _ => False))
    (h : ∀ ns : List Int, ns.length ≤ n → (∀ z ∈ ns, Builtin.Int.intBits z ≤ 1048576) → ∃ l, F [script ns] = .ok (.v (.bl true)) l) :
    ∃ fd : FuncData, (∀ (s : Shared) (v : Value), BindsTo s fd ⟨[v], []⟩ [(y, v)]) ∧ ∀ base : Heap, K.In base → base.Ns mainGlobals mg → FnOk l.prog w K mg base CX0 k fa fd [y] (spScript K n) := by
  have e := hfa.symm.trans d.m
  cases e
  exact ⟨fd, fun s v => .of_eq (d.b [v] rfl), fun base _ _ => (hF base).imp fun vs H Q E p => law_sp h vs H Q E p⟩
end DD

namespace DD
open PySem PySem.Spec L2
open PyProof.Rows hiding St
variable [LamN]

@[irreducible] def Wp {α : Type} (r : R α) (Q : α → DEnv → Prop) (E : Ex → DEnv → Prop) : Prop := r.sat Q E
def Wo {α : Type} (o : Option α) (P : α → Prop) : Prop := ∃ a, o = some a ∧ P a
def Wb (a : A) (P : Bool → Prop) : Prop := ∃ k, a = .v (.bl k) ∧ P k
def Wk (k : Bool) (P Q : Prop) : Prop := (k = true → P) ∧ (k = false → Q)
def Wf (fl : Flow) (N O : Prop) : Prop := match fl with
  | .nx => N
  | _ => O
def Wlp (fl : Flow) (C B T : Prop) : Prop := match fl with
  | .nx => C
  | .ct => C
  | .bk => B
  | .ret _ => T
def Wr (fl : Flow) (P : A → Prop) : Prop := match fl with
  | .nx => P (.v .non)
  | .ret a => P a
  | _ => False
def FR.sat (r : FR) (Q : A → List A → Prop) (E : Ex → List A → Prop) : Prop := match r with
  | .ok a l => Q a l
  | .exc e l => E e l
  | .bad => False
@[irreducible] def Wc (r : FR) (Q : A → List A → Prop) (E : Ex → List A → Prop) : Prop := r.sat Q E
def Wix (o : Option (Option A)) (a : A) (P : D → Prop) : Prop := ∃ l n d, o = some (some (.m l)) ∧ a = .v (.int n) ∧ atI l n = some (.v d) ∧ P d
def Wap (o : Option (Option A)) (P : List A → Prop) : Prop := ∃ l, o = some (some (.m l)) ∧ l.length < sizeLine ∧ P l
def Wmm (o : Option (Option A)) (P : Prop) : Prop := ∃ l, o = some (some (.m l)) ∧ P
def Wst (o : Option (Option A)) (a : A) (c : A) (P : List A → Prop) : Prop := ∃ l n k, o = some (some (.m l)) ∧ c = .v (.int n) ∧ ixN l.length n = some k ∧ P (l.set k a)
def Win (a : A) (P : Int → Prop) : Prop := ∃ n, a = .v (.int n) ∧ P n
theorem win {n : Int} {P : Int → Prop} (h : P n) : Win (.v (.int n)) P := ⟨n, rfl, h⟩
theorem wix {o : Option (Option A)} {l : List A} {n : Int} {d : D} {P : D → Prop} (e : o = some (some (.m l))) (e2 : atI l n = some (.v d)) (h : P d) : Wix o (.v (.int n)) P := ⟨l, n, d, e, rfl, e2, h⟩
theorem wap {o : Option (Option A)} {l : List A} {P : List A → Prop} (e : o = some (some (.m l))) (z : l.length < sizeLine) (h : P l) : Wap o P := ⟨l, e, z, h⟩
theorem wmm {o : Option (Option A)} {l : List A} {P : Prop} (e : o = some (some (.m l))) (h : P) : Wmm o P := ⟨l, e, h⟩
theorem wst {o : Option (Option A)} {a : A} {n : Int} {k : Nat} {l : List A} {P : List A → Prop} (e : o = some (some (.m l))) (z : ixN l.length n = some k) (h : P (l.set k a)) : Wst o a (.v (.int n)) P := ⟨l, n, k, e, rfl, z, h⟩
theorem Wp.mk {α : Type} {r : R α} {Q : α → DEnv → Prop} {E : Ex → DEnv → Prop} (h : r.sat Q E) : Wp r Q E := by unfold Wp; exact h
theorem Wp.out {α : Type} {r : R α} {Q : α → DEnv → Prop} {E : Ex → DEnv → Prop} (h : Wp r Q E) : r.sat Q E := by unfold Wp at h; exact h
theorem Wc.out {r : FR} {Q : A → List A → Prop} {E : Ex → List A → Prop} (h : Wc r Q E) : r.sat Q E := by unfold Wc at h; exact h
theorem Wc.ok {a : A} {l : List A} {Q : A → List A → Prop} {E : Ex → List A → Prop} (h : Q a l) : Wc (.ok a l) Q E := by unfold Wc; exact h
section
variable {α β : Type} {ρ : DEnv} {E : Ex → DEnv → Prop}
theorem wp_bind {f : M α} {g : α → M β} {Q : β → DEnv → Prop} (h : Wp (f ρ) (fun a ρ1 => Wp (g a ρ1) Q E) E) : Wp ((M.bind f g) ρ) Q E := by
  unfold M.bind
  unfold Wp at *
  cases e : f ρ with
  | ok a ρ1 => rw [e] at h; exact h
  | exc x ρ1 => rw [e] at h; exact h
  | bad => rw [e] at h; exact h
theorem wp_mono {r : R α} {Q Q' : α → DEnv → Prop} {E' : Ex → DEnv → Prop} (h : Wp r Q E) (k : ∀ a ρ, Q a ρ → Q' a ρ) (x : ∀ e ρ, E e ρ → E' e ρ) : Wp r Q' E' := by with_unfolding_all exact (R.sat_mono h k x)
theorem wp_ofO {o : Option α} {Q : α → DEnv → Prop} (h : Wo o fun a => Q a ρ) : Wp (ofO o ρ) Q E := by
  with_unfolding_all
    obtain ⟨a, e, h⟩ := h
    subst e
    exact h
theorem wp_pure {a : α} {Q : α → DEnv → Prop} (h : Q a ρ) : Wp (M.pure a ρ) Q E := by with_unfolding_all exact (h)
theorem w_var {i : Nat} {d : D} {Q : A → DEnv → Prop} (e : ρ[i]? = some (some (.v d))) (h : Q (.v d) ρ) : Wp (dVar i ρ) Q E := by
  with_unfolding_all
    unfold dVar
    rw [e]
    exact h
theorem w_c {d : D} {Q : A → DEnv → Prop} (h : Q (.v d) ρ) : Wp (dC d ρ) Q E := by with_unfolding_all exact (h)
variable {f g h f1 : M A} {fs : M (List A)} {c c1 : M Bool} {F G : M Flow} {Q : A → DEnv → Prop} {QB : Bool → DEnv → Prop} {QL : List A → DEnv → Prop} {QF : Flow → DEnv → Prop} {QD : List D → DEnv → Prop} {QV : List AV → DEnv → Prop}
theorem w_op2 {op : A → A → Option A} (k : Wp (f ρ) (fun a ρ1 => Wp (g ρ1) (fun c ρ2 => Wo (op a c) fun r => Q r ρ2) E) E) : Wp (dOp2 op f g ρ) Q E := by with_unfolding_all exact (wp_bind (wp_mono k (fun _ _ k => wp_bind (wp_mono k (fun _ _ k => wp_ofO k) fun _ _ z => z)) fun _ _ z => z))
theorem w_op1 {op : A → Option A} (k : Wp (f ρ) (fun a ρ1 => Wo (op a) fun r => Q r ρ1) E) : Wp (dOp1 op f ρ) Q E := by with_unfolding_all exact (wp_bind (wp_mono k (fun _ _ k => wp_ofO k) fun _ _ z => z))
theorem w_test (k : Wp (f ρ) (fun a ρ1 => Wb a fun b => QB b ρ1) E) : Wp (dTest f ρ) QB E := by with_unfolding_all exact (wp_bind (wp_mono k (fun _ _ ⟨b, e, k⟩ => by subst e; exact k) fun _ _ z => z))
theorem wb {k : Bool} {P : Bool → Prop} (h : P k) : Wb (.v (.bl k)) P := ⟨k, rfl, h⟩
theorem w_nil (k : QL [] ρ) : Wp (dNil ρ) QL E := by with_unfolding_all exact (k)
theorem w_cons (k : Wp (f ρ) (fun a ρ1 => Wp (fs ρ1) (fun l ρ2 => QL (a :: l) ρ2) E) E) : Wp (dCons f fs ρ) QL E := by with_unfolding_all exact (wp_bind (wp_mono k (fun _ _ k => wp_bind (wp_mono k (fun _ _ k => k) fun _ _ z => z)) fun _ _ z => z))
theorem w_tup (k : Wp (fs ρ) (fun l ρ1 => l.length ≤ sizeLine ∧ Q (.v (.tup (frzs l))) ρ1) E) : Wp (dTup fs ρ) Q E := by with_unfolding_all exact (wp_bind (wp_mono k (fun _ _ k => by rw [if_pos k.1]; exact k.2) fun _ _ z => z))
theorem w_lst (k : Wp (fs ρ) (fun l ρ1 => l.length ≤ sizeLine ∧ Q (.m l) ρ1) E) : Wp (dLst fs ρ) Q E := by with_unfolding_all exact (wp_bind (wp_mono k (fun _ _ k => by rw [if_pos k.1]; exact k.2) fun _ _ z => z))
theorem wk_ite {k : Bool} {f g : M α} {Q : α → DEnv → Prop} (h : Wk k (Wp (f ρ) Q E) (Wp (g ρ) Q E)) : Wp ((if k = true then f else g) ρ) Q E := by
  cases k with
  | true => exact h.1 rfl
  | false => exact h.2 rfl
theorem w_if (k : Wp (c ρ) (fun b ρ1 => Wk b (Wp (f ρ1) Q E) (Wp (g ρ1) Q E)) E) : Wp (dIf c f g ρ) Q E := by with_unfolding_all exact (wp_bind (wp_mono k (fun _ _ k2 => wk_ite k2) fun _ _ z => z))
theorem w_andT (k : Wp (c ρ) (fun b ρ1 => Wk b (Wp (c1 ρ1) QB E) (QB false ρ1)) E) : Wp (dAndT c c1 ρ) QB E := by with_unfolding_all exact (wp_bind (wp_mono k (fun b ρ1 k2 => wk_ite (f := c1) (g := M.pure false) k2) fun _ _ z => z))
theorem w_orT (k : Wp (c ρ) (fun b ρ1 => Wk b (QB true ρ1) (Wp (c1 ρ1) QB E)) E) : Wp (dOrT c c1 ρ) QB E := by with_unfolding_all exact (wp_bind (wp_mono k (fun b ρ1 k2 => wk_ite (f := M.pure true) (g := c1) k2) fun _ _ z => z))
theorem w_notT (k : Wp (c ρ) (fun b ρ1 => QB (!b) ρ1) E) : Wp (dNotT c ρ) QB E := by with_unfolding_all exact (wp_bind k)
theorem w_andV (k : Wp (f ρ) (fun a ρ1 => Wb a fun b => Wk b (Wp (g ρ1) Q E) (Q (.v (.bl false)) ρ1)) E) : Wp (dAndV f g ρ) Q E := by with_unfolding_all exact (wp_bind (w_test (wp_mono k (fun _ _ ⟨b, e, k2⟩ => ⟨b, e, wk_ite (f := g) (g := M.pure _) k2⟩) fun _ _ z => z)))
theorem w_notV (k : Wp (f ρ) (fun a ρ1 => Wb a fun b => Q (.v (.bl (!b))) ρ1) E) : Wp (dNotV f ρ) Q E := by with_unfolding_all exact (wp_bind (w_test (wp_mono k (fun _ _ k => k) fun _ _ z => z)))
theorem wk_t {P Q : Prop} (h : P) : Wk true P Q := ⟨fun _ => h, fun e => nomatch e⟩
theorem wk_f {P Q : Prop} (h : Q) : Wk false P Q := ⟨fun e => (nomatch e), fun _ => h⟩
theorem wk_d {p : Prop} [Decidable p] {P Q : Prop} (h : p → P) (g : ¬p → Q) : Wk (decide p) P Q := ⟨fun e => h (of_decide_eq_true e), fun e => g (of_decide_eq_false e)⟩
theorem wk_n {k : Bool} {P Q : Prop} (h : Wk k Q P) : Wk (!k) P Q := by
  cases k with
  | true => exact ⟨fun e => (nomatch e), fun _ => h.1 rfl⟩
  | false => exact ⟨fun _ => h.2 rfl, fun e => nomatch e⟩
theorem wk_b {k : Bool} {P Q : Prop} (h : k = true → P) (g : k = false → Q) : Wk k P Q := ⟨h, g⟩
theorem w_set {own : Bool} {i : Nat} (k : Wp (f ρ) (fun a ρ1 => i < ρ1.length ∧ QF .nx (ρ1.set i (some (frzB own a)))) E) : Wp (dSet own i f ρ) QF E := by with_unfolding_all exact (wp_bind (wp_mono k (fun _ _ k => by rw [if_pos k.1]; exact k.2) fun _ _ z => z))
theorem w_expr (k : Wp (f ρ) (fun _ ρ1 => QF .nx ρ1) E) : Wp (dExpr f ρ) QF E := by with_unfolding_all exact (wp_bind k)
theorem w_ret (k : Wp (f ρ) (fun a ρ1 => QF (.ret a) ρ1) E) : Wp (dRet f ρ) QF E := by with_unfolding_all exact (wp_bind k)
theorem w_skip (k : QF .nx ρ) : Wp (dSkip ρ) QF E := by with_unfolding_all exact (k)
theorem w_seq (k : Wp (F ρ) (fun fl ρ1 => Wf fl (Wp (G ρ1) QF E) (QF fl ρ1)) E) : Wp (dSeq F G ρ) QF E := by with_unfolding_all exact (wp_bind (wp_mono k (fun fl _ k => by cases fl <;> exact k) fun _ _ z => z))
theorem wf_nx {N O : Prop} (h : N) : Wf .nx N O := h
theorem wf_ret {a : A} {N O : Prop} (h : O) : Wf (.ret a) N O := h
theorem wl_nx {C B T : Prop} (h : C) : Wlp .nx C B T := h
theorem wl_ret {a : A} {C B T : Prop} (h : T) : Wlp (.ret a) C B T := h
theorem wr_nx {P : A → Prop} (h : P (.v .non)) : Wr .nx P := h
theorem wr_ret {a : A} {P : A → Prop} (h : P a) : Wr (.ret a) P := h
theorem w_ifS (k : Wp (c ρ) (fun b ρ1 => Wk b (Wp (F ρ1) QF E) (Wp (G ρ1) QF E)) E) : Wp (dIfS c F G ρ) QF E := by with_unfolding_all exact (wp_bind (wp_mono k (fun _ _ k => wk_ite k) fun _ _ z => z))
theorem w_frz {i : Nat} {a : A} {F : M α} {Q : α → DEnv → Prop} (e : ρ[i]? = some (some a)) (k : Wp (F (ρ.set i (some (.v a.frz)))) Q E) : Wp (dFrz i F ρ) Q E := by
  with_unfolding_all
    unfold dFrz frzSlot
    rw [e]
    exact k
theorem w_for {src : M (List D)} {gg : D → M Unit} (k : Wp (src ρ) (fun ds ρ1 => Wp (forL gg F ds ρ1) QF E) E) : Wp (dFor src gg F ρ) QF E := by with_unfolding_all exact (wp_bind k)
theorem w_forL {gg : D → M Unit} (I : List D → DEnv → Prop) : ∀ {ds : List D} {ρ : DEnv}, I ds ρ →
    (∀ d ds ρ, I (d :: ds) ρ → Wp (gg d ρ) (fun _ ρ1 => Wp (F ρ1) (fun fl ρ2 => Wlp fl (I ds ρ2) (QF .nx ρ2) (QF fl ρ2)) E) E) → (∀ ρ, I [] ρ → QF .nx ρ) → Wp (forL gg F ds ρ) QF E
  | [], ρ, h, _, fin => by with_unfolding_all exact fin ρ h
  | d :: ds, ρ, h, step, fin => by with_unfolding_all exact wp_bind (wp_mono (step d ds ρ h) (fun _ _ k => wp_bind (wp_mono k (fun fl ρ2 k => by
      cases fl with
      | nx => exact w_forL I k step fin
      | ct => exact w_forL I k step fin
      | bk => exact k
      | ret a => exact k) fun _ _ z => z)) fun _ _ z => z)
theorem w_for_nil {gg : D → M Unit} (k : QF .nx ρ) : Wp (forL gg F [] ρ) QF E := by with_unfolding_all exact (k)
theorem w_for_cons {gg : D → M Unit} {d : D} {ds : List D} (k : Wp (gg d ρ) (fun _ ρ1 => Wp (F ρ1) (fun fl ρ2 => Wlp fl (Wp (forL gg F ds ρ2) QF E) (QF .nx ρ2) (QF fl ρ2)) E) E) : Wp (forL gg F (d :: ds) ρ) QF E := by with_unfolding_all exact (wp_bind (wp_mono k (fun _ _ k => wp_bind (wp_mono k (fun fl ρ2 k => by cases fl <;> exact k) fun _ _ z => z)) fun _ _ z => z))
theorem w_gset {i : Nat} {d : D} {Q : Unit → DEnv → Prop} (hi : i < ρ.length) (k : Q () (ρ.set i (some (.v d)))) : Wp (gSet i d ρ) Q E := by
  with_unfolding_all
    unfold gSet
    rw [if_pos hi]
    exact k
theorem w_while (I : Nat → DEnv → Prop) {n : Nat} (h : I n ρ) (step : ∀ n ρ, I n ρ → Wp (c ρ) (fun k ρ1 => Wk k (Wp (F ρ1) (fun fl ρ2 => Wlp fl (∃ m, m < n ∧ I m ρ2) (QF .nx ρ2) (QF fl ρ2)) E) (QF .nx ρ1)) E) : Wp (dWhile c F ρ) QF E := by
  with_unfolding_all
    have key : ∀ n ρ, I n ρ → Wp (whileN c F (n + 1) ρ) QF E := by
      intro n
      induction n using Nat.strongRecOn with
      | ind n ih =>
        intro ρ hi
        unfold whileN
        refine wp_bind (wp_mono (step n ρ hi) (fun k ρ1 k1 => wk_ite ⟨fun e => ?_, fun e => k1.2 e⟩) fun _ _ z => z)
        refine wp_bind (wp_mono (k1.1 e) (fun fl ρ2 k2 => ?_) fun _ _ z => z)
        have up : ∀ m, m < n → I m ρ2 → Wp (whileN c F n ρ2) QF E := fun m hm hI => by
          have h1 := ih m hm ρ2 hI
          have : ∀ j, Wp (whileN c F (m + 1 + j) ρ2) QF E := by
            intro j
            induction j with
            | zero => exact h1
            | succ j ihj => 
              have hb : whileN c F (m + 1 + j) ρ2 ≠ .bad := fun z => by rw [z] at ihj; exact ihj
              rw [← Nat.add_assoc, whileN_mono hb]
              exact ihj
          have h3 := this (n - (m + 1))
          rwa [Nat.add_sub_cancel' hm] at h3
        cases fl with
        | nx => obtain ⟨m, hm, hI⟩ := k2; exact up m hm hI
        | ct => obtain ⟨m, hm, hI⟩ := k2; exact up m hm hI
        | bk => exact k2
        | ret a => exact k2
    have k := key n ρ h
    have hb : whileN c F (n + 1) ρ ≠ .bad := fun z => by rw [z] at k; exact k
    rw [dWhile_eq hb]
    exact k
theorem w_par {o1 o2 : Bool} {i j : Nat} (k : Wp (f ρ) (fun a ρ1 => Wp (g ρ1) (fun c ρ2 => (i < ρ2.length ∧ j < ρ2.length ∧ i ≠ j) ∧ QF .nx ((ρ2.set i (some (frzB o1 a))).set j (some (frzB o2 c)))) E) E) : Wp (dPar o1 o2 i j f g ρ) QF E := by with_unfolding_all exact (wp_bind (wp_mono k (fun _ _ k => wp_bind (wp_mono k (fun _ _ k => by rw [if_pos k.1]; exact k.2) fun _ _ z => z)) fun _ _ z => z))
theorem w_asg {gg : D → M Unit} (k : Wp (f ρ) (fun a ρ1 => Wp (gg a.frz ρ1) (fun _ ρ2 => QF .nx ρ2) E) E) : Wp (dAsg f gg ρ) QF E := by with_unfolding_all exact (wp_bind (wp_mono k (fun _ _ k => wp_bind k) fun _ _ z => z))
theorem w_gtup {n : Nat} {gs : List D → M Unit} {ds : List D} {Q : Unit → DEnv → Prop} (e : ds.length = n) (k : Wp (gs ds ρ) Q E) : Wp (gTupD n gs (.tup ds) ρ) Q E := by
  with_unfolding_all
    unfold gTupD
    dsimp only
    rw [if_pos e]
    exact k
theorem w_gcons {gg : D → M Unit} {gs : List D → M Unit} {d : D} {ds : List D} {Q : Unit → DEnv → Prop} (k : Wp (gg d ρ) (fun _ ρ1 => Wp (gs ds ρ1) Q E) E) : Wp (gConsD gg gs (d :: ds) ρ) Q E := by with_unfolding_all exact (wp_bind k)
theorem w_gnil {Q : Unit → DEnv → Prop} (k : Q () ρ) : Wp (gNilD [] ρ) Q E := by with_unfolding_all exact (k)
theorem w_items (k : Wp (f ρ) (fun a ρ1 => Wo (seqD a.frz) fun ds => QD ds ρ1) E) : Wp (dItems f ρ) QD E := by with_unfolding_all exact (wp_bind (wp_mono k (fun _ _ k => wp_ofO k) fun _ _ z => z))
def rngOk (j : Int) : Prop := -(2 ^ 62) ≤ j ∧ j < 2 ^ 62
theorem w_rng1 (k : Wp (f ρ) (fun a ρ1 => Win a fun j => rngOk j ∧ QD ((List.range j.toNat).map fun i : Nat => .int i) ρ1) E) : Wp (dRng1 f ρ) QD E := by with_unfolding_all exact (wp_bind (wp_mono k (fun _ _ ⟨j, e, h, k⟩ => by subst e; exact wp_ofO ⟨_, if_pos h, k⟩) fun _ _ z => z))
theorem w_rng2 (k : Wp (f ρ) (fun a ρ1 => Wp (g ρ1) (fun c ρ2 => Win a fun i => Win c fun j => (rngOk i ∧ rngOk j) ∧ QD ((List.range (j - i).toNat).map fun n : Nat => .int (i + n)) ρ2) E) E) : Wp (dRng2 f g ρ) QD E := by with_unfolding_all exact (wp_bind (wp_mono k (fun _ _ k => wp_bind (wp_mono k (fun _ _ ⟨i, e1, j, e2, ⟨h1, h2⟩, k2⟩ => by subst e1 e2; exact wp_ofO ⟨_, if_pos ⟨h1.1, h1.2, h2.1, h2.2⟩, k2⟩) fun _ _ z => z)) fun _ _ z => z))
theorem w_blt {op : List A → Option A} (k : Wp (fs ρ) (fun l ρ1 => Wo (op l) fun r => Q r ρ1) E) : Wp (dBlt op fs ρ) Q E := by with_unfolding_all exact (wp_bind (wp_mono k (fun _ _ k => wp_ofO k) fun _ _ z => z))
theorem w_isi {T : String} (k : Wp (f ρ) (fun a ρ1 => Wo (opIs T [a]) fun r => Q r ρ1) E) : Wp (dIsi T f ρ) Q E := by with_unfolding_all exact (wp_bind (wp_mono k (fun _ _ k => wp_ofO k) fun _ _ z => z))
variable {vs : M (List AV)}
theorem w_vnil (k : QV [] ρ) : Wp (vNil ρ) QV E := by with_unfolding_all exact (k)
theorem w_vval {own : Bool} (k : Wp (f ρ) (fun a ρ1 => Wp (vs ρ1) (fun l ρ2 => QV (.val (frzB own a) :: l) ρ2) E) E) : Wp (vVal own f vs ρ) QV E := by with_unfolding_all exact (wp_bind (wp_mono k (fun _ _ k => wp_bind (wp_mono k (fun _ _ k => k) fun _ _ z => z)) fun _ _ z => z))
theorem w_vref {i : Nat} {a : A} (e : ρ[i]? = some (some a)) (k : Wp (vs ρ) (fun l ρ2 => QV (.ref i :: l) ρ2) E) : Wp (vRef i vs ρ) QV E := by
  with_unfolding_all
    unfold vRef
    rw [e]
    exact wp_bind k
theorem w_call {Fu : Fn} {ds : List D} (k : Wp (vs ρ) (fun l ρ1 => Wo (gath l ρ1) fun q => Wc (Fu (q.1 ++ ds.map .v)) (fun r l' => Q r (back l l' q.2)) (fun e l' => E e (back l l' q.2))) E) : Wp (dCall Fu vs ds ρ) Q E := by
  refine wp_bind (wp_mono k (fun l ρ1 ⟨q, e, k⟩ => ?_) fun _ _ z => z)
  rw [e]
  dsimp only
  dsimp only at k
  unfold Wc at k
  cases e2 : Fu (q.1 ++ ds.map .v) with
  | ok a l => rw [e2] at k; exact Wp.mk k
  | exc a l => rw [e2] at k; exact Wp.mk k
  | bad => rw [e2] at k; exact k.elim
theorem wc_fn {n N : Nat} {pn : List Nat} {body : M Flow} {as : List A} {QC : A → List A → Prop} {EC : Ex → List A → Prop} (h1 : as.length = n) (h2 : okArgs pn 0 as = true)
    (k : Wp (body (as.map some ++ List.replicate (N - n) none)) (fun fl ρ => Wr fl fun a => Wo (lentL pn 0 as ρ) fun l => QC a l) fun e ρ => Wo (lentL pn 0 as ρ) fun l => EC e l) : Wc (dFn n N pn body as) QC EC := by
  with_unfolding_all
    unfold dFn
    rw [if_pos ⟨h1, h2⟩]
    unfold Wp R.sat at k
    split at k <;> rename_i e2
    · rw [e2]
      rename_i fl ρ1
      dsimp only
      cases fl with
      | nx => obtain ⟨l, e, k⟩ := k; rw [e]; exact k
      | ret a => obtain ⟨l, e, k⟩ := k; rw [e]; exact k
      | bk => exact k.elim
      | ct => exact k.elim
    · rw [e2]
      obtain ⟨l, e, k⟩ := k
      dsimp only
      rw [e]
      exact k
    · exact k.elim
theorem ex_wc {r : FR} {QC : A → List A → Prop} (h : Wc r QC fun _ _ => False) : ∃ a l, r = .ok a l ∧ QC a l := by
  cases r with
  | ok b k => exact ⟨b, k, rfl, h.out⟩
  | exc e l => exact h.out.elim
  | bad => exact h.out.elim
theorem w_no {Q : Option Int → DEnv → Prop} (k : Q none ρ) : Wp (pNo ρ) Q E := by with_unfolding_all exact (k)
theorem w_so {Q : Option Int → DEnv → Prop} (k : Wp (f ρ) (fun a ρ1 => Win a fun i => Q (some i) ρ1) E) : Wp (pSo f ρ) Q E := by with_unfolding_all exact (wp_bind (wp_mono k (fun _ _ ⟨i, e, k⟩ => by subst e; exact k) fun _ _ z => z))
theorem w_sl {lo hi : M (Option Int)} (k : Wp (f ρ) (fun a ρ1 => Wp (lo ρ1) (fun l ρ2 => Wp (hi ρ2) (fun h ρ3 => Wo (opSl a l h) fun r => Q r ρ3) E) E) E) : Wp (dSl f lo hi ρ) Q E := by with_unfolding_all exact (wp_bind (wp_mono k (fun _ _ k => wp_bind (wp_mono k (fun _ _ k => wp_bind (wp_mono k (fun _ _ k => wp_ofO k) fun _ _ z => z)) fun _ _ z => z)) fun _ _ z => z))
theorem w_append {i : Nat} {o : Bool} {l0 : List A} (e0 : ρ[i]? = some (some (.m l0))) (k : Wp (f ρ) (fun a ρ1 => Wap ρ1[i]? fun l => Q (.v .non) (ρ1.set i (some (.m (l ++ [frzB o a]))))) E) : Wp (dAppend i o f ρ) Q E := by
  with_unfolding_all
    unfold dAppend
    rw [e0]
    exact wp_bind (wp_mono k (fun _ _ ⟨l, e, h, k⟩ => by rw [e]; dsimp only; rw [if_pos h]; exact k) fun _ _ z => z)
theorem w_setitem {i : Nat} {o : Bool} (k : Wp (f ρ) (fun a ρ1 => Wmm ρ1[i]? (Wp (g ρ1) (fun c ρ2 => Wst ρ2[i]? (frzB o a) c fun l => QF .nx (ρ2.set i (some (.m l)))) E)) E) : Wp (dSetItem i o f g ρ) QF E := by
  with_unfolding_all
    refine wp_bind (wp_mono k (fun _ _ ⟨l0, e0, k⟩ => ?_) fun _ _ z => z)
    rw [e0]
    exact wp_bind (wp_mono k (fun _ _ ⟨l, n, j, e, e2, h, k⟩ => by subst e2; rw [e]; dsimp only; rw [h]; exact k) fun _ _ z => z)
theorem w_ixOwn {i : Nat} {l0 : List A} (e0 : ρ[i]? = some (some (.m l0))) (k : Wp (f ρ) (fun a ρ1 => Wix ρ1[i]? a fun d => Q (.v d) ρ1) E) : Wp (dIxOwn i f ρ) Q E := by
  with_unfolding_all
    unfold dIxOwn
    rw [e0]
    exact wp_bind (wp_mono k (fun _ _ ⟨l, n, d, e, e2, h, k⟩ => by subst e2; rw [e]; dsimp only; rw [h]; exact k) fun _ _ z => z)
theorem w_lenOwn {i : Nat} {l : List A} (e : ρ[i]? = some (some (.m l))) (k : Q (.v (.int l.length)) ρ) : Wp (dLenOwn i ρ) Q E := by
  with_unfolding_all
    unfold dLenOwn
    rw [e]
    exact k
theorem w_wipe {ρ : DEnv} {E : Ex → DEnv → Prop} {sl : List Nat} {Q : Unit → DEnv → Prop} (h : Q () (wipeE ρ sl)) : Wp (wipeM sl ρ) Q E := Wp.mk h
theorem w_compL {sl : List Nat} {gg : D → M Unit} {p : M Bool} {elt : M A} (I : List A → List D → DEnv → Prop) : ∀ {ds : List D} {ρ : DEnv} {l : List A} {QL : List A → DEnv → Prop}, I l ds ρ →
    (∀ l d ds ρ, I l (d :: ds) ρ → Wp (gg d ρ) (fun _ ρ1 => Wp (p ρ1) (fun k ρ2 => Wk k (Wp (elt ρ2) (fun a ρ3 => I (l ++ [a]) ds (wipeE ρ3 sl)) E) (I l ds (wipeE ρ2 sl))) E) E) →
    (∀ l' ρ, I (l ++ l') [] ρ → QL l' ρ) → Wp (compL sl gg p elt ds ρ) QL E
  | [], ρ, l, QL, h, _, fin => Wp.mk (fin [] ρ (by rwa [List.append_nil]))
  | d :: ds, ρ, l, QL, h, step, fin => by
    unfold compL
    refine wp_bind (wp_mono (step l d ds ρ h) (fun _ _ k => wp_bind (wp_mono k (fun k ρ2 k1 => wk_ite ⟨fun e => ?_, fun e => ?_⟩) fun _ _ z => z)) fun _ _ z => z)
    · refine wp_bind (wp_mono (k1.1 e) (fun a ρ3 k2 => ?_) fun _ _ z => z)
      refine wp_bind (f := wipeM sl) (w_wipe ?_)
      refine wp_bind ?_
      refine wp_mono (w_compL I (QL := fun l' ρ4 => QL (a :: l') ρ4) k2 step fun l' ρ' q => fin (a :: l') ρ' (by rwa [List.append_assoc] at q)) (fun _ _ q => wp_pure q) fun _ _ z => z
    · refine wp_bind (f := wipeM sl) (w_wipe ?_)
      exact w_compL I (k1.2 e) step fin
theorem w_comp {sl : List Nat} {src : M (List D)} {gg : D → M Unit} {p : M Bool} {elt : M A} (k : Wp (src ρ) (fun ds ρ1 => ds.length ≤ sizeLine ∧ Wp (compL sl gg p elt ds (wipeE ρ1 sl)) (fun l ρ2 => Q (.m l) (putL (parkL ρ1 sl) (wipeF ρ2 sl))) fun _ _ => False) E) : Wp (dComp sl src gg p elt ρ) Q E := by
  with_unfolding_all
    refine wp_bind (wp_mono k (fun ds ρ1 ⟨h, k⟩ => ?_) fun _ _ z => z)
    rw [if_pos h]
    unfold Wp R.sat at k
    split at k <;> rename_i e2
    · rw [e2]; exact k
    · exact k.elim
    · exact k.elim
theorem w_chain {p q : Int → Int → Bool} (k : Wp (f ρ) (fun a ρ1 => Wp (g ρ1) (fun c ρ2 => Win a fun i => Win c fun j => Wk (p i j) (Wp (h ρ2) (fun d ρ3 => Win d fun m => Q (.v (.bl (q j m))) ρ3) E) (Q (.v (.bl false)) ρ2)) E) E) : Wp (dChain p q f g h ρ) Q E := by
  with_unfolding_all
    refine wp_bind (wp_mono k (fun a ρ1 k0 => wp_bind (wp_mono k0 (fun c ρ2 ⟨i, e1, j, e2, k2⟩ => ?_) fun _ _ z => z)) fun _ _ z => z)
    subst e1 e2
    refine wp_bind (wp_ofO (o := some (i, j)) ⟨_, rfl, ?_⟩)
    refine wk_ite (g := M.pure _) ⟨fun e => ?_, fun e => k2.2 e⟩
    exact wp_bind (wp_mono (k2.1 e) (fun d ρ3 ⟨m, e3, k3⟩ => by subst e3; exact k3) fun _ _ z => z)
end
section
variable {P : A → Prop} {i j : Int}
theorem wo_some {α : Type} {P : α → Prop} {a : α} (h : P a) : Wo (some a) P := ⟨a, rfl, h⟩
theorem wo_eq {α : Type} {P : α → Prop} {o : Option α} {a : α} (e : o = some a) (h : P a) : Wo o P := ⟨a, e, h⟩
theorem wo_add (h : P (.v (.int (i + j)))) : Wo (opAdd (.v (.int i)) (.v (.int j))) P := ⟨_, rfl, h⟩
theorem wo_sub (h : P (.v (.int (i - j)))) : Wo (opSub (.v (.int i)) (.v (.int j))) P := ⟨_, rfl, h⟩
theorem wo_mul (c : MulC i j) (h : P (.v (.int (i * j)))) : Wo (opMul (.v (.int i)) (.v (.int j))) P := ⟨_, if_pos c, h⟩
theorem wo_div (c : DivC i j) (h : P (.v (.int (i.fdiv j)))) : Wo (opDiv (.v (.int i)) (.v (.int j))) P := ⟨.v (.int (i.fdiv j)), by unfold opDiv ii; dsimp only; rw [if_pos c]; rfl, h⟩
theorem wo_mod (c : j ≠ 0) (h : P (.v (.int (i.fmod j)))) : Wo (opMod (.v (.int i)) (.v (.int j))) P := ⟨.v (.int (i.fmod j)), by unfold opMod ii; dsimp only; rw [if_pos c]; rfl, h⟩
theorem wo_pow (c : PowC i j) (h : P (.v (.int (i ^ j.toNat)))) : Wo (opPow (.v (.int i)) (.v (.int j))) P := ⟨.v (.int (i ^ j.toNat)), by unfold opPow ii; dsimp only; rw [if_pos c]; rfl, h⟩
theorem wo_neg (h : P (.v (.int (-i)))) : Wo (opNeg (.v (.int i))) P := ⟨_, rfl, h⟩
theorem wo_lt (h : P (.v (.bl (decide (i < j))))) : Wo (opLt (.v (.int i)) (.v (.int j))) P := ⟨_, rfl, h⟩
theorem wo_gt (h : P (.v (.bl (decide (j < i))))) : Wo (opGt (.v (.int i)) (.v (.int j))) P := ⟨_, rfl, h⟩
theorem wo_ge (h : P (.v (.bl (decide (j ≤ i))))) : Wo (opGe (.v (.int i)) (.v (.int j))) P := ⟨_, rfl, h⟩
theorem eqv_int : PyData.eqv (.int i) (.int j) = decide (i = j) := by
  have : PyData.eqv (.int i) (.int j) = (i == j) := by simp [PyData.eqv]
  rw [this]
  by_cases h : i = j <;> simp [h]
theorem wo_eqI (h : P (.v (.bl (decide (i = j))))) : Wo (opEq (.v (.int i)) (.v (.int j))) P := ⟨_, rfl, by
  show P (.v (.bl (PyData.eqv (.int i) (.int j)))); rw [eqv_int]; exact h⟩
theorem wo_neI (h : P (.v (.bl (!decide (i = j))))) : Wo (opNe (.v (.int i)) (.v (.int j))) P := ⟨_, rfl, by
  show P (.v (.bl (!PyData.eqv (.int i) (.int j)))); rw [eqv_int]; exact h⟩
theorem wo_abs (h : P (.v (.int i.natAbs))) : Wo (opAbs [.v (.int i)]) P := ⟨_, rfl, by
  have e : (if i < 0 then -i else i) = (i.natAbs : Int) := by split <;> omega
  rw [e]; exact h⟩
theorem wo_lenT {l : List D} (h : P (.v (.int l.length))) : Wo (opLen [.v (.tup l)]) P := ⟨_, rfl, h⟩
theorem wo_lenF {l : List D} (h : P (.v (.int l.length))) : Wo (opLen [.v (.fz l)]) P := ⟨_, rfl, h⟩
end
def Bd (n : Nat) (i : Int) : Prop := i.natAbs < 2 ^ n
theorem Bd.log {n : Nat} {i : Int} (h : Bd n i) : i.natAbs.log2 ≤ n := by
  by_cases z : i.natAbs = 0
  · rw [z]; exact Nat.zero_le _
  · exact Nat.le_of_lt ((Nat.log2_lt z).mpr h)
theorem Bd.mulC {n m : Nat} {i j : Int} (h : Bd n i) (g : Bd m j) (q : n + m < 134217000) : MulC i j := Nat.lt_of_le_of_lt (Nat.add_le_add h.log g.log) q
theorem Bd.mono {n m : Nat} {i : Int} (h : Bd n i) (q : n ≤ m) : Bd m i := Nat.lt_of_lt_of_le h (Nat.pow_le_pow_right (by decide) q)
theorem Bd.mul {n m : Nat} {i j : Int} (h : Bd n i) (g : Bd m j) : Bd (n + m) (i * j) := by
  unfold Bd at *
  rw [Int.natAbs_mul, Nat.pow_add]
  exact Nat.mul_lt_mul_of_lt_of_lt h g
theorem Bd.add {n : Nat} {i j : Int} (h : Bd n i) (g : Bd n j) : Bd (n + 1) (i + j) := by
  unfold Bd at *
  rw [Nat.pow_succ]
  omega
theorem Bd.sub {n : Nat} {i j : Int} (h : Bd n i) (g : Bd n j) : Bd (n + 1) (i - j) := by
  unfold Bd at *
  rw [Nat.pow_succ]
  omega
theorem Bd.neg {n : Nat} {i : Int} (h : Bd n i) : Bd n (-i) := by
  unfold Bd at *
  rwa [Int.natAbs_neg]
theorem Bd.le {n : Nat} {i j : Int} (h : Bd n i) (g : j.natAbs ≤ i.natAbs) : Bd n j := Nat.lt_of_le_of_lt g h
theorem bd64 {i : Int} (h : -18446744073709551616 < i) (g : i < 18446744073709551616) : Bd 64 i := by
  unfold Bd
  have : (2:Nat) ^ 64 = 18446744073709551616 := by decide
  omega
theorem mulc64 {i j : Int} (h1 : -18446744073709551616 < i) (h2 : i < 18446744073709551616) (h3 : -18446744073709551616 < j) (h4 : j < 18446744073709551616) : MulC i j := (bd64 h1 h2).mulC (bd64 h3 h4) (by decide)
theorem divc64 {i j : Int} (h0 : j ≠ 0) (h3 : -18446744073709551616 < j) (h4 : j < 18446744073709551616) : DivC i j := ⟨h0, .inl (Nat.lt_of_le_of_lt (bd64 h3 h4).log (by decide))⟩
theorem cpow64 {i j : Int} (h0 : 0 ≤ j) (h1 : j ≤ 1000000) (h2 : -18446744073709551616 < i) (h3 : i < 18446744073709551616) : PowC i j := ⟨h0, by
  have := Int.mul_le_mul (show (Builtin.Int.intBits i : Int) ≤ 64 by exact_mod_cast intBits_le_64 (by omega) (by omega)) h1 h0 (by decide)
  omega⟩
theorem fmod_range {i j : Int} (h : 0 < j) : 0 ≤ i.fmod j ∧ i.fmod j < j := ⟨Int.fmod_nonneg_of_pos _ h, Int.fmod_lt_of_pos _ h⟩
theorem fdiv_range {i j : Int} (h0 : 0 ≤ i) (h : 0 < j) : 0 ≤ i.fdiv j ∧ i.fdiv j ≤ i := by
  rw [Int.fdiv_eq_ediv_of_nonneg _ (Int.le_of_lt h)]
  exact ⟨Int.ediv_nonneg h0 (Int.le_of_lt h), Int.ediv_le_self _ h0⟩
theorem ix_at {a : A} {ds : List D} {n : Int} {d : D} {P : A → Prop} (e : seqD a.frz = some ds) (h : atI ds n = some d) (k : P (.v d)) : Wo (opIx a (.v (.int n))) P := by
  refine ⟨.v d, ?_, k⟩
  unfold opIx
  dsimp only
  split
  · rename_i z ez; rw [ez] at e; cases e
  · rw [e]; dsimp only; rw [h]
end DD

namespace DD
open PySem PySem.Spec L2
open PyProof.Rows hiding St
variable [LamN]
section
variable {α : Type} {ρ : DEnv} {E : Ex → DEnv → Prop} {f g : M A} {vs : M (List AV)} {QF : Flow → DEnv → Prop} {QV : List AV → DEnv → Prop} {Q : A → DEnv → Prop}
theorem w_setF {i : Nat} (k : Wp (f ρ) (fun a ρ1 => i < ρ1.length ∧ QF .nx (ρ1.set i (some (.v a.frz)))) E) : Wp (dSet false i f ρ) QF E := w_set k
theorem w_setT {i : Nat} (k : Wp (f ρ) (fun a ρ1 => i < ρ1.length ∧ QF .nx (ρ1.set i (some a))) E) : Wp (dSet true i f ρ) QF E := w_set k
theorem w_parF {i j : Nat} (k : Wp (f ρ) (fun a ρ1 => Wp (g ρ1) (fun c ρ2 => (i < ρ2.length ∧ j < ρ2.length ∧ i ≠ j) ∧ QF .nx ((ρ2.set i (some (.v a.frz))).set j (some (.v c.frz)))) E) E) : Wp (dPar false false i j f g ρ) QF E := w_par k
theorem w_vvalF (k : Wp (f ρ) (fun a ρ1 => Wp (vs ρ1) (fun l ρ2 => QV (.val (.v a.frz) :: l) ρ2) E) E) : Wp (vVal false f vs ρ) QV E := w_vval k
theorem w_appendF {i : Nat} {l0 : List A} (e0 : ρ[i]? = some (some (.m l0))) (k : Wp (f ρ) (fun a ρ1 => Wap ρ1[i]? fun l => Q (.v .non) (ρ1.set i (some (.m (l ++ [.v a.frz]))))) E) : Wp (dAppend i false f ρ) Q E := w_append e0 k
theorem w_setitemF {i : Nat} (k : Wp (f ρ) (fun a ρ1 => Wmm ρ1[i]? (Wp (g ρ1) (fun c ρ2 => Wst ρ2[i]? (.v a.frz) c fun l => QF .nx (ρ2.set i (some (.m l)))) E)) E) : Wp (dSetItem i false f g ρ) QF E := w_setitem k
theorem sz_of {n : Nat} (h : n ≤ 1000000) : n ≤ sizeLine := Nat.le_trans h (by decide)
theorem szl_of {n : Nat} (h : n ≤ 1000000) : n < sizeLine := Nat.lt_of_le_of_lt h (by decide)
end
theorem ixN_nat {n : Nat} {i : Int} (h0 : 0 ≤ i) (h : i < n) : ixN n i = some i.toNat := by
  unfold ixN
  simp only [h0, h, and_self, if_true]
theorem atI_get {α : Type} {l : List α} {i : Int} (h0 : 0 ≤ i) (h : i < l.length) : atI l i = l[i.toNat]? := by
  unfold atI
  rw [ixN_nat h0 h]
  rfl
theorem w_seqJ {ρ : DEnv} {E : Ex → DEnv → Prop} {F G : M Flow} {QF : Flow → DEnv → Prop} (P : DEnv → Prop) (h : Wp (F ρ) (fun fl ρ1 => Wf fl (P ρ1) (QF fl ρ1)) E) (k : ∀ ρ1, P ρ1 → Wp (G ρ1) QF E) : Wp (dSeq F G ρ) QF E :=
  w_seq (wp_mono h (fun fl ρ1 h1 => by cases fl <;> first | exact k _ h1 | exact h1) fun _ _ z => z)
theorem atI_ex {α : Type} {l : List α} {i : Int} (h0 : 0 ≤ i) (h : i < l.length) : ∃ d ∈ l, atI l i = some d := by
  rw [atI_get h0 h]
  have hi : i.toNat < l.length := by omega
  exact ⟨l[i.toNat], List.getElem_mem hi, List.getElem?_eq_getElem hi⟩
theorem wo_ix {a : A} {ds : List D} {n : Int} {P : A → Prop} (e : seqD a.frz = some ds) (h0 : 0 ≤ n) (h : n < ds.length) (k : ∀ d ∈ ds, P (.v d)) : Wo (opIx a (.v (.int n))) P := by
  obtain ⟨d, hd, e2⟩ := atI_ex h0 h
  exact ix_at e e2 (k d hd)
theorem wo_ixI {a : A} {ds : List D} {n : Int} {P : A → Prop} (R : Int → Prop) (e : seqD a.frz = some ds) (h0 : 0 ≤ n) (h : n < ds.length) (hr : ∀ d ∈ ds, ∃ i, d = .int i ∧ R i) (k : ∀ i, R i → P (.v (.int i))) : Wo (opIx a (.v (.int n))) P :=
  wo_ix e h0 h fun d hd => by
    obtain ⟨i, rfl, h⟩ := hr d hd
    exact k i h
section
variable {ρ : DEnv} {E : Ex → DEnv → Prop} {sl : List Nat} {gg : D → M Unit} {p : M Bool} {elt : M A} {QL : List A → DEnv → Prop}
theorem w_compnil (k : QL [] ρ) : Wp (compL sl gg p elt [] ρ) QL E := wp_pure k
theorem w_compcons {d : D} {ds : List D} (k : Wp (gg d ρ) (fun _ ρ1 => Wp (p ρ1) (fun b ρ2 => Wk b (Wp (elt ρ2) (fun a ρ3 => Wp (compL sl gg p elt ds (wipeE ρ3 sl)) (fun l ρ4 => QL (a :: l) ρ4) E) E) (Wp (compL sl gg p elt ds (wipeE ρ2 sl)) QL E)) E) E) : Wp (compL sl gg p elt (d :: ds) ρ) QL E := by
  unfold compL
  refine wp_bind (wp_mono k (fun _ ρ1 k1 => wp_bind (wp_mono k1 (fun b ρ2 k2 => wk_ite ⟨fun e => ?_, fun e => ?_⟩) fun _ _ z => z)) fun _ _ z => z)
  · refine wp_bind (wp_mono (k2.1 e) (fun a ρ3 k3 => ?_) fun _ _ z => z)
    exact wp_bind (f := wipeM sl) (w_wipe (wp_bind (wp_mono k3 (fun _ _ q => wp_pure q) fun _ _ z => z)))
  · exact wp_bind (f := wipeM sl) (w_wipe (k2.2 e))
end
theorem frzs_ints {l : List A} {R : Int → Prop} (hr : ∀ a ∈ l, ∃ i, a = A.v (.int i) ∧ R i) : ∀ d ∈ frzs l, ∃ i, d = D.int i ∧ R i := by
  rw [frzs_eq]
  intro d hd
  obtain ⟨a, ha, rfl⟩ := List.mem_map.mp hd
  obtain ⟨i, rfl, h⟩ := hr a ha
  exact ⟨i, rfl, h⟩
theorem wo_ixM {l : List A} {n : Int} {P : A → Prop} (R : Int → Prop) (h0 : 0 ≤ n) (h : n < l.length) (hr : ∀ a ∈ l, ∃ i, a = A.v (.int i) ∧ R i) (k : ∀ i, R i → P (.v (.int i))) : Wo (opIx (.m l) (.v (.int n))) P :=
  wo_ixI (a := .m l) R rfl h0 (by rw [frzs_eq, List.length_map]; exact h) (frzs_ints hr) k
theorem Bd.one {n : Nat} (h : 0 < n) : Bd n 1 := Nat.one_lt_two_pow (by omega)
theorem Bd.zero {n : Nat} : Bd n 0 := Nat.two_pow_pos n
theorem wo_ixA {l : List A} {n : Int} {P : A → Prop} (R : D → Prop) (h0 : 0 ≤ n) (h : n < l.length) (hr : ∀ a ∈ l, R a.frz) (k : ∀ d, R d → P (.v d)) : Wo (opIx (.m l) (.v (.int n))) P :=
  wo_ix (a := .m l) rfl h0 (by rw [frzs_eq, List.length_map]; exact h) fun d hd => by
    rw [frzs_eq] at hd
    obtain ⟨a, ha, rfl⟩ := List.mem_map.mp hd
    exact k _ (hr a ha)
def kindOk : D → Bool
  | .ins _ _ _ => false
  | _ => true
theorem kind_of {d : D} (h : kindOk d = true) : kindD d ≠ "" := by cases d <;> simp [kindOk, kindD] at h ⊢
def iInt : D → Bool
  | .int _ => true
  | .bl _ => true
  | _ => false
def iBool : D → Bool
  | .bl _ => true
  | _ => false
def iTup : D → Bool
  | .tup _ => true
  | _ => false
section
variable {d : D} {P : A → Prop}
theorem wo_isInt (h : kindD d ≠ "") (k : P (.v (.bl (iInt d)))) : Wo (opIs "int" [.v d]) P := by
  cases d <;> first | exact absurd rfl h | exact wo_eq rfl k
theorem wo_isBool (h : kindD d ≠ "") (k : P (.v (.bl (iBool d)))) : Wo (opIs "bool" [.v d]) P := by
  cases d <;> first | exact absurd rfl h | exact wo_eq rfl k
theorem wo_isTup (h : kindD d ≠ "") (k : P (.v (.bl (iTup d)))) : Wo (opIs "tuple" [.v d]) P := by
  cases d <;> first | exact absurd rfl h | exact wo_eq rfl k
end
def isI : D → Bool
  | .int _ => true
  | _ => false
theorem iBool_bl {b : Bool} : iBool (.bl b) = true := rfl
theorem iBool_int {i : Int} : iBool (.int i) = false := rfl
theorem iInt_bl {b : Bool} : iInt (.bl b) = true := rfl
theorem iInt_int {i : Int} : iInt (.int i) = true := rfl
theorem isI_int {i : Int} : isI (.int i) = true := rfl
theorem isI_bl {b : Bool} : isI (.bl b) = false := rfl
theorem iTup_tup {l : List D} : iTup (.tup l) = true := rfl
theorem iTup_lst {l : List D} : iTup (.lst l) = false := rfl
theorem iTup_int {i : Int} : iTup (.int i) = false := rfl
theorem isI_eq {d : D} (h : iInt d = true) : (!iBool d) = isI d := by cases d <;> first | rfl | cases h
theorem isI_f {d : D} (h : iInt d = false) : false = isI d := by cases d <;> first | rfl | cases h
end DD

namespace DD
open PySem PySem.Spec L2
open PyProof.Rows hiding St
variable [LamN]

def fmtA (a : A) : Option Str := match a with
  | .v (.str y) => if y.length ≤ sizeLine then some y else none
  | .v (.int i) => if i.natAbs.log2 < 1920 then some (toString i) else none
  | _ => none
section
variable {X : Cx} {C : SC} {e : Expr} {f : M A} {pos : Pos}
end

section
variable {X : Cx} {C : SC} {e : Expr} {f : M A} {pos apos p0 : Pos} {s : Str} {j : Option Str}
end

def tupD : D → Option (List D)
  | .tup l => some l
  | _ => none
def zipD (l k : List D) : List D := (l.zip k).map fun q => .tup [q.1, q.2]
def zipO (a c : A) : Option (List D) := match lstD a.frz, lstD c.frz with
  | some l, some k => some (zipD l k)
  | _, _ => match tupD a.frz, tupD c.frz with
    | some l, some k => some (zipD l k)
    | _, _ => none
def dZip (f g : M A) : M (List D) := f.bind fun a => g.bind fun c => ofO (zipO a c)
def enumD (l : List D) : List D := l.zipIdx.map fun q => .tup [.int (q.2 : Nat), q.1]
def dEnum (f : M A) : M (List D) := f.bind fun a => ofO ((lstD a.frz).map enumD)
section
variable {C : SC} {X : Cx} {e e2 : Expr} {f g : M A} {pos p tpos : Pos} {elts : List Expr} {kk : Nat}
theorem zipD_get {l k : List D} {i : Nat} {d : D} (h : (zipD l k)[i]? = some d) : ∃ x y, l[i]? = some x ∧ k[i]? = some y ∧ d = .tup [x, y] := by
  unfold zipD at h
  rw [List.getElem?_map] at h
  cases e : (l.zip k)[i]? with
  | none => rw [e] at h; cases h
  | some q =>
    rw [e] at h
    cases h
    rw [List.getElem?_zip_eq_some] at e
    exact ⟨_, _, e.1, e.2, rfl⟩
theorem zipD_len {l k : List D} : (zipD l k).length = min l.length k.length := by
  unfold zipD
  rw [List.length_map, List.length_zip]
theorem isIt_zip {a c : Addr} {d d2 : D} {l k : List D} (hd : lstD d = some l) (hd2 : lstD d2 = some k) : IsIt C (Itz C.K a c) [.ref c, .ref a] [.v d2, .v d] (zipD l k) := by
  intro b Z H σ ρ vs as S
  obtain ⟨q, xs, e, hs, r⟩ := (Sta.top2 S).lsq S.zh hd
  cases e
  obtain ⟨q2, ys, e, hs2, r2⟩ := (Sta.top S).lsq S.zh hd2
  cases e
  refine ⟨fun i d hi => ?_, xs, ys, hs, hs2, ?_⟩
  · obtain ⟨u, w, hu, hw, rfl⟩ := zipD_get hi
    obtain ⟨x, hx, rx⟩ := r.get hu
    obtain ⟨y, hy, ry⟩ := r2.get hw
    refine ⟨⟨xs, ys, x, y, hs, hs2, hx, hy⟩, fun z H' ⟨T, x', y', e1, hT, e2, f1, f2⟩ => ?_⟩
    subst e1 e2
    have q1 := f1 xs hs
    have q2 := f2 ys hs2
    rw [hx] at q1
    rw [hy] at q2
    cases q1
    cases q2
    exact ⟨_, S.newF (o := .tup [x, y]) hT (.tup (SqT.of upd_same) (RepDs.mono (same_upd (S.zh.free hT)) _ _ (.cons rx (.cons ry .nil))))⟩
  · rw [zipD_len, r.length, r2.length]
    omega
theorem isIt_zipT {a c : Addr} {l k : List D} : IsIt C (RZ.ItzT C.K a c) [.ref c, .ref a] [.v (.tup k), .v (.tup l)] (zipD l k) := by
  intro b Z H σ ρ vs as S
  have t := Sta.top2 S
  have t2 := Sta.top S
  cases t with
  | @tup _ xs _ h1 r =>
    cases t2 with
    | @tup _ ys _ h2 r2 =>
      have hs := sameT S.zh h1
      have hs2 := sameT S.zh h2
      refine ⟨fun i d hi => ?_, xs, ys, hs, hs2, ?_⟩
      · obtain ⟨u, w, hu, hw, rfl⟩ := zipD_get hi
        obtain ⟨x, hx, rx⟩ := r.get hu
        obtain ⟨y, hy, ry⟩ := r2.get hw
        refine ⟨⟨xs, ys, x, y, hs, hs2, hx, hy⟩, fun z H' ⟨T, x', y', e1, hT, e2, f1, f2⟩ => ?_⟩
        subst e1 e2
        have q1 := f1 xs hs
        have q2 := f2 ys hs2
        rw [hx] at q1
        rw [hy] at q2
        cases q1
        cases q2
        exact ⟨_, S.newF (o := .tup [x, y]) hT (.tup (SqT.of upd_same) (RepDs.mono (same_upd (S.zh.free hT)) _ _ (.cons rx (.cons ry .nil))))⟩
      · rw [zipD_len, r.length, r2.length]
        omega
theorem di_zip (hK : X.K = C.K) (hg : Gl X "zip") (hm : X.mg "zip" = none) (ha : PE X e (tE C f)) (hb : PE X e2 (tE C g)) (hs : starEach [e, e2] X.env = (false, eval e X.env) :: starEach [e2] X.env := by rfl) (hpl : (backTo pos (starEach [e2] X.env)).any (·.1) = false := by rfl)
    (ht2 : starEach (e2 :: []) X.env = (false, eval e2 X.env) :: starEach [] X.env := by rfl) : PI X (.Tuple elts kk tpos) (.Call (.Name "zip" p) [e, e2] [] pos) (tI C (dZip f g)) := by
  refine PI.w (RZ.pi_zipA hg hm (pa_cons ha (pa_cons hb pa_nil ht2) hs) hs hpl) fun σ H R k => ?_
  refine (Go.bindE k).mono fun x H1 ⟨a, k1⟩ => (Go.bindE k1).mono fun y H2 ⟨c, k2⟩ => ?_
  obtain ⟨ds, e1, b, Z, ρ, vs, as, hb, _, S, k3⟩ := go_ofO k2
  rw [hK]
  obtain ⟨Z', S'⟩ := Sta.freeze2 (vs := vs) (as := as) S
  have t := Sta.top2 S'
  have t2 := Sta.top S'
  unfold zipO at e1
  split at e1
  · rename_i l k h1 h2
    cases e1
    obtain ⟨q, xs, rfl, hs, r⟩ := t.lsq S'.zh h1
    obtain ⟨q2, ys, rfl, hs2, r2⟩ := t2.lsq S'.zh h2
    exact ⟨q, q2, xs, ys, rfl, .inl ⟨hs, hs2, k3 _ _ [.ref q2, .ref q] [.v _, .v _] _ rfl S' (isIt_zip h1 h2)⟩⟩
  · split at e1
    · rename_i l k h1 h2
      cases e1
      generalize a.frz = d at h1 t S'
      generalize c.frz = d2 at h2 t2 S'
      cases t with
      | @tup q xs l' h3 r =>
        cases h1
        cases t2 with
        | @tup q2 ys k' h4 r2 =>
          cases h2
          exact ⟨q, q2, xs, ys, rfl, .inr ⟨sameT S'.zh h3, sameT S'.zh h4, k3 _ _ [.ref q2, .ref q] [.v (.tup _), .v (.tup _)] _ rfl S' isIt_zipT⟩⟩
        | _ => cases h2
      | _ => cases h1
    · cases e1
theorem enumD_get {l : List D} {i : Nat} {d : D} (h : (enumD l)[i]? = some d) : ∃ x, l[i]? = some x ∧ d = .tup [.int (i : Nat), x] := by
  unfold enumD at h
  rw [List.getElem?_map, List.getElem?_zipIdx] at h
  cases e : l[i]? with
  | none => rw [e] at h; cases h
  | some q =>
    rw [e] at h
    refine ⟨q, rfl, ?_⟩
    have h : some (D.tup [.int ((0 + i : Nat) : Int), q]) = some d := h
    rw [Nat.zero_add] at h
    cases h
    rfl
theorem isIt_enum {a : Addr} {d : D} {l : List D} (hd : lstD d = some l) : IsIt C (Ite C.K a) [.ref a] [.v d] (enumD l) := by
  intro b Z H σ ρ vs as S
  obtain ⟨q, xs, e, hs, r⟩ := (Sta.top S).lsq S.zh hd
  cases e
  refine ⟨fun i d hi => ?_, xs, hs, ?_⟩
  · obtain ⟨u, hu, rfl⟩ := enumD_get hi
    obtain ⟨x, hx, rx⟩ := r.get hu
    refine ⟨⟨xs, x, hs, hx⟩, fun z H' ⟨T, x', e1, hT, e2, f1⟩ => ?_⟩
    subst e1 e2
    have q1 := f1 xs hs
    rw [hx] at q1
    cases q1
    exact ⟨_, S.newF (o := .tup [.int (i : Nat), x]) hT (.tup (SqT.of upd_same) (RepDs.mono (same_upd (S.zh.free hT)) _ _ (.cons (.int _) (.cons rx .nil))))⟩
  · unfold enumD
    rw [List.length_map, List.length_zipIdx, r.length]
    exact Nat.le_refl _
theorem di_enum (hK : X.K = C.K) (hg : Gl X "enumerate") (hm : X.mg "enumerate" = none) (ha : PE X e (tE C f)) (hs : starEach [e] X.env = [(false, eval e X.env)] := by rfl) (hs' : starEach (e :: []) X.env = (false, eval e X.env) :: starEach [] X.env := by rfl) :
    PI X (.Tuple elts kk tpos) (.Call (.Name "enumerate" p) [e] [] pos) (tI C (dEnum f)) := by
  refine PI.w (pi_enum hg hm (pa_cons ha pa_nil hs') hs) fun σ H R k => ?_
  refine (Go.bindE k).mono fun x H1 ⟨a, k1⟩ => ?_
  obtain ⟨ds, e1, b, Z, ρ, vs, as, hb, _, S, k3⟩ := go_ofO k1
  rw [hK]
  obtain ⟨Z', _, S'⟩ := Sta.freeze (vs := vs) (as := as) S
  cases h1 : lstD a.frz with
  | none => rw [h1] at e1; cases e1
  | some l =>
    rw [h1] at e1
    cases e1
    obtain ⟨q, xs, rfl, hs, r⟩ := (Sta.top S').lsq S'.zh h1
    exact ⟨q, xs, rfl, hs, k3 _ _ [.ref q] [.v _] _ rfl S' (isIt_enum h1)⟩
end

section
variable {C : SC} {X : Cx} {e : Expr} {f : M A} {i : Nat} {x : Str} {op : Operator} {pos pos' : Pos} {cd : Int → Int → Prop} {g : Int → Int → Int}
end

def frzE : DEnv → DEnv
  | [] => []
  | none :: ρ => none :: frzE ρ
  | some a :: ρ => some (.v a.frz) :: frzE ρ
def dBor (f : M A) : M A := fun ρ => match f (frzE ρ) with
  | .ok (.v d) _ => if d.flat = true then .ok (.v d) ρ else .bad
  | _ => .bad
def dBorT (f : M Bool) : M Bool := fun ρ => match f (frzE ρ) with
  | .ok d _ => .ok d ρ
  | _ => .bad
section
variable {K : PySem.W.Frag} {mg : Str → Option Value} {b : Base} {Z H : Hp} {σ : St} {ρ : DEnv} {vs : List V} {as : List A}
theorem same_noT {Z H : Hp} (z : Same Z H) (nt : ∀ a ps, Z a ≠ some (.tbl ps)) : Same Z (noT H) := fun a o e => noT_of (z a o e) fun ps q => nt a ps (by rw [e, q])
theorem same_ext {Z H H' : Hp} (z : Same Z H) (nt : ∀ a ps, Z a ≠ some (.tbl ps)) (x : LamX.ExtN H H') : Same Z H' := fun a o e => x a o (z a o e) fun ps q => nt a ps (by rw [e, q])
theorem SRep.frzE {P P' : Nat → Addr → Prop} (z : Same Z (noT H)) : ∀ {σ : St} {n : Nat} {ρ : DEnv} {f : List Addr}, SRep K mg P Z H n σ ρ f → SRep K mg P' (noT H) H n σ (DD.frzE ρ) []
  | [], _, _, _, h => by cases h; exact .nil
  | _ :: σ, _, _, _, h => by
    cases h with
    | no h => exact .no (SRep.frzE z h)
    | so h1 h2 h3 =>
      have q := SRep.so (P := P') (f := []) (g := []) (.v (RepA.freeze z _ _ _ (fun b hb => by
        obtain ⟨o, e, m⟩ := RepA.thereM _ _ _ h1 b hb
        rw [e]; exact noT_of e m.nt) h1)) (fun b hb => by cases hb) (SRep.frzE z h3)
      exact q
def Base.bor (H : Hp) (pn : List Nat) (kn : List (Nat × V)) (σ : St) : Base := ⟨noT H, H, fun _ _ => False, pn, σ, kn⟩
theorem Sta.bor (S : Sta K mg b Z H σ ρ vs as) : Sta K mg (Base.bor H b.pn b.kn σ) (noT H) H σ (DD.frzE ρ) [] [] := by
  obtain ⟨f, g, h1, h2, h3, h4, h5⟩ := S.rep
  exact ⟨Same.refl _, noT_same, fun _ _ => rfl, fun _ _ e _ _ => e, fun _ h => h, ⟨S.sd.tabs, noT_nt, fun p hp => ⟨(S.sd.kn p hp).1, (S.pin _ (S.sd.kn p hp).1).trans (S.sd.kn p hp).2⟩⟩, fun _ _ => rfl, fun _ _ h => h.elim, [], [], SRep.frzE (same_noT S.zh S.sd.nt) h1, .nil, fun _ => by simp, fun _ h => by simp at h, fun _ h => by cases h⟩
theorem Sta.unbor {pn : List Nat} {kn : List (Nat × V)} {σ' : St} {Z' H' : Hp} {ρ' : DEnv} {ws : List V} {l : List A} (S : Sta K mg b Z H σ ρ vs as) (S' : Sta K mg (Base.bor H pn kn σ) Z' H' σ' ρ' ws l) : Sta K mg b Z H' σ ρ vs as := by
  have hh : LamX.ExtN H H' := fun q o e n => S'.kh q o e (fun _ h => h) n
  exact S.grow (Same.refl Z) (same_ext S.zh S.sd.nt hh) hh S'.sd.tabs S.sd.nt (fun _ _ => rfl)
theorem RepD.flatAny {Z Z' : Hp} {x : V} {d : D} (f : d.flat = true) (r : RepD K mg Z x d) : RepD K mg Z' x d := by
  cases r with
  | non => exact .non
  | bl b => exact .bl b
  | int b => exact .int b
  | str b => exact .str b
  | _ => cases f
variable {X : Cx} {C : SC} {e : Expr} {f : M A} {p : M Bool}
theorem dt_bor (he : PT X e (tT C p)) : PT X e (tT C (dBorT p)) := by
  refine PT.w he fun σ H Q ⟨b, Z, ρ, vs, as, hb, hl, S, k⟩ => ?_
  refine ⟨Base.bor H b.pn b.kn σ, noT H, DD.frzE ρ, [], [], ⟨hb.pn, hb.kn⟩, rfl, Sta.bor (vs := vs) (as := as) S, ?_⟩
  unfold dBorT at k
  revert k
  cases e0 : p (DD.frzE ρ) with
  | ok a ρ' =>
    intro k Z' H' S'
    exact k _ _ (Sta.unbor (vs := vs) (as := as) S S')
  | exc e ρ' => intro k; exact k.elim
  | bad => intro k; exact k.elim
end

section
variable {ρ : DEnv} {E : Ex → DEnv → Prop} {f g : M A} {p : M Bool} {Q : A → DEnv → Prop} {QB : Bool → DEnv → Prop} {QD : List D → DEnv → Prop} {QF : Flow → DEnv → Prop}
theorem w_zip (k : Wp (f ρ) (fun a ρ1 => Wp (g ρ1) (fun c ρ2 => Wo (zipO a c) fun ds => QD ds ρ2) E) E) : Wp (dZip f g ρ) QD E := wp_bind (wp_mono k (fun _ _ k => wp_bind (wp_mono k (fun _ _ k => wp_ofO k) fun _ _ z => z)) fun _ _ z => z)
theorem w_enum (k : Wp (f ρ) (fun a ρ1 => Wo (lstD a.frz) fun ds => QD (enumD ds) ρ1) E) : Wp (dEnum f ρ) QD E := wp_bind (wp_mono k (fun _ _ ⟨ds, e, k⟩ => by rw [e]; exact wp_ofO ⟨_, rfl, k⟩) fun _ _ z => z)
theorem w_borT (k : Wp (p (frzE ρ)) (fun a _ => QB a ρ) fun _ _ => False) : Wp (dBorT p ρ) QB E := by
  unfold dBorT
  revert k
  cases e0 : p (frzE ρ) with
  | ok a ρ' =>
    intro k
    exact Wp.mk k.out
  | exc e ρ' => intro k; exact k.out.elim
  | bad => intro k; exact k.out.elim
end
end DD

namespace DD
open PySem PySem.Spec L2
open PyProof.Rows hiding St
variable [LamN]
open TL

structure TOk (n : Nat) (x : Str) : Prop where
  len : x.length ≤ n
  ok : PyData.strOk x = true
theorem strOk_tl {x : Str} : PyData.strOk x = true ↔ ∀ c ∈ tl x, c < 0x110000 := by
  unfold PyData.strOk tl
  rw [Array.all_eq_true']
  constructor
  · intro h c hc
    have := h c (Array.mem_toList_iff.mp hc)
    simpa using this
  · intro h c hc
    simpa using h c (Array.mem_toList_iff.mpr hc)
theorem TOk.mono {n m : Nat} {x : Str} (h : TOk n x) (k : n ≤ m) : TOk m x := ⟨Nat.le_trans h.len k, h.ok⟩
theorem TOk.ofS (s : String) : PyData.strOk (Str.ofString s) = true := by
  rw [strOk_tl, tl_ofString]
  intro c hc
  obtain ⟨ch, _, rfl⟩ := List.mem_map.mp hc
  have := ch.valid
  rcases this with h | ⟨_, h⟩
  · exact Nat.lt_trans h (by decide)
  · exact h
theorem TOk.int {i : Int} (h : i.natAbs.log2 < 1920) : TOk 1921 (Str.ofString (toString i)) := ⟨int_text_len_1921 h, TOk.ofS _⟩
theorem TOk.sum {n k : Nat} {s : Str} (hs : TOk k s) : ∀ {ys : List Str}, (∀ y ∈ ys, TOk n y) → (ys.map (·.length)).sum + ys.length * s.length ≤ ys.length * (n + k)
  | [], _ => by simp
  | y :: ys, h => by
    have h1 := (h y (by simp)).len
    have h2 := TOk.sum hs (ys := ys) fun z hz => h z (List.mem_cons_of_mem _ hz)
    have h3 := hs.len
    simp only [List.map_cons, List.sum_cons, List.length_cons]
    rw [Nat.add_mul, Nat.add_mul]
    omega

mutual
def okc : Nat → D → Bool
  | _, .non => true
  | _, .bl _ => true
  | _, .int _ => true
  | _, .str x => PyData.strOk x
  | k + 1, .tup l => okcs k l
  | k + 1, .lst l => okcs k l
  | k + 1, .fz l => okcs k l
  | _, _ => false
def okcs : Nat → List D → Bool
  | _, [] => true
  | k, d :: l => okc k d && okcs k l
end
mutual
theorem okc_plain : ∀ (d : D) (k : Nat), okc k d = true → d.plain = true ∧ d.py.canLay0 = true ∧ d.py.depth ≤ k
  | .non, k, _ => ⟨by simp [D.plain], by simp [D.py, PyData.canLay0], by simp [D.py, PyData.depth]⟩
  | .bl _, k, _ => ⟨by simp [D.plain], by simp [D.py, PyData.canLay0], by simp [D.py, PyData.depth]⟩
  | .int _, k, _ => ⟨by simp [D.plain], by simp [D.py, PyData.canLay0], by simp [D.py, PyData.depth]⟩
  | .str x, k, h => ⟨by simp [D.plain], by simpa [D.py, PyData.canLay0, okc] using h, by simp [D.py, PyData.depth]⟩
  | .tup l, k + 1, h => by
    obtain ⟨h1, h2, h3⟩ := okcs_plain l k (by simpa [okc] using h)
    exact ⟨by simpa [D.plain] using h1, by simpa [D.py, PyData.canLay0] using h2, by simpa [D.py, PyData.depth] using h3⟩
  | .lst l, k + 1, h => by
    obtain ⟨h1, h2, h3⟩ := okcs_plain l k (by simpa [okc] using h)
    exact ⟨by simpa [D.plain] using h1, by simpa [D.py, PyData.canLay0] using h2, by simpa [D.py, PyData.depth] using h3⟩
  | .fz l, k + 1, h => by
    obtain ⟨h1, h2, h3⟩ := okcs_plain l k (by simpa [okc] using h)
    exact ⟨by simpa [D.plain] using h1, by simpa [D.py, PyData.canLay0] using h2, by simpa [D.py, PyData.depth] using h3⟩
  | .tup _, 0, h => by simp [okc] at h
  | .lst _, 0, h => by simp [okc] at h
  | .fz _, 0, h => by simp [okc] at h
  | .ins _ _ _, k, h => by cases k <;> simp [okc] at h
theorem okcs_plain : ∀ (l : List D) (k : Nat), okcs k l = true → plains l = true ∧ PyData.canLayAll0 (pys l) = true ∧ PyData.depthAll (pys l) ≤ k
  | [], k, _ => ⟨by simp [plains], by simp [pys, PyData.canLayAll0], by simp [pys, PyData.depthAll]⟩
  | d :: l, k, h => by
    have h' : okc k d = true ∧ okcs k l = true := by simpa [okcs] using h
    obtain ⟨h1, h2, h3⟩ := okc_plain d k h'.1
    obtain ⟨g1, g2, g3⟩ := okcs_plain l k h'.2
    exact ⟨by simp [plains, h1, g1], by simp [pys, PyData.canLayAll0, h2, g2], by simp [pys, PyData.depthAll]; omega⟩
end
theorem okc_cmp {k : Nat} {d : D} (h : okc k d = true) (hk : k ≤ 64) : d.cmp = true := by
  obtain ⟨h1, h2, h3⟩ := okc_plain d k h
  have : SeqAt.shaped d.py = true := by
    unfold SeqAt.shaped
    rw [h2, decide_eq_true (Nat.le_trans h3 hk)]
    rfl
  simp [D.cmp, h1, this]
theorem okcs_all {k : Nat} : ∀ {l : List D}, (∀ d ∈ l, okc k d = true) → okcs k l = true
  | [], _ => by simp [okcs]
  | d :: l, h => by simp [okcs, h d (by simp), okcs_all (l := l) fun e he => h e (List.mem_cons_of_mem _ he)]
theorem okc_tup {k : Nat} {l : List D} (h : ∀ d ∈ l, okc k d = true) : okc (k + 1) (.tup l) = true := by unfold okc; exact okcs_all h
theorem okc_lst {k : Nat} {l : List D} (h : ∀ d ∈ l, okc k d = true) : okc (k + 1) (.lst l) = true := by unfold okc; exact okcs_all h
theorem okc_int {k : Nat} {i : Int} : okc k (.int i) = true := by cases k <;> simp [okc]
section
variable {P : A → Prop} {a c : A} {k j : Nat}
theorem wo_eqD (h : okc k a.frz = true) (g : okc j c.frz = true) (hk : k ≤ 64) (hj : j ≤ 64) (q : P (.v (.bl (PyData.eqv a.frz.py c.frz.py)))) : Wo (opEq a c) P := by
  refine wo_eq ?_ q
  unfold opEq opEqv
  rw [okc_cmp h hk, okc_cmp g hj]
  rfl
theorem wo_neD (h : okc k a.frz = true) (g : okc j c.frz = true) (hk : k ≤ 64) (hj : j ≤ 64) (q : P (.v (.bl (!PyData.eqv a.frz.py c.frz.py)))) : Wo (opNe a c) P := by
  refine wo_eq ?_ q
  unfold opNe opEqv
  rw [okc_cmp h hk, okc_cmp g hj]
  rfl
theorem eqv_self {d : D} (h : okc k d = true) : PyData.eqv d.py d.py = true := SeqAt.eqv_refl _ (okc_plain d k h).2.1
/-- both sides the same -/
theorem wo_eqS (e : c.frz = a.frz) (h : okc k a.frz = true) (hk : k ≤ 64) (q : P (.v (.bl true))) : Wo (opEq a c) P :=
  wo_eqD h (by rw [e]; exact h) hk hk (by rw [e, eqv_self h]; exact q)
theorem wo_neS (e : c.frz = a.frz) (h : okc k a.frz = true) (hk : k ≤ 64) (q : P (.v (.bl false))) : Wo (opNe a c) P :=
  wo_neD h (by rw [e]; exact h) hk hk (by rw [e, eqv_self h]; exact q)
/-- a list against the empty one -/
theorem wo_neNil {l : List D} (h : okc k (.lst l) = true) (hk : k ≤ 64) (q : P (.v (.bl (!l.isEmpty)))) : Wo (opNe (.v (.lst l)) (.m [])) P := by
  refine wo_neD (k := k) (j := k) h ?_ hk hk ?_
  · cases k with
    | zero => simp [okc] at h
    | succ k => simp [A.frz, frzs, okc, okcs]
  · have : PyData.eqv (A.v (.lst l)).frz.py (A.m []).frz.py = l.isEmpty := by
      cases l <;> simp [A.frz, frzs, D.py, pys, PyData.eqv, PyData.eqvAll]
    rw [this]
    exact q
theorem wo_eqNil {l : List D} (h : okc k (.lst l) = true) (hk : k ≤ 64) (q : P (.v (.bl l.isEmpty))) : Wo (opEq (.v (.lst l)) (.m [])) P := by
  refine wo_eqD (k := k) (j := k) h ?_ hk hk ?_
  · cases k with
    | zero => simp [okc] at h
    | succ k => simp [A.frz, frzs, okc, okcs]
  · have : PyData.eqv (A.v (.lst l)).frz.py (A.m []).frz.py = l.isEmpty := by
      cases l <;> simp [A.frz, frzs, D.py, pys, PyData.eqv, PyData.eqvAll]
    rw [this]
    exact q
end
/-- a list of values by their data -/
def AllV (P : D → Prop) (l : List A) : Prop := ∀ e ∈ l, ∃ d, e = .v d ∧ P d
theorem AllV.nil {P : D → Prop} : AllV P [] := fun e h => by cases h
theorem AllV.frz {P : D → Prop} {l : List A} (h : AllV P l) : ∀ d ∈ frzs l, P d := fun d hd => by
  rw [frzs_eq] at hd
  obtain ⟨e, he, rfl⟩ := List.mem_map.mp hd
  obtain ⟨d, rfl, g⟩ := h e he
  exact g
theorem AllV.mono {P P' : D → Prop} {l : List A} (h : AllV P l) (k : ∀ d, P d → P' d) : AllV P' l := fun e he => let ⟨d, q, g⟩ := h e he; ⟨d, q, k d g⟩
end DD

namespace DD
open PySem PySem.Spec L2
open PyProof.Rows hiding St
variable [LamN]
section
variable {C : SC} {X : Cx} {es : List Expr} {gs : List D → M Unit} {sl : List Nat} {pos : Pos} {n k : Nat}
end
mutual
inductive KD (K : PySem.W.Frag) : Value → D → Prop
  | int (i : Int) (t : Nat) : KD K (.int i t) (.int i)
  | tup {a : Addr} {o : Obj} {its : Array Value} {n : Nat} {ds : List D} (l : K.lookup a = some o) (c : o.cls = .type "tuple") (d : o.data = .seq its n) (z : its.size ≤ sizeLine) (r : KDs K its.toList ds) : KD K (.ref a) (.tup ds)
inductive KDs (K : PySem.W.Frag) : List Value → List D → Prop
  | nil : KDs K [] []
  | cons {u : Value} {us : List Value} {d : D} {ds : List D} (h : KD K u d) (r : KDs K us ds) : KDs K (u :: us) (d :: ds)
end
mutual
theorem KD.rep {K : PySem.W.Frag} {mg : Str → Option Value} : ∀ {u : Value} {d : D}, KD K u d → ∃ v, RelV v u ∧ ∀ Z, RepD K mg Z v d
  | _, _, .int i t => ⟨.int i, ⟨t, rfl⟩, fun _ => .int i⟩
  | _, _, .tup (a := a) (o := o) (its := its) (n := n) l c d z r =>
    let ⟨vs, h, k⟩ := KDs.rep (mg := mg) r
    ⟨.ref a, rfl, fun Z => .tup (.inr ⟨o, its, n, l, c, d, z, h⟩) (k Z)⟩
theorem KDs.rep {K : PySem.W.Frag} {mg : Str → Option Value} : ∀ {us : List Value} {ds : List D}, KDs K us ds → ∃ vs, Vals vs us ∧ ∀ Z, RepDs K mg Z vs ds
  | _, _, .nil => ⟨[], .nil, fun _ => .nil⟩
  | _, _, .cons h r =>
    let ⟨v, h1, k1⟩ := KD.rep (mg := mg) h
    let ⟨vs, h2, k2⟩ := KDs.rep (mg := mg) r
    ⟨v :: vs, .cons h1 h2, fun Z => .cons (k1 Z) (k2 Z)⟩
end
theorem glob_kd {K : PySem.W.Frag} {h : Heap} {mg : Str → Option Value} {x : Str} {a : Addr} {d : D} (X : K.In h) (G : h.Ns mainGlobals mg) (e : PySem.W.nsIn K mainGlobals x = some (some (.ref a))) (k : KD K (.ref a) d) : Glob K mg x d :=
  let ⟨v, h1, k1⟩ := k.rep (mg := mg)
  ⟨v, .ref a, PySem.W.mg_of X G e, h1, k1⟩
end DD

namespace DD
open PySem PySem.Spec L2
open PyProof.Rows hiding St
variable [LamN]
def dN (p q : Int) : D := .tup [.int p, .int q]
def cmn (u d : Int) : Int := (Int.gcd u d : Int) * (if d < 0 then -1 else 1)
def canon (g u d : Int) : D := if 0 < g then dN (u.fmod g) 1 else dN (u.fdiv (cmn u d)) (d.fdiv (cmn u d))
def okd (g d : Int) : Prop := if 0 < g then d = 1 else d ≠ 0
def numB (g : Int) (d : D) : Bool := match d with
  | .tup [.int a, .int b] => if 0 < g then decide (0 ≤ a) && (decide (a < g) && decide (b = 1)) else decide (1 ≤ b) && decide (((Int.gcd a b : Nat) : Int) = 1)
  | _ => false
structure Num (g : Int) (R : Type) [Lean.Grind.CommRing R] where
  p : R → Int
  q : R → Int
  okp : ∀ r s, okd g (q r * q s)
  ok1 : ∀ r, okd g (q r)
  add : ∀ r s, canon g (p r * q s + p s * q r) (q r * q s) = dN (p (r + s)) (q (r + s))
  mul : ∀ r s, canon g (p r * p s) (q r * q s) = dN (p (r * s)) (q (r * s))
  neg : ∀ r, canon g (0 - p r) (q r) = dN (p (-r)) (q (-r))
  zero : dN (p 0) (q 0) = dN 0 1
  one : dN (p 1) (q 1) = dN 1 1
  mone : canon g (-1) 1 = dN (p (-1)) (q (-1))
  ex : ∀ u d, 0 < d → okd g d → ∃ r, canon g u d = dN (p r) (q r)
  good : ∀ r, numB g (dN (p r) (q r)) = true
section
variable {g : Int} {R : Type} [Lean.Grind.CommRing R] (N : Num g R)
def Num.nm (r : R) : D := dN (N.p r) (N.q r)
structure Num.B (n : Nat) (r : R) : Prop where
  p : Bd n (N.p r)
  q : Bd n (N.q r)
end
theorem dN_inj {a b c d : Int} (h : dN a b = dN c d) : a = c ∧ b = d := by
  unfold dN at h
  simp at h
  exact h
theorem cmn_ne {u d : Int} (h : d ≠ 0) : cmn u d ≠ 0 := by
  have hg : Int.gcd u d ≠ 0 := fun z => h (Int.gcd_eq_zero_iff.mp z).2
  unfold cmn
  split <;> omega
theorem canon_bd {g u d : Int} {n : Nat} (h4 : 4 ≤ n) (hg : g ≤ 13) (hu : Bd n u) (hd : Bd n d) : ∃ x y, canon g u d = dN x y ∧ Bd n x ∧ Bd n y := by
  unfold canon
  split
  · rename_i h
    have := fmod_range (i := u) h
    refine ⟨_, _, rfl, Bd.mono (n := 4) ?_ h4, Bd.one (by omega)⟩
    unfold Bd
    have : (2:Nat) ^ 4 = 16 := by decide
    omega
  · exact ⟨_, _, rfl, hu.le (Int.natAbs_fdiv_le_natAbs _ _), hd.le (Int.natAbs_fdiv_le_natAbs _ _)⟩
theorem Bd.addx {a b : Nat} {i j : Int} (h : Bd a i) (k : Bd b j) : Bd (max a b + 1) (i + j) := (h.mono (Nat.le_max_left _ _)).add (k.mono (Nat.le_max_right _ _))
section
variable {g : Int} {R : Type} [Lean.Grind.CommRing R] {N : Num g R} {a b : Nat} {r s : R}
theorem Num.B.mono (h : N.B a r) (k : a ≤ b) : N.B b r := ⟨h.p.mono k, h.q.mono k⟩
theorem Num.B.of {x y : Int} (e : dN x y = N.nm r) (h1 : Bd a x) (h2 : Bd a y) : N.B a r := by
  obtain ⟨e1, e2⟩ := dN_inj e
  exact ⟨e1 ▸ h1, e2 ▸ h2⟩
theorem Num.B.sums (h : N.B a r) (k : N.B b s) : Bd (a + b + 1) (N.p r * N.q s + N.p s * N.q r) := (h.p.mul k.q).add ((k.p.mul h.q).mono (by omega))
theorem Num.B.dens (h : N.B a r) (k : N.B b s) : Bd (a + b + 1) (N.q r * N.q s) := (h.q.mul k.q).mono (by omega)
theorem Num.B.add (h4 : 4 ≤ a) (hg : g ≤ 13) (h : N.B a r) (k : N.B b s) : N.B (a + b + 1) (r + s) := by
  obtain ⟨x, y, e, h1, h2⟩ := canon_bd (g := g) (n := a + b + 1) (by omega) hg (h.sums k) (h.dens k)
  exact Num.B.of (e.symm.trans (N.add r s)) h1 h2
theorem Num.B.mul (h4 : 4 ≤ a) (hg : g ≤ 13) (h : N.B a r) (k : N.B b s) : N.B (a + b) (r * s) := by
  obtain ⟨x, y, e, h1, h2⟩ := canon_bd (g := g) (n := a + b) (by omega) hg (h.p.mul k.p) (h.q.mul k.q)
  exact Num.B.of (e.symm.trans (N.mul r s)) h1 h2
theorem Num.B.neg (h4 : 4 ≤ a) (hg : g ≤ 13) (h : N.B a r) : N.B a (-r) := by
  obtain ⟨x, y, e, h1, h2⟩ := canon_bd (g := g) (n := a) (by omega) hg (u := 0 - N.p r) (by rw [Int.zero_sub]; exact h.p.neg) h.q
  exact Num.B.of (e.symm.trans (N.neg r)) h1 h2
theorem Num.B.zero (h4 : 1 ≤ a) : N.B a 0 := Num.B.of N.zero.symm Bd.zero (Bd.one h4)
theorem Num.B.one (h4 : 1 ≤ a) : N.B a 1 := Num.B.of N.one.symm (Bd.one h4) (Bd.one h4)
end

theorem canon_nat {u : Int} {d : Nat} (h : d ≠ 0) : canon 0 u d = dN (mkRat u d).num (mkRat u d).den := by
  unfold canon cmn
  rw [if_neg (by decide), if_neg (by omega), Int.mul_one, Rat.mkRat_def, dif_neg h, Rat.normalize_eq]
  have e : (Int.gcd u d : Int) = ((u.natAbs.gcd d : Nat) : Int) := by rw [Int.gcd, Int.natAbs_natCast]
  have e1 : u.fdiv (u.natAbs.gcd d : Nat) = u / (u.natAbs.gcd d : Nat) := Int.fdiv_eq_ediv_of_nonneg _ (by omega)
  have e2 : (d : Int).fdiv (u.natAbs.gcd d : Nat) = ((d / u.natAbs.gcd d : Nat) : Int) := by
    rw [Int.fdiv_eq_ediv_of_nonneg _ (by omega), Int.natCast_ediv]
  rw [e, e1, e2]
theorem rat_pos (r : Rat) : 0 < (r.den : Int) := by have := r.den_nz; omega
theorem rat_canon {u d : Int} (h : 0 < d) : canon 0 u d = dN (mkRat u d.toNat).num (mkRat u d.toNat).den := by
  have := canon_nat (u := u) (d := d.toNat) (by omega)
  rwa [Int.toNat_of_nonneg (by omega)] at this
def num0 : Num 0 Rat where
  p r := r.num
  q r := r.den
  okp r s := by
    unfold okd
    rw [if_neg (by decide)]
    have := Int.mul_pos (rat_pos r) (rat_pos s)
    omega
  ok1 r := by
    unfold okd
    rw [if_neg (by decide)]
    have := rat_pos r
    omega
  add r s := by
    rw [Rat.add_def', ← Int.natCast_mul, canon_nat (Nat.mul_ne_zero r.den_nz s.den_nz)]
  mul r s := by
    rw [Rat.mul_def', ← Int.natCast_mul, canon_nat (Nat.mul_ne_zero r.den_nz s.den_nz)]
  neg r := by
    rw [canon_nat r.den_nz, Int.zero_sub, ← Rat.neg_num]
    have e : mkRat (-r).num r.den = -r := by
      have := Rat.mkRat_self (-r)
      rwa [Rat.neg_den] at this
    rw [e]
  zero := rfl
  one := rfl
  mone := by
    have e : mkRat (-1) 1 = -1 := by decide +kernel
    have := canon_nat (u := -1) (d := 1) (by decide)
    rw [e] at this
    exact this
  ex u d h _ := ⟨_, rat_canon h⟩
  good r := by
    unfold numB dN
    dsimp only
    have h := rat_pos r
    have h2 := r.reduced
    rw [if_neg (by decide), decide_eq_true (by omega : 1 ≤ (r.den : Int)), Bool.true_and, decide_eq_true]
    rw [Int.gcd, Int.natAbs_natCast, h2]
    rfl

end DD

namespace ZS
open PySem
open PySem.Sem (wp)
abbrev kwS : List (Str × Value) := [(Str.ofString "strict", .bool true)]
abbrev IsZipS (h : Heap) (z TI TO : Addr) (f0 : Value) : Prop :=
  h.get? z = some { cls := .type "zip", dict := none, data := .fields #[f0, .bool false, .bool true, .ref TI, .ref TO], slots := #[] }
section
variable {prog : Program} {w : World} {A : Around} {E : Value → Shared → Prop} {s : Shared}
theorem callType_meets_kw {T newId initId : String} {Bn Bi : Builtin} {args : List Value} {kw : List (Str × Value)} {S : Spec} {Q Q₁ : Value → Shared → Prop} (ft : TypeCalled T newId initId)
    (hct : checkTypeCall T ⟨args, kw⟩ = pure ()) (hcn : checkBuiltinCall newId ⟨.type T :: args, kw⟩ = pure ())
    (entryN : entryFor table newId = some Bn) (entryI : entryFor table initId = some Bi) (g : Meets (Bn ⟨.type T :: args, kw⟩) S)
    (h : S A.in1 (wants Q₁ E) s)
    (hnext : ∀ obj s₁, Q₁ obj s₁ → s₁.TypeIs obj T ∧ argsOk initId ⟨obj :: args, kw⟩ ∧ ∃ Si, Meets (Bi ⟨obj :: args, kw⟩) Si ∧ Si A.in1 (wants (fun r s₂ => r = .none ∧ Q obj s₂) E) s₁) :
    wpAny (model prog w) A (call (.type T) args kw) Q E s := by
  obtain ⟨c, tl, hmro⟩ := ft.mro
  have hmade := ft.made
  have hsub := ft.sub
  refine wpAny_call (codeAny_of_tree ?_)
  show wpAny _ _ (callAny (.type T) _) _ _ _
  refine wpAny_pure ⟨Code.quiet_builtin _ (by decide +kernel), codeAny_builtin F.entry_type_call ?_⟩
  rw [Around.under_plain (weight_type_call_type T args kw) (units_type_call_type T args kw)]
  have h1 := ft.notType
  have h2 := ft.canCreate
  repeat (any_goals (first | assumption | wp_step))
  refine codeAny_mono (codeAny_call_builtin ft.plain entryN (wpAny_of_eq hcn (g prog w A.in1 _ s h))) fun r s₁ hr => ?_
  cases r with
  | error e => exact hr
  | ok fl =>
    cases fl with
    | ret obj =>
      obtain ⟨hT, hok, Si, gi, hsi⟩ := hnext _ _ hr
      have hli := ft.init.lookup
      have hbi := ft.init.bind obj
      repeat (any_goals (first | assumption | wp_step))
      refine codeAny_mono (codeAny_call_builtin ft.init.plain entryI (ft.init.check _ _ _ _ _ _ _ _ hT hok (gi prog w A.in1 _ s₁ hsi))) fun r₂ s₂ hr₂ => ?_
      cases r₂ with
      | error e => exact hr₂
      | ok fl₂ =>
        cases fl₂ with
        | ret r =>
          obtain ⟨rfl, hq⟩ := hr₂
          repeat (any_goals (first | assumption | wp_step))
        | _ => exact hr₂.elim
    | _ => exact hr.elim
theorem object_init_meets_kw {T newId : String} {self a : Value} {rest : List Value} (hl : typeLookup (.type T) "__init__" = pure (some (.builtin "object.__init__")))
    (hm : Bind.madeBy (.type T) = pure (some newId)) (hne : (some newId != some "object.__new__") = true) :
    Meets (Builtin.«object.__init__» ⟨self :: a :: rest, kwS⟩) (fun _ R s => s.TypeIs self T ∧ R (.ok (.ret .none)) s) := by
  refine Meets.of_wp fun prog w A R s hs => ?_
  obtain ⟨hT, hq⟩ := hs
  repeat (any_goals (first | assumption | wp_step))
  exact ⟨_, rfl, hq⟩
theorem typeCall_zip_S (a b : Value) : checkTypeCall "zip" ⟨[a, b], kwS⟩ = pure () := by kernel_rfl
theorem newCall_zip_S (a b : Value) : checkBuiltinCall "zip.__new__" ⟨[.type "zip", a, b], kwS⟩ = pure () := by kernel_rfl
theorem args_object_init_S (a b c : Value) : argsOk "object.__init__" ⟨[a, b, c], kwS⟩ := by
  unfold argsOk; rw [signature?_of (id := "object.__init__") (n := ['_', '_', 't', 'i', 'n', 'i', '_', '_']) (o := ['t', 'c', 'e', 'j', 'b', 'o']) (by kernel_rfl) F.owner_object]; kernel_rfl
end
abbrev zH5 (h : Heap) (l1 l2 : Addr) : Heap := (RZ.zipTH4 h l1 l2).push { cls := .type "zip", data := .fields #[.none, .bool false, .bool true, .ref (RZ.zipTH2 h l1 l2).objs.size, .ref (RZ.zipTH3 h l1 l2).objs.size] }
theorem meets_zipS_new (l1 l2 : Addr) (xs ys : Array Value) :
    Meets (Builtin.«zip.__new__» ⟨[.type "zip", .ref l1, .ref l2], kwS⟩) (fun _ R s => s.heap.IsTuple l1 xs ∧ s.heap.IsTuple l2 ys ∧
      R (.ok (.ret (.ref (RZ.zipTH4 s.heap l1 l2).objs.size))) { s with heap := zH5 s.heap l1 l2 }) :=
  .of_wp fun prog w A R s h => by
    obtain ⟨hp, g, d, tk, os⟩ := s; obtain ⟨hl1, hl2, h⟩ := h
    have hsub := sub_zip
    have hL1 : Heap.IsTuple (Shared.heap ⟨hp, g, d, tk, os⟩) l1 xs := hl1
    have hL2 : Heap.IsTuple (Shared.heap ⟨hp.push { cls := .type "tuple_iterator", data := .fields #[.ref l1, .int 0 0] }, g, d, tk, os⟩) l2 ys := Heap.IsTuple.push hl2 _
    wp_walk using wpAny_pyIter_tuple hL1, wpAny_pyIter_tuple hL2
    exact ⟨_, rfl, h⟩
end ZS

namespace ZS
open PySem
open PySem.Sem (wp)
section
variable {prog : Program} {w : World} {A : Around} {E : Value → Shared → Prop} {s : Shared}
theorem orEnd_item {it l : Addr} {i : Nat} {items} {x : Value} {Q : Option Value → Shared → Prop} (hit : s.heap.IsTupleIter it l i)
    (hl : s.heap.IsTuple l items) (hx : items[i]? = some x)
    (hQ : ∀ h', h'.IsTupleIter it l (i + 1) → Heap.SameBut it s.heap h' → Q (some x) { s with heap := h' }) :
    wpAny (model prog w) A (Builtin.SmallTypes.nextOrEnd (.ref it)) Q E s := by
  unfold Builtin.SmallTypes.nextOrEnd
  exact wpAny_bind (wpAny_attempt (RZ.nextOf_tuple_item hit hl hx fun h' a b => wpAny_pure (hQ h' a b)))
theorem orEnd_end {it l : Addr} {i : Nat} {items} {Q : Option Value → Shared → Prop} (hh : A.handled = none)
    (hit : s.heap.IsTupleIter it l i) (hl : s.heap.IsTuple l items) (hx : items[i]? = none)
    (hQ : ∀ h', Heap.ExtBut it s.heap h' → Q none { s with heap := h' }) :
    wpAny (model prog w) A (Builtin.SmallTypes.nextOrEnd (.ref it)) Q E s := by
  unfold Builtin.SmallTypes.nextOrEnd
  refine wpAny_bind (wpAny_attempt (RZ.nextOf_tuple_end hh hit hl hx fun h' e hk he => ?_))
  obtain ⟨o, ho, hc⟩ := he
  refine wpAny_bind (wpAny_isInstance (T := "StopIteration") (b := true) ⟨o, ho, hc⟩ isSubtype_stop ?_)
  exact wpAny_pure (hQ _ hk)
theorem next_item {z TI TO i1 i2 l1 l2 : Addr} {k1 k2 : Nat} {xs ys : Array Value} {x y a b : Value} {Q : Value → Shared → Prop} (D : ZipApart z TI TO i1 i2 l1 l2)
    (hz : IsZipS s.heap z TI TO .none) (hTI : IsPair s.heap TI (.ref i1) (.ref i2)) (hTO : IsPair s.heap TO a b)
    (h1 : s.heap.IsTupleIter i1 l1 k1) (h2 : s.heap.IsTupleIter i2 l2 k2) (hl1 : s.heap.IsTuple l1 xs) (hl2 : s.heap.IsTuple l2 ys) (hx : xs[k1]? = some x) (hy : ys[k2]? = some y)
    (hQ : ∀ h', IsZipS h' z TI TO (rawInt s.heap.objs.size) → IsPair h' TO x y → h'.IsTupleIter i1 l1 (k1 + 1) → h'.IsTupleIter i2 l2 (k2 + 1) → IsPair h' s.heap.objs.size x y → h'.objs.size = s.heap.objs.size + 1 →
      (∀ c o, c ≠ z → c ≠ TO → c ≠ i1 → c ≠ i2 → s.heap.get? c = some o → h'.get? c = some o) → Q (.ref s.heap.objs.size) { s with heap := h' }) :
    wpAny (model prog w) A (Builtin.«zip.__next__» ⟨[.ref z], []⟩) (fun fin s' => ∃ v, fin = .done (.ret v) ∧ Q v s') E s := by
  show wpAny _ _ (field (.ref z) 2 >>= _) _ _ _
  refine wpAny_bind (wpAny_field hz rfl (x := .bool true) rfl ?_)
  show wpAny _ _ (field (.ref z) 3 >>= _) _ _ _
  refine wpAny_bind (wpAny_field hz rfl (x := .ref TI) rfl ?_)
  refine wpAny_bind (wpAny_seqItems hTI rfl ?_)
  show wpAny _ _ (Builtin.SmallTypes.ownedTupleIsFree (.ref z) >>= _) _ _ _
  refine wpAny_bind ?_
  unfold Builtin.SmallTypes.ownedTupleIsFree
  refine wpAny_bind (wpAny_field hz rfl (x := .none) rfl (wpAny_pure ?_))
  simp only [if_true]
  refine wpAny_bind (wpAny_rule ?_)
  refine wpAny_bind (wpAny_field hz rfl (x := .ref TO) rfl ?_)
  refine wpAny_bind (wpAny_setField_rec hz (by simp) fun h₁ hz₁ hs₁ => ?_)
  replace hz₁ : IsZipS h₁ z TI TO .ellipsis := hz₁
  refine wpAny_bind ?_
  simp only [List.zipIdx_cons, List.zipIdx_nil, List.forIn_cons, List.forIn_nil]

  refine wpAny_bind (wpAny_bind (wpAny_onRaise ?_))
  show wpAny _ _ (Builtin.SmallTypes.nextOrEnd (.ref i1)) _ _ _
  refine orEnd_item (h1.extBut hs₁.extBut D.i1z) (hl1.extBut hs₁.extBut D.l1z) hx fun h₂ h1₂ hs₂ => ?_
  have hTO₂ : IsPair h₂ TO a b := hs₂.extBut _ _ D.TOi1 (hs₁.extBut _ _ D.TOz hTO)
  refine wpAny_bind (wpAny_seqItems hTO₂ rfl ?_)
  refine wpAny_bind (wpAny_updateSeq_pair hTO₂ fun h₃ hTO₃ hs₃ => ?_)
  replace hTO₃ : IsPair h₃ TO x b := hTO₃
  refine wpAny_bind (wpAny_letGo (wpAny_pure ?_))

  refine wpAny_bind (wpAny_bind (wpAny_onRaise ?_))
  show wpAny _ _ (Builtin.SmallTypes.nextOrEnd (.ref i2)) _ _ _
  refine orEnd_item (((h2.extBut hs₁.extBut D.i2z).extBut hs₂.extBut D.i12.symm).extBut hs₃.extBut D.TOi2.symm)
    (((hl2.extBut hs₁.extBut D.l2z).extBut hs₂.extBut D.l2i1).extBut hs₃.extBut D.l2TO) hy fun h₄ h2₄ hs₄ => ?_
  have hTO₄ : IsPair h₄ TO x b := hs₄.extBut _ _ D.TOi2 hTO₃
  refine wpAny_bind (wpAny_seqItems hTO₄ rfl ?_)
  refine wpAny_bind (wpAny_updateSeq_pair hTO₄ fun h₅ hTO₅ hs₅ => ?_)
  replace hTO₅ : IsPair h₅ TO x y := hTO₅
  refine wpAny_bind (wpAny_letGo (wpAny_pure (wpAny_pure ?_)))

  refine wpAny_bind (wpAny_seqItems hTO₅ rfl ?_)
  refine wpAny_bind (wpAny_newTuple ?_)
  have hsz : h₅.objs.size = s.heap.objs.size := by rw [hs₅.1, hs₄.1, hs₃.1, hs₂.1, hs₁.1]
  have hz₅ : IsZipS h₅ z TI TO .ellipsis := hs₅.extBut _ _ D.TOz.symm (hs₄.extBut _ _ D.i2z.symm (hs₃.extBut _ _ D.TOz.symm (hs₂.extBut _ _ D.i1z.symm hz₁)))
  have hk₅ : ∀ c o, c ≠ z → c ≠ TO → c ≠ i1 → c ≠ i2 → s.heap.get? c = some o → h₅.get? c = some o := fun c o c1 c2 c3 c4 e =>
    hs₅.extBut _ _ c2 (hs₄.extBut _ _ c4 (hs₃.extBut _ _ c2 (hs₂.extBut _ _ c3 (hs₁.extBut _ _ c1 e))))
  have h1₅ : h₅.IsTupleIter i1 l1 (k1 + 1) := ((h1₂.extBut hs₃.extBut D.TOi1.symm).extBut hs₄.extBut D.i12).extBut hs₅.extBut D.TOi1.symm
  have h2₅ : h₅.IsTupleIter i2 l2 (k2 + 1) := h2₄.extBut hs₅.extBut D.TOi2.symm
  have hzlt : z < h₅.objs.size := Heap.lt_size hz₅
  have hTOlt : TO < h₅.objs.size := Heap.lt_size hTO₅
  have hi1lt : i1 < h₅.objs.size := by obtain ⟨_, e, _⟩ := h1₅; exact Heap.lt_size e
  have hi2lt : i2 < h₅.objs.size := by obtain ⟨_, e, _⟩ := h2₅; exact Heap.lt_size e
  show wpAny _ _ (Builtin.SmallTypes.ownedTupleHandOut (.ref z) (.ref h₅.objs.size) >>= _) _ _ _
  refine wpAny_bind ?_
  unfold Builtin.SmallTypes.ownedTupleHandOut
  have hz₆ : IsZipS (h₅.push { cls := .type "tuple", data := .seq #[x, y] }) z TI TO .ellipsis := Heap.get?_push_of_some _ hz₅
  refine wpAny_bind (wpAny_setField_rec hz₆ (by simp) fun h₇ hz₇ hs₇ => ?_)
  replace hz₇ : IsZipS h₇ z TI TO (rawInt h₅.objs.size) := hz₇
  refine wpAny_setField_rec hz₇ (by simp) fun h₈ hz₈ hs₈ => ?_
  replace hz₈ : IsZipS h₈ z TI TO (rawInt h₅.objs.size) := hz₈
  have up : ∀ c o, c ≠ z → h₅.get? c = some o → h₈.get? c = some o := fun c o c1 e => hs₈.extBut _ _ c1 (hs₇.extBut _ _ c1 (Heap.get?_push_of_some _ e))
  have hT₈ : IsPair h₈ h₅.objs.size x y := hs₈.extBut _ _ (Nat.ne_of_gt hzlt) (hs₇.extBut _ _ (Nat.ne_of_gt hzlt) (Heap.get?_push_size _ rfl))
  have hz8 : h₈.objs.size = h₅.objs.size + 1 := by rw [hs₈.1, hs₇.1, Heap.size_push]
  rw [hsz] at hz₈ hT₈ hz8
  refine wpAny_pure ⟨_, rfl, ?_⟩
  show Q (.ref h₅.objs.size) _
  rw [hsz]
  exact hQ h₈ hz₈ (up _ _ D.TOz hTO₅) (h1₅.at fun o e => up _ o D.i1z e) (h2₅.at fun o e => up _ o D.i2z e) hT₈ hz8 fun c o c1 c2 c3 c4 e => up c o c1 (hk₅ c o c1 c2 c3 c4 e)
theorem next_end {z TI TO i1 i2 l1 l2 : Addr} {k1 k2 : Nat} {xs ys : Array Value} {a b : Value} {Q : Fin → Shared → Prop} (hh : A.handled = none) (D : ZipApart z TI TO i1 i2 l1 l2)
    (hz : IsZipS s.heap z TI TO .none) (hTI : IsPair s.heap TI (.ref i1) (.ref i2)) (hTO : IsPair s.heap TO a b)
    (h1 : s.heap.IsTupleIter i1 l1 k1) (h2 : s.heap.IsTupleIter i2 l2 k2) (hl1 : s.heap.IsTuple l1 xs) (hl2 : s.heap.IsTuple l2 ys) (hx : xs[k1]? = none) (hy : ys[k2]? = none)
    (hE : ∀ h' e, (∀ c o, c ≠ z → c ≠ TO → c ≠ i1 → c ≠ i2 → s.heap.get? c = some o → h'.get? c = some o) → (∃ o, h'.get? e = some o ∧ o.cls = .type "StopIteration") → E (.ref e) { s with heap := h' }) :
    wpAny (model prog w) A (Builtin.«zip.__next__» ⟨[.ref z], []⟩) Q E s := by
  show wpAny _ _ (field (.ref z) 2 >>= _) _ _ _
  refine wpAny_bind (wpAny_field hz rfl (x := .bool true) rfl ?_)
  show wpAny _ _ (field (.ref z) 3 >>= _) _ _ _
  refine wpAny_bind (wpAny_field hz rfl (x := .ref TI) rfl ?_)
  refine wpAny_bind (wpAny_seqItems hTI rfl ?_)
  show wpAny _ _ (Builtin.SmallTypes.ownedTupleIsFree (.ref z) >>= _) _ _ _
  refine wpAny_bind ?_
  unfold Builtin.SmallTypes.ownedTupleIsFree
  refine wpAny_bind (wpAny_field hz rfl (x := .none) rfl (wpAny_pure ?_))
  simp only [if_true]
  refine wpAny_bind (wpAny_rule ?_)
  refine wpAny_bind (wpAny_field hz rfl (x := .ref TO) rfl ?_)
  refine wpAny_bind (wpAny_setField_rec hz (by simp) fun h₁ hz₁ hs₁ => ?_)
  replace hz₁ : IsZipS h₁ z TI TO .ellipsis := hz₁
  refine wpAny_bind ?_
  simp only [List.zipIdx_cons, List.zipIdx_nil, List.forIn_cons, List.forIn_nil]
  refine wpAny_bind (wpAny_bind (wpAny_onRaise ?_))
  show wpAny _ _ (Builtin.SmallTypes.nextOrEnd (.ref i1)) _ _ _
  refine orEnd_end hh (h1.extBut hs₁.extBut D.i1z) (hl1.extBut hs₁.extBut D.l1z) hx fun h₂ hs₂ => ?_
  have hz₂ : IsZipS h₂ z TI TO .ellipsis := hs₂ _ _ D.i1z.symm hz₁
  dsimp only
  refine wpAny_bind (wpAny_setField_rec hz₂ (by simp) fun h₃ _ hs₃ => ?_)
  refine wpAny_bind ?_
  refine wpAny_bind ?_
  simp only [List.drop_succ_cons, List.drop_zero, List.zipIdx_cons, List.zipIdx_nil, List.forIn_cons, List.forIn_nil]
  have e3 : ∀ c o, c ≠ z → c ≠ i1 → s.heap.get? c = some o → h₃.get? c = some o := fun c o c1 c3 x => hs₃.extBut _ _ c1 (hs₂ _ _ c3 (hs₁.extBut _ _ c1 x))
  refine wpAny_bind (wpAny_bind (orEnd_end hh (h2.at fun o x => e3 _ o D.i2z D.i12.symm x) (hl2.at fun o x => e3 _ o D.l2z D.l2i1 x) hy fun h₄ hs₄ => ?_))
  have e4 : ∀ c o, c ≠ z → c ≠ i1 → c ≠ i2 → s.heap.get? c = some o → h₄.get? c = some o := fun c o c1 c3 c4 x => hs₄ _ _ c4 (e3 c o c1 c3 x)
  refine wpAny_pure ?_
  refine wpAny_pure ?_
  refine wpAny_bind (wpAny_rule ?_)
  unfold Builtin.SmallTypes.stopIteration
  show wpAny _ _ (newExc (.type "StopIteration") [] >>= _) _ _ _
  refine wpAny_bind ?_
  simp only [newExc, newTuple]
  refine wpAny_bind (wpAny_newObj_type ?_ (by size_fits))
  refine wpAny_bind (m := firstArgMember _ _) (wpAny_of_eq (a := Value.none) (by first | rfl | (simp only [firstArgMember]; rfl)) ?_)
  refine wpAny_newObj_type ?_ (by size_fits)
  simp only [raiseNew]
  refine wpAny_bind (wpAny_handled ?_)
  first | rw [show A.in1.handled = none from hh] | rw [hh]
  refine wpAny_bind (wpAny_pure (wpAny_throw ?_))
  exact hE _ _ (fun c o c1 c2 c3 c4 x => Heap.get?_push_of_some _ (Heap.get?_push_of_some _ (e4 c o c1 c3 c4 x))) ⟨_, Heap.get?_push_size _ rfl, rfl⟩
theorem pyNext_item {z TI TO i1 i2 l1 l2 : Addr} {k1 k2 : Nat} {xs ys : Array Value} {x y a b : Value} {Q : Option Value → Shared → Prop} (D : ZipApart z TI TO i1 i2 l1 l2)
    (hz : IsZipS s.heap z TI TO .none) (hTI : IsPair s.heap TI (.ref i1) (.ref i2)) (hTO : IsPair s.heap TO a b)
    (h1 : s.heap.IsTupleIter i1 l1 k1) (h2 : s.heap.IsTupleIter i2 l2 k2) (hl1 : s.heap.IsTuple l1 xs) (hl2 : s.heap.IsTuple l2 ys) (hx : xs[k1]? = some x) (hy : ys[k2]? = some y)
    (hQ : ∀ h', IsZipS h' z TI TO (rawInt s.heap.objs.size) → IsPair h' TO x y → h'.IsTupleIter i1 l1 (k1 + 1) → h'.IsTupleIter i2 l2 (k2 + 1) → IsPair h' s.heap.objs.size x y → h'.objs.size = s.heap.objs.size + 1 →
      (∀ c o, c ≠ z → c ≠ TO → c ≠ i1 → c ≠ i2 → s.heap.get? c = some o → h'.get? c = some o) → Q (some (.ref s.heap.objs.size)) { s with heap := h' }) :
    wpAny (model prog w) A (pyNext (.ref z)) Q E s := by
  have hT : s.TypeIs (.ref z) "zip" := ⟨_, hz, rfl⟩
  unfold pyNext
  exact wpAny_bind (wpAny_attempt (wpAny_callSpecial?_slot (name := Str.ofString "__next__") hT F.slot_zip_next
    (wpAny_call_entry F.slot_zip_next hT F.entry_zip_next
      (next_item D hz hTI hTO h1 h2 hl1 hl2 hx hy fun h' a1 a2 a3 a4 a5 a6 a7 => wpAny_pure (hQ h' a1 a2 a3 a4 a5 a6 a7)) (F.args_zip_next_1 _))))
theorem pyNext_end {z TI TO i1 i2 l1 l2 : Addr} {k1 k2 : Nat} {xs ys : Array Value} {a b : Value} {Q : Option Value → Shared → Prop} (hh : A.handled = none) (D : ZipApart z TI TO i1 i2 l1 l2)
    (hz : IsZipS s.heap z TI TO .none) (hTI : IsPair s.heap TI (.ref i1) (.ref i2)) (hTO : IsPair s.heap TO a b)
    (h1 : s.heap.IsTupleIter i1 l1 k1) (h2 : s.heap.IsTupleIter i2 l2 k2) (hl1 : s.heap.IsTuple l1 xs) (hl2 : s.heap.IsTuple l2 ys) (hx : xs[k1]? = none) (hy : ys[k2]? = none)
    (hQ : ∀ h', (∀ c o, c ≠ z → c ≠ TO → c ≠ i1 → c ≠ i2 → s.heap.get? c = some o → h'.get? c = some o) → Q none { s with heap := h' }) : wpAny (model prog w) A (pyNext (.ref z)) Q E s := by
  have hT : s.TypeIs (.ref z) "zip" := ⟨_, hz, rfl⟩
  unfold pyNext
  refine wpAny_bind (wpAny_attempt (wpAny_callSpecial?_slot (name := Str.ofString "__next__") hT F.slot_zip_next
    (wpAny_call_entry F.slot_zip_next hT F.entry_zip_next (next_end hh D hz hTI hTO h1 h2 hl1 hl2 hx hy fun h' e hk he => ?_) (F.args_zip_next_1 _))))
  obtain ⟨o, ho, hc⟩ := he
  refine wpAny_bind (wpAny_isInstance (T := "StopIteration") (b := true) ⟨o, ho, hc⟩ isSubtype_stop ?_)
  exact wpAny_pure (hQ _ hk)
theorem letGo_zipS {elts : List Expr} {x1} {pos : Pos} {z TI TO T : Addr} {Q : Unit → Shared → Prop} (hz : IsZipS s.heap z TI TO (rawInt T))
    (hQ : ∀ h', IsZipS h' z TI TO .none → Heap.SameBut z s.heap h' → Q () { s with heap := h' }) :
    wpAny (model prog w) A (letOwnedTupleGo (.Tuple elts x1 pos) (.ref z) (.ref T)) Q E s := by
  unfold letOwnedTupleGo
  refine wpAny_bind (wpAny_load hz ?_)
  show wpAny _ _ (if (["enumerate", "zip", "dict_itemiterator", "dict_reverseitemiterator", "odict_iterator", "itertools.zip_longest", "itertools.pairwise"].contains "zip" &&
      (#[rawInt T, .bool false, .bool true, .ref TI, .ref TO] : Array Value)[0]? == some (rawInt T)) = true then _ else _) Q E s
  rw [if_pos (by simp)]
  refine wpAny_bind (wpAny_rule ?_)
  show wpAny _ _ (setField (.ref z) 0 .none) Q E s
  exact wpAny_setField_rec hz (by simp) fun h' hz' hs' => hQ h' hz' hs'
theorem pyIter_zipS {z TI TO : Addr} {f0 : Value} {Q : Value → Shared → Prop} (hz : IsZipS s.heap z TI TO f0) (h : Q (.ref z) s) : wpAny (model prog w) A (pyIter (.ref z)) Q E s := by
  have hT : s.TypeIs (.ref z) "zip" := ⟨_, hz, rfl⟩
  refine wpAny_pyIter_slot hT F.slot_zip_iter (wpAny_call_entry F.slot_zip_iter hT F.entry_zip_iter ?_ (F.args_zip_iter_1 _))
  show wpAny _ _ (ret (.ref z)) _ _ s
  exact wpAny_pure ⟨_, rfl, "zip", _, hT, F.slot_zip_next.lookup, h⟩
open RZ in
theorem call_zipS {l1 l2 : Addr} {xs ys : Array Value} {Q : Value → Shared → Prop} (hl1 : s.heap.IsTuple l1 xs) (hl2 : s.heap.IsTuple l2 ys)
    (h : ∀ h', IsZipS h' (s.heap.objs.size + 4) (s.heap.objs.size + 2) (s.heap.objs.size + 3) .none → IsPair h' (s.heap.objs.size + 2) (.ref s.heap.objs.size) (.ref (s.heap.objs.size + 1)) →
      IsPair h' (s.heap.objs.size + 3) .none .none → h'.IsTupleIter s.heap.objs.size l1 0 → h'.IsTupleIter (s.heap.objs.size + 1) l2 0 → h'.objs.size = s.heap.objs.size + 5 →
      (∀ c o, s.heap.get? c = some o → h'.get? c = some o) → Q (.ref (s.heap.objs.size + 4)) { s with heap := h' }) :
    wpAny (model prog w) A (call (.type "zip") [.ref l1, .ref l2] kwS) Q E s := by
  refine callType_meets_kw (Q₁ := fun obj s₁ => s₁.TypeIs obj "zip" ∧ Q obj s₁) F.called_zip (typeCall_zip_S _ _) (newCall_zip_S _ _) F.entry_zip_new F.entry_object_init (meets_zipS_new l1 l2 xs ys) ⟨hl1, hl2, ?_⟩ fun obj _ hq =>
    ⟨hq.1, args_object_init_S _ _ _, _, object_init_meets_kw F.called_zip.init.lookup F.called_zip.made (by decide), hq.1, rfl, hq.2⟩
  have z1 : (zipTH1 s.heap l1).objs.size = s.heap.objs.size + 1 := Heap.size_push ..
  have z2 : (zipTH2 s.heap l1 l2).objs.size = s.heap.objs.size + 2 := by rw [Heap.size_push, z1]
  have z3 : (zipTH3 s.heap l1 l2).objs.size = s.heap.objs.size + 3 := by rw [Heap.size_push, z2]
  have z4 : (zipTH4 s.heap l1 l2).objs.size = s.heap.objs.size + 4 := by rw [Heap.size_push, z3]
  have z5 : (zH5 s.heap l1 l2).objs.size = s.heap.objs.size + 5 := by rw [Heap.size_push, z4]
  have g5 : (zH5 s.heap l1 l2).get? (zipTH4 s.heap l1 l2).objs.size = some _ := Heap.get?_push_size _ rfl
  have g4 : (zH5 s.heap l1 l2).get? (zipTH3 s.heap l1 l2).objs.size = some _ := Heap.get?_push_of_some _ (Heap.get?_push_size _ rfl)
  have g3 : (zH5 s.heap l1 l2).get? (zipTH2 s.heap l1 l2).objs.size = some _ := Heap.get?_push_of_some _ (Heap.get?_push_of_some _ (Heap.get?_push_size _ rfl))
  have g2 : (zH5 s.heap l1 l2).get? (zipTH1 s.heap l1).objs.size = some _ := Heap.get?_push_of_some _ (Heap.get?_push_of_some _ (Heap.get?_push_of_some _ (Heap.get?_push_size _ rfl)))
  have g1 : (zH5 s.heap l1 l2).get? s.heap.objs.size = some _ := Heap.get?_push_of_some _ (Heap.get?_push_of_some _ (Heap.get?_push_of_some _ (Heap.get?_push_of_some _ (Heap.get?_push_size _ rfl))))
  show _ ∧ _
  rw [z2, z3, z4] at g5
  rw [z1, z2] at g3
  rw [z3] at g4
  rw [z1] at g2
  rw [z4]
  exact ⟨⟨_, g5, rfl⟩, h _ g5 g3 g4 ⟨_, g1, rfl, rfl⟩ ⟨_, g2, rfl, rfl⟩ z5 fun c o x =>
    Heap.get?_push_of_some _ (Heap.get?_push_of_some _ (Heap.get?_push_of_some _ (Heap.get?_push_of_some _ (Heap.get?_push_of_some _ x))))⟩
end
end ZS

namespace ZS
open PySem PySem.Spec PyProof.Rows L2
/-- the tuples at a and b, of one length, as they stand at each turn -/
def ItzS (K : PySem.W.Frag) (a b : Addr) : It :=
  ⟨fun i H => ∃ (xs ys : List V) (x y : V), SqT K H a xs ∧ SqT K H b ys ∧ xs[i]? = some x ∧ ys[i]? = some y,
    fun i H v H' => ∃ T x y, v = .ref T ∧ H T = none ∧ H' = upd H T (.tup [x, y]) ∧ (∀ xs, SqT K H a xs → xs[i]? = some x) ∧ ∀ ys, SqT K H b ys → ys[i]? = some y,
    fun i H => ∃ xs ys : List V, SqT K H a xs ∧ SqT K H b ys ∧ xs.length ≤ i ∧ ys.length ≤ i⟩
theorem turn_zipS {P : Program} {w : World} {K : PySem.W.Frag} {elts : List Expr} {kk : Nat} {tpos : Pos} {a b z TI TO i1 i2 : Addr} (D : ZipApart z TI TO i1 i2 a b) :
    Turn P w K (.Tuple elts kk tpos) (ItzS K a b) [z, TI, TO, i1, i2] z (fun i h => IsZipS h z TI TO .none ∧ IsPair h TI (.ref i1) (.ref i2) ∧ (∃ x y, IsPair h TO x y) ∧ h.IsTupleIter i1 a i ∧ h.IsTupleIter i2 b i) where
  mem := by simp
  obj := fun i h st c hc => by
    obtain ⟨hz, hTI, ⟨x, y, hTO⟩, ⟨o1, e1, _, d1⟩, ⟨o2, e2, _, d2⟩⟩ := st
    have e' : c = z ∨ c = TI ∨ c = TO ∨ c = i1 ∨ c = i2 := by simpa using hc
    rcases e' with q | q | q | q | q
    · rw [q]; exact ⟨_, hz, fun v q => nomatch q⟩
    · rw [q]; exact ⟨_, hTI, fun v q => nomatch q⟩
    · rw [q]; exact ⟨_, hTO, fun v q => nomatch q⟩
    · rw [q]; exact ⟨o1, e1, fun v q => by rw [d1] at q; cases q⟩
    · rw [q]; exact ⟨o2, e2, fun v q => by rw [d2] at q; cases q⟩
  keep := fun i h h' st k => by
    obtain ⟨hz, hTI, ⟨x, y, hTO⟩, h1, h2⟩ := st
    exact ⟨k z (by simp) _ hz, k TI (by simp) _ hTI, ⟨x, y, k TO (by simp) _ hTO⟩, h1.at fun o q => k i1 (by simp) o q, h2.at fun o q => k i2 (by simp) o q⟩
  item := by
    intro X hP hw hK hc i pins s σ H E I hf st hg
    subst hP hw hK
    obtain ⟨hz, hTI, ⟨x0, y0, hTO⟩, h1, h2⟩ := st
    obtain ⟨xs, ys, x, y, hqx, hqy, hx, hy⟩ := hg
    obtain ⟨its, rv, p, _⟩ := I.tuple hqx
    obtain ⟨its2, rv2, p2, _⟩ := I.tuple hqy
    obtain ⟨u, hu, ru⟩ := rv.get hx
    obtain ⟨u2, hu2, ru2⟩ := rv2.get hy
    have hzl : z < s.heap.objs.size := Heap.lt_size hz
    refine pyNext_item D hz hTI hTO h1 h2 p p2 (x := u) (y := u2) (by simpa using hu) (by simpa using hu2) fun h' z' TO' h1' h2' hT hsz hk => ?_
    refine ⟨_, rfl, letGo_zipS (s := { s with heap := h' }) z' fun h'' z'' sb => ?_⟩
    have hT2 : h''.get? s.heap.objs.size = some { cls := .type "tuple", data := .seq #[u, u2] } := (sb.2 _ (Nat.ne_of_gt hzl)).trans hT
    have new : ObjOk X.prog X.w (upd H s.heap.objs.size (.tup [x, y])) h'' s.heap.objs.size (.tup [x, y]) :=
      ⟨by show 2 ≤ sizeLine; decide, [u, u2], .cons ru (.cons ru2 .nil), ⟨_, hT2, rfl, _, rfl⟩⟩
    have I1 : Inv X pins σ (upd H s.heap.objs.size (.tup [x, y])) { s with heap := h'' } :=
      I.turnedNew (t' := s.toks) (ch := [z, TI, TO, i1, i2]) (fun c o hb q => (sb.2 c (fun q' => hb (by simp [q']))).trans (hk c o (fun q' => hb (by simp [q'])) (fun q' => hb (by simp [q'])) (fun q' => hb (by simp [q'])) (fun q' => hb (by simp [q'])) q)) hf (Nat.le_refl _) new
    refine ⟨.ref s.heap.objs.size, _, I1, rfl, ⟨_, x, y, rfl, I.hok.fresh (Nat.le_refl _), rfl, fun l hl => by rw [I.tuple_inj hl hqx]; exact hx, fun l hl => by rw [I.tuple_inj hl hqy]; exact hy⟩, ⟨z'', ?_, ⟨u, u2, ?_⟩, ?_, ?_⟩, fun c hcm => ?_⟩
    · exact (sb.2 _ D.TIz).trans (hk _ _ D.TIz D.TITO D.TIi1 D.TIi2 hTI)
    · exact (sb.2 _ D.TOz).trans TO'
    · exact h1'.at fun o q => (sb.2 _ D.i1z).trans q
    · exact h2'.at fun o q => (sb.2 _ D.i2z).trans q
    · have hlt : c < s.heap.objs.size := by
        have e' : c = z ∨ c = TI ∨ c = TO ∨ c = i1 ∨ c = i2 := by simpa using hcm
        rcases e' with q | q | q | q | q
        · rw [q]; exact hzl
        · rw [q]; exact Heap.lt_size hTI
        · rw [q]; exact Heap.lt_size hTO
        · rw [q]; obtain ⟨_, e1, _⟩ := h1; exact Heap.lt_size e1
        · rw [q]; obtain ⟨_, e2, _⟩ := h2; exact Heap.lt_size e2
      rw [upd_ne (Nat.ne_of_lt hlt)]
      exact (hf c hcm).1
  done := by
    intro X hP hw hK hc i pins s σ H E I hf st hg
    subst hP hw hK
    obtain ⟨hz, hTI, ⟨x0, y0, hTO⟩, h1, h2⟩ := st
    obtain ⟨xs, ys, hqx, hqy, hex, hey⟩ := hg
    obtain ⟨its, rv, p, _⟩ := I.tuple hqx
    obtain ⟨its2, rv2, p2, _⟩ := I.tuple hqy
    have l1 := rv.length
    have l2 := rv2.length
    exact pyNext_end (I.ok.hd hc) D hz hTI hTO h1 h2 p p2 (by simp; omega) (by simp; omega) fun h' hk => ⟨rfl, I.turnedL (t' := s.toks) (ch := [z, TI, TO, i1, i2]) (fun c o hb q =>
      hk c o (fun q' => hb (by simp [q'])) (fun q' => hb (by simp [q'])) (fun q' => hb (by simp [q'])) (fun q' => hb (by simp [q'])) q) hf⟩
  self := fun A i s Q E st h => pyIter_zipS st.1 h
theorem callWith_type_kw {M : Model} {A : Around} {E : Value → Shared → Prop} {s : Shared} {pos : Pos} {T : String} {first : List Value} {args : List (Bool × Sem Value)} {keywords : List (Option Str × Sem Value)} {Q : Value → Shared → Prop}
    (hplain : args.any (·.1) = false) (hkw : keywords.any (·.1.isNone) = false)
    (h : wpAny M A (evalArgs (.type T) true args keywords) (fun a s₁ => wpAny M A (call (.type T) (first ++ a.pos) a.kw) Q E s₁) E s) :
    wpAny M A (callWith pos (.type T) first args keywords) Q E s := by
  unfold callWith
  refine wpAny_bind (wpAny_holding (wpAny_mono h (fun a s₁ h₁ => wpAny_bind (wpAny_standAt ?_)) fun _ _ x => x))
  simp only [hplain, hkw, Bool.or_false]
  refine wpAny_bind (wpAny_pure ?_)
  exact wpAny_bind (wpAny_mono h₁ (fun r s₂ hr => wpAny_bind (wpAny_holding (wpAny_point (wpAny_pure hr)))) fun _ _ x => x)
def iZipS (K : PySem.W.Frag) (ta : TA) : TI := fun σ H R => ta σ H fun vs H1 => ∃ a b xs ys, vs = [.ref a, .ref b] ∧ SqT K H1 a xs ∧ SqT K H1 b ys ∧ R (ItzS K a b) H1
theorem pi_zipS {X : Cx} {e e2 : Expr} {ta : TA} {j} {p pos tpos kpos cpos : Pos} {elts : List Expr} {kk : Nat} (hg : Gl X "zip") (hm : X.mg "zip" = none) (ha : PA X [e, e2] ta)
    (hs : starEach [e, e2] X.env = (false, eval e X.env) :: starEach [e2] X.env := by rfl) (hpl : (backTo pos (starEach [e2] X.env)).any (·.1) = false := by rfl)
    (he : backTo pos (starEach [e, e2] X.env) = (false, eval e X.env) :: backTo pos (starEach [e2] X.env) := by rfl)
    (hall : (backToKw pos (keywordEach [⟨some "strict", .Constant (.bool true) j cpos, kpos⟩] X.env)).all (·.1.isSome) = true := by rfl) (hnone : (backToKw pos (keywordEach [⟨some "strict", .Constant (.bool true) j cpos, kpos⟩] X.env)).any (·.1.isNone) = false := by rfl)
    (hks : (backToKw pos (keywordEach [⟨some "strict", .Constant (.bool true) j cpos, kpos⟩] X.env)).filterMap (·.1) = [Str.ofString "strict"] := by rfl) :
    PI X (.Tuple elts kk tpos) (.Call (.Name "zip" p) [e, e2] [⟨some "strict", .Constant (.bool true) j cpos, kpos⟩] pos) (iZipS X.K ta) := by
  refine ⟨fun pins s σ H R I h => ?_⟩
  have hk : PK X [⟨some "strict", .Constant (.bool true) j cpos, kpos⟩] _ := pk_cons pe_bl pk_nil
  have hplain : (backTo pos (starEach [e, e2] X.env)).any (·.1) = false := by rw [he]; show (false || (backTo pos (starEach [e2] X.env)).any (·.1)) = false; rw [hpl]; rfl
  refine wpAny_Call_Name_kw (ld_blt I hg hm PyProof.Rows.boot_zip (callWith_type_kw hplain hnone ?_))
  rw [he]
  refine evalArgs_kwB hall ?_
  rw [← he]
  refine thn (ha.run pos pins s σ H _ I h) fun us s1 ⟨vs, H1, I1, r1, q1⟩ => thn (hk.run pos pins s1 σ H1 (fun zs H2 => zs = [V.bl true] ∧ H2 = H1) I1 ⟨rfl, rfl⟩) fun ws s2 ⟨zs, H2, I2, r2, q2⟩ => ?_
  obtain ⟨rfl, rfl⟩ := q2
  obtain ⟨w1, rfl, e1⟩ := vals1 r2
  obtain rfl : w1 = Value.bool true := e1
  rw [hks]
  obtain ⟨a, b, xs, ys, ex, hqx, hqy, q⟩ := q1
  subst ex
  cases r1 with
  | cons r rr =>
    cases rr with
    | cons r' rr =>
      cases rr
      cases r
      cases r'
      have fresh5 : ∀ c, c ∈ [s2.heap.objs.size + 4, s2.heap.objs.size + 2, s2.heap.objs.size + 3, s2.heap.objs.size, s2.heap.objs.size + 1] → FpOk X pins H2 c := fun c hcm => by
        have e' : c = s2.heap.objs.size + 4 ∨ c = s2.heap.objs.size + 2 ∨ c = s2.heap.objs.size + 3 ∨ c = s2.heap.objs.size ∨ c = s2.heap.objs.size + 1 := by simpa using hcm
        have hle : s2.heap.objs.size ≤ c := by
          rcases e' with z | z | z | z | z
          · rw [z]; exact Nat.le_add_right _ _
          · rw [z]; exact Nat.le_add_right _ _
          · rw [z]; exact Nat.le_add_right _ _
          · rw [z]; exact Nat.le_refl _
          · rw [z]; exact Nat.le_add_right _ _
        exact I2.fpOk hle (I2.hok.fresh hle)
      obtain ⟨its, rv, p1, _⟩ := I2.tuple hqx
      obtain ⟨its2, rv2, p2, _⟩ := I2.tuple hqy
      obtain ⟨o1, ho1, _⟩ := id p1
      obtain ⟨o2, ho2, _⟩ := id p2
      refine call_zipS (show s2.heap.IsTuple a its.toArray from p1) (show s2.heap.IsTuple b its2.toArray from p2) fun h' hz hTI hTO h1 h2 hsz hk => pyIter_zipS hz ?_
      have I3 : Inv X pins σ H2 { s2 with heap := h' } := I2.kept (t' := s2.toks) hk
      exact ⟨s2.heap.objs.size + 4, [s2.heap.objs.size + 4, s2.heap.objs.size + 2, s2.heap.objs.size + 3, s2.heap.objs.size, s2.heap.objs.size + 1], _, _, H2, rfl, I3, turn_zipS (PySem.W.ktu_apart s2.heap.objs.size a b (Heap.lt_size ho1) (Heap.lt_size ho2)), ⟨hz, hTI, ⟨_, _, hTO⟩, h1, h2⟩, fresh5, q⟩
end ZS
namespace DD
open PySem PySem.Spec L2
open PyProof.Rows hiding St
variable [LamN]
def zipS (a c : A) : Option (List D) := match tupD a.frz, tupD c.frz with
  | some l, some k => if l.length = k.length then some (zipD l k) else none
  | _, _ => none
def dZipS (f g : M A) : M (List D) := f.bind fun a => g.bind fun c => ofO (zipS a c)
section
variable {C : SC} {X : Cx} {e e2 : Expr} {f g : M A} {pos p tpos kpos cpos : Pos} {elts : List Expr} {kk : Nat}
theorem isIt_zipS {a c : Addr} {l k : List D} (hl : l.length = k.length) : IsIt C (ZS.ItzS C.K a c) [.ref c, .ref a] [.v (.tup k), .v (.tup l)] (zipD l k) := by
  intro b Z H σ ρ vs as S
  have t := Sta.top2 S
  have t2 := Sta.top S
  cases t with
  | @tup _ xs _ h1 r =>
    cases t2 with
    | @tup _ ys _ h2 r2 =>
      have hs := sameT S.zh h1
      have hs2 := sameT S.zh h2
      refine ⟨fun i d hi => ?_, xs, ys, hs, hs2, ?_, ?_⟩
      · obtain ⟨u, w, hu, hw, rfl⟩ := zipD_get hi
        obtain ⟨x, hx, rx⟩ := r.get hu
        obtain ⟨y, hy, ry⟩ := r2.get hw
        refine ⟨⟨xs, ys, x, y, hs, hs2, hx, hy⟩, fun z H' ⟨T, x', y', e1, hT, e2, f1, f2⟩ => ?_⟩
        subst e1 e2
        have q1 := f1 xs hs
        have q2 := f2 ys hs2
        rw [hx] at q1
        rw [hy] at q2
        cases q1
        cases q2
        exact ⟨_, S.newF (o := .tup [x, y]) hT (.tup (SqT.of upd_same) (RepDs.mono (same_upd (S.zh.free hT)) _ _ (.cons rx (.cons ry .nil))))⟩
      · rw [zipD_len, r.length]
        omega
      · rw [zipD_len, r2.length]
        omega
theorem di_zipS {j} (hK : X.K = C.K) (hg : Gl X "zip") (hm : X.mg "zip" = none) (ha : PE X e (tE C f)) (hb : PE X e2 (tE C g)) (hs : starEach [e, e2] X.env = (false, eval e X.env) :: starEach [e2] X.env := by rfl) (hpl : (backTo pos (starEach [e2] X.env)).any (·.1) = false := by rfl)
    (ht2 : starEach (e2 :: []) X.env = (false, eval e2 X.env) :: starEach [] X.env := by rfl) (he : backTo pos (starEach [e, e2] X.env) = (false, eval e X.env) :: backTo pos (starEach [e2] X.env) := by rfl)
    (hall : (backToKw pos (keywordEach [⟨some "strict", .Constant (.bool true) j cpos, kpos⟩] X.env)).all (·.1.isSome) = true := by rfl) (hnone : (backToKw pos (keywordEach [⟨some "strict", .Constant (.bool true) j cpos, kpos⟩] X.env)).any (·.1.isNone) = false := by rfl)
    (hks : (backToKw pos (keywordEach [⟨some "strict", .Constant (.bool true) j cpos, kpos⟩] X.env)).filterMap (·.1) = [Str.ofString "strict"] := by rfl) :
    PI X (.Tuple elts kk tpos) (.Call (.Name "zip" p) [e, e2] [⟨some "strict", .Constant (.bool true) j cpos, kpos⟩] pos) (tI C (dZipS f g)) := by
  refine PI.w (ZS.pi_zipS hg hm (pa_cons ha (pa_cons hb pa_nil ht2) hs) hs hpl he hall hnone hks) fun σ H R k => ?_
  refine (Go.bindE k).mono fun x H1 ⟨a, k1⟩ => (Go.bindE k1).mono fun y H2 ⟨c, k2⟩ => ?_
  obtain ⟨ds, e1, b, Z, ρ, vs, as, hb, _, S, k3⟩ := go_ofO k2
  rw [hK]
  obtain ⟨Z', S'⟩ := Sta.freeze2 (vs := vs) (as := as) S
  have t := Sta.top2 S'
  have t2 := Sta.top S'
  unfold zipS at e1
  split at e1
  · rename_i l k h1 h2
    split at e1
    · rename_i hl
      cases e1
      generalize a.frz = d at h1 t S'
      generalize c.frz = d2 at h2 t2 S'
      cases t with
      | @tup q xs l' h3 r =>
        cases h1
        cases t2 with
        | @tup q2 ys k' h4 r2 =>
          cases h2
          exact ⟨q, q2, xs, ys, rfl, sameT S'.zh h3, sameT S'.zh h4, k3 _ _ [.ref q2, .ref q] [.v (.tup _), .v (.tup _)] _ rfl S' (isIt_zipS hl)⟩
        | _ => cases h2
      | _ => cases h1
    · cases e1
  · cases e1
end
section
variable {ρ : DEnv} {E : Ex → DEnv → Prop} {f g : M A} {QD : List D → DEnv → Prop}
theorem w_zipS (k : Wp (f ρ) (fun a ρ1 => Wp (g ρ1) (fun c ρ2 => Wo (zipS a c) fun ds => QD ds ρ2) E) E) : Wp (dZipS f g ρ) QD E := wp_bind (wp_mono k (fun _ _ k => wp_bind (wp_mono k (fun _ _ k => wp_ofO k) fun _ _ z => z)) fun _ _ z => z)
theorem wo_zipS {l k : List D} {P : List D → Prop} (h : l.length = k.length) (q : P (zipD l k)) : Wo (zipS (.v (.tup l)) (.v (.tup k))) P := wo_eq (if_pos h) q
end
/-- a statement that is not reached -/
def dBad : M Flow := fun _ => .bad
theorem ds_bad0 {X : Cx} {C : SC} {st : Stmt} : PS X st (tS C dBad) := ⟨fun _ _ _ _ _ _ ⟨_, _, _, _, _, _, _, _, k⟩ => k.elim⟩
end DD

namespace DD
open PySem PySem.Spec L2
open PyProof.Rows hiding St
variable [LamN]
structure NumX (g : Int) (R : Type) [Lean.Grind.CommRing R] extends Num g R where
  inj : ∀ r s, dN (p r) (q r) = dN (p s) (q s) → r = s
  S : Nat → Nat → R → Prop
  SB : ∀ {L n k : Nat} {r : R}, 0 < L → S L n r → Bd k (L : Int) → n ≤ k → 4 ≤ k → Bd k (p r) ∧ Bd k (q r)
  Sadd : ∀ {L n m : Nat} {r s : R}, S L n r → S L m s → S L (max n m + 1) (r + s)
  Smul : ∀ {L K n m : Nat} {r s : R}, S L n r → S K m s → S (L * K) (n + m) (r * s)
  Szero : ∀ L n : Nat, S L n 0
  Sone : ∀ {L n : Nat}, Bd n (L : Int) → S L n 1
  Sex : ∀ {L n : Nat} {u d : Int} {r : R}, canon g u d = dN (p r) (q r) → 0 < d → d.toNat ∣ L → 0 < L → Bd n (u * (L / d.toNat : Nat)) → S L n r
section
variable {g : Int} {R : Type} [Lean.Grind.CommRing R] (N : NumX g R)
abbrev NumX.nm (r : R) : D := N.toNum.nm r
abbrev NumX.B (n : Nat) (r : R) : Prop := N.toNum.B n r
variable {N} {L n m k : Nat} {r s : R}
theorem NumX.S_B (hL : 0 < L) (h : N.S L n r) (hk : Bd k (L : Int)) (hn : n ≤ k) (h4 : 4 ≤ k) : N.B k r := let ⟨a, b⟩ := N.SB hL h hk hn h4; ⟨a, b⟩
theorem NumX.nm_inj (h : N.nm r = N.nm s) : r = s := N.inj r s h
end
/-- over 0 -/
def S0 (L n : Nat) (r : Rat) : Prop := ∃ m : Int, Bd n m ∧ r * (L : Rat) = (m : Rat)
theorem ratL {L : Nat} (hL : 0 < L) : (L : Rat) ≠ 0 := fun h => by
  have := congrArg Rat.num h
  have e : ((L : Rat)).num = (L : Int) := Rat.num_natCast L
  rw [e] at this
  have : (L : Int) = 0 := this
  omega
theorem S0.mk {L n : Nat} {r : Rat} (hL : 0 < L) (h : S0 L n r) : ∃ m : Int, Bd n m ∧ mkRat m L = r := by
  obtain ⟨m, hm, e⟩ := h
  refine ⟨m, hm, ?_⟩
  have hL' := ratL hL
  rw [Rat.mkRat_eq_div, ← e, Rat.div_def, Rat.mul_assoc, Rat.mul_inv_cancel _ hL', Rat.mul_one]
theorem S0.SB {L n k : Nat} {r : Rat} (hL : 0 < L) (h : S0 L n r) (hk : Bd k (L : Int)) (hn : n ≤ k) (h4 : 4 ≤ k) : Bd k r.num ∧ Bd k (r.den : Int) := by
  obtain ⟨m, hm, rfl⟩ := h.mk hL
  obtain ⟨x, y, e, h1, h2⟩ := canon_bd (g := 0) (u := m) (d := L) h4 (by decide) (hm.mono hn) hk
  have := (canon_nat (u := m) (d := L) (by omega)).symm.trans e
  obtain ⟨e1, e2⟩ := dN_inj this
  exact ⟨e1 ▸ h1, e2 ▸ h2⟩
theorem S0.ex {L n : Nat} {u d : Int} {r : Rat} (h : canon 0 u d = dN r.num r.den) (hd : 0 < d) (hdiv : d.toNat ∣ L) (hL : 0 < L) (hu : Bd n (u * (L / d.toNat : Nat))) : S0 L n r := by
  refine ⟨_, hu, ?_⟩
  have e := (rat_canon (u := u) hd).symm.trans h
  obtain ⟨e1, e2⟩ := dN_inj e
  have er : mkRat u d.toNat = r := Rat.ext e1 (by exact_mod_cast e2)
  obtain ⟨c, hc⟩ := hdiv
  have hd0 : 0 < d.toNat := by omega
  have hc0 : L / d.toNat = c := by rw [hc, Nat.mul_div_cancel_left _ hd0]
  have hdr := ratL hd0
  rw [hc0, ← er, Rat.mkRat_eq_div, hc, Rat.natCast_mul, Rat.intCast_mul]
  generalize ((d.toNat : Nat) : Rat) = D at hdr
  have : ((c : Int) : Rat) = (c : Rat) := rfl
  rw [this]
  grind
def numX0 : NumX 0 Rat where
  toNum := num0
  inj r s h := by
    obtain ⟨e1, e2⟩ := dN_inj h
    have e2 : (r.den : Int) = s.den := e2
    exact Rat.ext e1 (by exact_mod_cast e2)
  S := S0
  SB := S0.SB
  Sadd := by
    rintro L n m r s ⟨a, ha, e1⟩ ⟨b, hb, e2⟩
    exact ⟨a + b, ha.addx hb, by rw [Rat.intCast_add]; grind⟩
  Smul := by
    rintro L K n m r s ⟨a, ha, e1⟩ ⟨b, hb, e2⟩
    exact ⟨a * b, ha.mul hb, by rw [Rat.intCast_mul, Rat.natCast_mul]; grind⟩
  Szero L n := ⟨0, Bd.zero, by grind⟩
  Sone := fun {L n} h => ⟨L, h, by rw [Rat.one_mul]; rfl⟩
  Sex := fun h h1 h2 h3 h4 => S0.ex h h1 h2 h3 h4
/-- over g -/
theorem fin_canon {g : Int} {u : Int} (hg : 2 ≤ g) : canon g u 1 = dN (u.fmod g) 1 := by unfold canon; rw [if_pos (by omega)]
def numXF (n : Nat) [NeZero n] (hn : 2 ≤ n) (h13 : n ≤ 13) : NumX (n : Int) (_root_.Fin n) where
  p r := (r.val : Int)
  q _ := 1
  okp r s := by unfold okd; rw [if_pos (by omega)]; rfl
  ok1 r := by unfold okd; rw [if_pos (by omega)]
  add r s := by
    rw [Int.mul_one, Int.mul_one, Int.mul_one, fin_canon (by omega), Fin.val_add, Int.fmod_eq_emod_of_nonneg _ (by omega), Int.natCast_emod, Int.natCast_add]
  mul r s := by
    rw [Int.mul_one, fin_canon (by omega), Fin.val_mul, Int.fmod_eq_emod_of_nonneg _ (by omega), Int.natCast_emod, Int.natCast_mul]
  neg r := by
    rw [fin_canon (by omega), Fin.neg_def, Int.fmod_eq_emod_of_nonneg _ (by omega)]
    have hr := r.isLt
    show dN _ _ = dN (((n - r.val) % n : Nat) : Int) 1
    rw [Int.natCast_emod, Int.natCast_sub (by omega)]
    have : (0 - (r.val : Int)) % (n : Int) = ((n : Int) - (r.val : Int)) % (n : Int) := by
      rw [Int.sub_eq_add_neg (a := (n : Int)), Int.add_comm (n : Int), Int.add_emod_right, Int.zero_sub]
    rw [this]
  zero := rfl
  one := by
    show dN (((1 % n : Nat) : Int)) 1 = _
    rw [Nat.mod_eq_of_lt (by omega)]
    rfl
  mone := by
    rw [fin_canon (by omega), Fin.neg_def, Int.fmod_eq_emod_of_nonneg _ (by omega)]
    show dN _ _ = dN (((n - (1 % n)) % n : Nat) : Int) 1
    rw [Nat.mod_eq_of_lt (show 1 < n by omega), Int.natCast_emod, Int.natCast_sub (by omega)]
    have : (-1 : Int) % (n : Int) = ((n : Int) - ((1 : Nat) : Int)) % (n : Int) := by
      rw [Int.sub_eq_add_neg (a := (n : Int)), Int.add_comm (n : Int), Int.add_emod_right]
      rfl
    rw [this]
  ex u d _ h := by
    unfold okd at h
    rw [if_pos (by omega)] at h
    subst h
    rw [fin_canon (by omega)]
    have hr := fmod_range (i := u) (j := (n : Int)) (by omega)
    refine ⟨⟨(u.fmod n).toNat, by omega⟩, ?_⟩
    show dN _ _ = dN (((u.fmod n).toNat : Nat) : Int) 1
    rw [Int.toNat_of_nonneg hr.1]
  good r := by
    unfold numB dN
    have := r.isLt
    dsimp only
    rw [if_pos (by omega), decide_eq_true (by omega), decide_eq_true (by omega)]
    rfl
  inj r s h := by
    obtain ⟨e1, _⟩ := dN_inj h
    exact Fin.ext (by exact_mod_cast e1)
  S _ _ _ := True
  SB := fun {L m k r} _ h _ _ h4 => by
    have := r.isLt
    refine ⟨Bd.mono (n := 4) ?_ h4, Bd.one (by omega)⟩
    unfold Bd
    have e : (2:Nat) ^ 4 = 16 := by decide
    rw [Int.natAbs_natCast]
    omega
  Sadd := fun _ _ => trivial
  Smul := fun _ _ => trivial
  Szero _ _ := trivial
  Sone := fun _ => trivial
  Sex := fun _ _ _ _ _ => trivial
end DD

namespace DD
open PySem PySem.Spec L2
open PyProof.Rows hiding St
variable [LamN]
theorem w_compMap {α : Type} {sl : List Nat} {gg : D → M Unit} {elt : M A} {E : Ex → DEnv → Prop} (f : α → D) (h : α → A) {ρ0 : DEnv} : ∀ {xs : List α} {ds : List D} {QL : List A → DEnv → Prop}, ds = xs.map f →
    (∀ x ∈ xs, Wp (gg (f x) ρ0) (fun _ ρ1 => Wp (elt ρ1) (fun a ρ3 => a = h x ∧ wipeE ρ3 sl = ρ0) E) E) → QL (xs.map h) ρ0 → Wp (compL sl gg (M.pure true) elt ds ρ0) QL E
  | [], _, QL, rfl, _, k => w_compnil k
  | x :: xs, _, QL, rfl, st, k => by
    refine w_compcons (wp_mono (st x (by simp)) (fun _ ρ1 k1 => wp_pure (wk_t (wp_mono k1 (fun a ρ3 ⟨e1, e2⟩ => ?_) fun _ _ z => z))) fun _ _ z => z)
    subst e1
    rw [e2]
    exact w_compMap f h (xs := xs) (QL := fun l ρ4 => QL (h x :: l) ρ4) rfl (fun y hy => st y (List.mem_cons_of_mem _ hy)) k
mutual
def Pl (n : Nat) : D → Prop
  | .int i => Bd n i
  | .tup l => Pls n l
  | .lst l => Pls n l
  | .fz l => Pls n l
  | .ins _ _ _ => False
  | _ => True
def Pls (n : Nat) : List D → Prop
  | [] => True
  | d :: l => Pl n d ∧ Pls n l
end
theorem pls_iff {n : Nat} : ∀ {l : List D}, Pls n l ↔ ∀ d ∈ l, Pl n d
  | [] => by simp [Pls]
  | d :: l => by simp [Pls, pls_iff (l := l)]
theorem Pl.kind {n : Nat} {d : D} (h : Pl n d) : kindD d ≠ "" := by
  cases d with
  | ins _ _ _ => exact absurd h (by simp [Pl])
  | _ => simp [kindD]
theorem pl_tup {n : Nat} {l : List D} : Pl n (.tup l) ↔ ∀ d ∈ l, Pl n d := by rw [← pls_iff]; simp [Pl]
theorem pl_int {n : Nat} {i : Int} : Pl n (.int i) ↔ Bd n i := by simp [Pl]
mutual
theorem Pl.mono {n m : Nat} (k : n ≤ m) : ∀ (d : D), Pl n d → Pl m d
  | .int i, h => by simp only [Pl] at h ⊢; exact h.mono k
  | .tup l, h => by simp only [Pl] at h ⊢; exact Pls.mono k l h
  | .lst l, h => by simp only [Pl] at h ⊢; exact Pls.mono k l h
  | .fz l, h => by simp only [Pl] at h ⊢; exact Pls.mono k l h
  | .ins _ _ _, h => by simp [Pl] at h
  | .non, _ => by simp [Pl]
  | .bl _, _ => by simp [Pl]
  | .str _, _ => by simp [Pl]
theorem Pls.mono {n m : Nat} (k : n ≤ m) : ∀ (l : List D), Pls n l → Pls m l
  | [], _ => by simp [Pls]
  | d :: l, h => by simp only [Pls] at h ⊢; exact ⟨Pl.mono k d h.1, Pls.mono k l h.2⟩
end
theorem bls_map {α : Type} {F : α → Bool} : ∀ l : List α, bls (l.map fun d => .bl (F d)) = some (l.map F)
  | [] => rfl
  | d :: l => by simp [bls, bls_map l]
theorem all_map {α : Type} {F : α → Bool} {l : List α} : opAll [.m (l.map fun d => A.v (.bl (F d)))] = some (.v (.bl (l.all F))) := by
  have e : (A.m (l.map fun d => A.v (.bl (F d)))).frz = .lst (l.map fun d => .bl (F d)) := by
    show D.lst (frzs _) = _
    rw [frzs_eq, List.map_map]
    rfl
  unfold opAll opBs
  dsimp only
  rw [e]
  unfold lstD
  rw [Option.bind_some, bls_map, Option.map_some]
  congr 3
  rw [List.all_map]
  rfl
def rowB (g m : Int) (d : D) : Bool := match d with
  | .tup l => decide ((l.length : Int) = m) && l.all (numB g)
  | _ => false
def tabB (g h m : Int) (d : D) : Bool := match d with
  | .tup l => decide ((l.length : Int) = h) && l.all (rowB g m)
  | _ => false
section
variable {g : Int} {R : Type} [Lean.Grind.CommRing R] (N : NumX g R)
def rwD (l : List R) : D := .tup (l.map N.nm)
def tbD (t : List (List R)) : D := .tup (t.map (rwD N))
variable {N}
theorem rowB_rw {l : List R} {m : Int} : rowB g m (rwD N l) = decide ((l.length : Int) = m) := by
  unfold rowB rwD
  dsimp only
  have e : l.all (numB g ∘ N.nm) = true := List.all_eq_true.mpr fun r _ => N.good r
  rw [List.length_map, List.all_map, e, Bool.and_true]
theorem okc_nmX {r : R} : okc 1 (N.nm r) = true := okc_tup fun d hd => by simp at hd; rcases hd with rfl | rfl <;> exact okc_int
theorem okc_rw {l : List R} : okc 2 (rwD N l) = true := okc_tup fun d hd => by
  obtain ⟨r, _, rfl⟩ := List.mem_map.mp hd
  exact okc_nmX
theorem okc_tb {t : List (List R)} : okc 3 (tbD N t) = true := okc_tup fun d hd => by
  obtain ⟨r, _, rfl⟩ := List.mem_map.mp hd
  exact okc_rw
end
end DD

namespace DD
open PySem PySem.Spec L2
open PyProof.Rows hiding St
variable [LamN]
section
variable {R : Type} [Lean.Grind.CommRing R]
def thrF (acc : List R) (p : R × List R) : List R := List.zipWith (· + ·) acc (p.2.map (· * p.1))
def thr (m : Nat) (x : List R) (t : List (List R)) : List R := (x.zip t).foldl thrF (List.replicate m 0)
def trn (m : Nat) (t : List (List R)) : List (List R) := (List.range m).map fun k => t.map fun l => l.getD k 0
def cel (x : List R) (t : List (List R)) (j : Nat) : R := ((List.range t.length).map fun k => x.getD k 0 * (t.getD k []).getD j 0).foldl (· + ·) 0
theorem thrF_len {m : Nat} {acc : List R} {p : R × List R} (h : acc.length = m) (hp : p.2.length = m) : (thrF acc p).length = m := by
  unfold thrF
  rw [List.length_zipWith, List.length_map, h, hp, Nat.min_self]
theorem getD_at {α : Type} {l : List α} {i : Nat} {d : α} (h : i < l.length) : l.getD i d = l[i] := by simp [List.getD_eq_getElem?_getD, h]
theorem thrF_zero {m : Nat} {acc : List R} {p : R × List R} (h : acc.length = m) (hp : p.2.length = m) (h0 : p.1 = 0) : thrF acc p = acc := by
  obtain ⟨a, b⟩ := p
  dsimp only at h0 hp
  subst h0
  unfold thrF
  refine List.ext_getElem (by rw [List.length_zipWith, List.length_map, h, hp, Nat.min_self]) fun i h1 h2 => ?_
  rw [List.getElem_zipWith, List.getElem_map]
  grind
theorem thrF_get {m j : Nat} {acc : List R} {p : R × List R} (h : acc.length = m) (hp : p.2.length = m) (hj : j < m) : (thrF acc p).getD j 0 = acc.getD j 0 + p.2.getD j 0 * p.1 := by
  have h1 : j < acc.length := by omega
  have h2 : j < p.2.length := by omega
  have h3 : j < (thrF acc p).length := by rw [thrF_len h hp]; exact hj
  rw [getD_at h3, getD_at h1, getD_at h2]
  exact (List.getElem_zipWith (f := (· + ·)) (l := acc) (l' := p.2.map (· * p.1)) (h := h3)).trans (by rw [List.getElem_map])
theorem fold_get {m j : Nat} (hj : j < m) : ∀ {ps : List (R × List R)} {acc : List R}, acc.length = m → (∀ p ∈ ps, p.2.length = m) → (ps.foldl thrF acc).length = m ∧ (ps.foldl thrF acc).getD j 0 = ps.foldl (fun s p => s + p.2.getD j 0 * p.1) (acc.getD j 0)
  | [], acc, h, _ => ⟨h, rfl⟩
  | p :: ps, acc, h, hp => by
    have h1 := hp p (by simp)
    obtain ⟨a, b⟩ := fold_get hj (ps := ps) (acc := thrF acc p) (thrF_len h h1) fun q hq => hp q (List.mem_cons_of_mem _ hq)
    refine ⟨a, ?_⟩
    rw [List.foldl_cons, b, thrF_get h h1 hj]
    rfl
theorem thr_len {m : Nat} {x : List R} {t : List (List R)} (ht : ∀ l ∈ t, l.length = m) : (thr m x t).length = m := by
  unfold thr
  have : ∀ {ps : List (R × List R)} {acc : List R}, acc.length = m → (∀ p ∈ ps, p.2.length = m) → (ps.foldl thrF acc).length = m := by
    intro ps
    induction ps with
    | nil => intro acc h _; exact h
    | cons p ps ih => intro acc h hp; exact ih (thrF_len h (hp p (by simp))) fun q hq => hp q (List.mem_cons_of_mem _ hq)
  exact this (by simp) fun p hp => ht _ (List.of_mem_zip hp).2
theorem thr_cel {m : Nat} {x : List R} {t : List (List R)} (hx : x.length = t.length) (ht : ∀ l ∈ t, l.length = m) : thr m x t = (List.range m).map (cel x t) := by
  refine List.ext_getElem (by rw [thr_len ht]; simp) fun j h1 h2 => ?_
  have hj : j < m := by simpa using h2
  rw [List.getElem_map, List.getElem_range]
  obtain ⟨a, b⟩ := fold_get hj (ps := x.zip t) (acc := List.replicate m 0) (by simp) fun p hp => ht _ (List.of_mem_zip hp).2
  have e1 : (thr m x t)[j] = (thr m x t).getD j 0 := (getD_at h1).symm
  rw [e1]
  unfold thr
  rw [b]
  unfold cel
  have e2 : ((List.range t.length).map fun k => x.getD k 0 * (t.getD k []).getD j 0) = (x.zip t).map fun p => p.1 * p.2.getD j 0 := by
    refine List.ext_getElem (by simp [hx]) fun k g1 g2 => ?_
    have hk : k < t.length := by simpa using g1
    rw [List.getElem_map, List.getElem_map, List.getElem_range, List.getElem_zip, getD_at hk, getD_at (by omega : k < x.length)]
  rw [e2, List.foldl_map]
  have e3 : (List.replicate m (0 : R)).getD j 0 = 0 := by rw [getD_at (by simpa using hj), List.getElem_replicate]
  rw [e3]
  congr 1
  funext s p
  grind
end
theorem eqv_dN {a b c d : Int} : PyData.eqv (dN a b).py (dN c d).py = (decide (a = c) && decide (b = d)) := by
  simp [dN, D.py, pys, PyData.eqv, PyData.eqvAll]
  by_cases h1 : a = c <;> by_cases h2 : b = d <;> simp [h1, h2]
section
variable {g : Int} {R : Type} [Lean.Grind.CommRing R] {N : NumX g R}
theorem NumX.smono {L n m : Nat} {r : R} (h : N.S L n r) (k : n < m) : N.S L m r := by
  have := N.Sadd h (N.Szero L (m - 1))
  have e : r + 0 = r := by grind
  rw [e] at this
  have e2 : max n (m - 1) + 1 = m := by omega
  rwa [e2] at this
/-- a number other than nought -/
theorem wo_neZ {r : R} {P : A → Prop} (q : ∀ b : Bool, (b = true → r ≠ 0) → (b = false → r = 0) → P (.v (.bl b))) : Wo (opNe (.v (N.nm r)) (.v (.tup [.int 0, .int 1]))) P := by
  refine wo_neD (k := 1) (j := 1) okc_nmX (by simp [okc, okcs, A.frz]) (by decide) (by decide) (q _ (fun h e => ?_) fun h => ?_)
  · subst e
    have e2 : (A.v (N.nm 0)).frz.py = (A.v (.tup [.int 0, .int 1])).frz.py := congrArg D.py N.zero
    rw [e2, eqv_self (k := 1) (by simp [okc, okcs, A.frz])] at h
    cases h
  · have e2 : PyData.eqv (dN (N.p r) (N.q r)).py (dN 0 1).py = true := by
      have : (!PyData.eqv (dN (N.p r) (N.q r)).py (dN 0 1).py) = false := h
      simpa using this
    rw [eqv_dN] at e2
    simp at e2
    refine NumX.nm_inj (N := N) ?_
    show dN (N.p r) (N.q r) = dN (N.p 0) (N.q 0)
    rw [N.zero, e2.1, e2.2]
end
end DD

namespace DD
open PySem PySem.Spec L2
open PyProof.Rows hiding St
variable [LamN]

theorem takesF {X : Cx} : L2N.Takes X fun _ _ _ _ => False := fun _ _ ⟨_, _, _, _, _, _, _, _, _, _, _, _, _, _, _, _, z⟩ => z.elim
section
variable {P : Program} {w : World} {K : PySem.W.Frag} {mg : Str → Option Value} {base : Heap}
/-- a def that may raise, to be called by its name -/
structure CalX (P : Program) (w : World) (K : PySem.W.Frag) (mg : Str → Option Value) (base : Heap) (k : Nat) (x : Str) (F : Fn) (ds : List D) : Prop where
  ex : ∃ (f : Addr) (fd : FuncData) (ps : List Str) (us : List Value) (ys : List V), FnOk P w K mg base (L2N.CX P w) k f fd ps (fun vs H Q E => spD K mg F vs H Q E) ∧ mg x = some (.ref f) ∧ PySem.W.keepIn K (.ref f) = true ∧ Binds K fd ps us ∧ Vals ys us ∧
    ∀ Z, RepDs K mg Z ys ds
theorem CalX.mono {j k : Nat} {x : Str} {F : Fn} {ds : List D} (c : CalX P w K mg base j x F ds) (h : j ≤ k) : CalX P w K mg base k x F ds :=
  let ⟨f, fd, ps, us, ys, G, r⟩ := c.ex
  ⟨f, fd, ps, us, ys, G.mono h, r⟩
/-- a def's answers, its exceptions left out -/
def noX (F : Fn) : Fn := fun as => match F as with
  | .exc _ _ => .bad
  | r => r
theorem noX_sp {F : Fn} {vs : List V} {H : Hp} {Q : VK} {E : XK} (h : spD K mg (noX F) vs H Q E) : spD K mg F vs H Q fun _ _ _ => False := by
  obtain ⟨Z, as, fs, h1, h2, h3, h4, h5⟩ := h
  refine ⟨Z, as, fs, h1, h2, h3, h4, ?_⟩
  revert h5
  unfold noX
  cases F as with
  | ok r l => exact id
  | exc e l => exact fun z => z.elim
  | bad => exact id
end
section
variable {X : Cx} {C : SC} {fs : M (List AV)} {x : Str} {p pos : Pos} {e : Expr} {es : List Expr}
/-- a call of a def that does not raise, wherever -/
theorem de_callN {F : Fn} {ds : List D} {k : Nat} (c : CalD X.prog X.w X.K X.mg X.base k x F ds) (hr : Room k X.A) (hg : Gl X x) (hK : X.K = C.K) (hM : X.mg = C.mg) (ha : PA X (e :: es) (tV C fs)) (hdb : (x == ("__debug__" : Str)) = false := by decide)
    (he : starEach (e :: es) X.env = (false, eval e X.env) :: starEach es X.env := by rfl) (hpl : (backTo pos (starEach es X.env)).any (·.1) = false := by rfl) : PE X (.Call (.Name x p) (e :: es) [] pos) (tE C (dCall (noX F) fs ds)) := by
  obtain ⟨f, fd, ps, us, ys, F', h1, h2, h3, h4, h5⟩ := c.ex
  refine PE.w (pe_call (E := fun _ _ _ => False) F' hr hg h1 h2 h3 h4 pass0 ha hdb he hpl) fun σ H Q q => ?_
  refine (Go.bindV q).mono fun ws H1 ⟨l, pv, qa, r, q1⟩ => ?_
  rw [hK, hM] at h5
  show spD X.K X.mg F (ws ++ ys) H1 Q fun _ _ _ => False
  rw [hK, hM]
  exact noX_sp (E := fun cls d H' => C.W cls d σ H') (go_call h5 r (fun _ _ _ z => z) (fun _ _ _ z => z) (by simpa using q1))
end
theorem wc_noX {F : Fn} {as : List A} {QC : A → List A → Prop} {EC : Ex → List A → Prop} (h : Wc (F as) QC fun _ _ => False) : Wc (noX F as) QC EC := by
  obtain ⟨a, l, e, q⟩ := ex_wc h
  unfold noX
  rw [e]
  exact Wc.ok q
end DD

namespace DD
open PySem PySem.Spec L2
open PyProof.Rows hiding St

abbrev Wish := Ends → WX
/-- a suite's wish behind a clause with a name: slot i is empty then -/
def Ends.out (D : Ends) (i : Nat) : Ends where
  nx := fun τ G => D.nx (τ.set i none) G
  rt := D.rt
  bk := fun τ G => D.bk (τ.set i none) G
  ct := fun τ G => D.ct (τ.set i none) G
abbrev SuiteT := Addr → Value → Option Addr → TS
def hitW (K : PySem.W.Frag) (n : Nat) (c : Value) (go : Ends → Addr → WX) (w : Wish) : Wish := fun D cls d τ G =>
  ∃ hit, PySem.W.exmOne K cls c = some hit ∧ (if hit = true then ∀ a, G a = none → τ.length = n → go D a cls d τ G else w D cls d τ G)
inductive Hds (X : Cx) : List ExceptHandler → Wish → Prop
  | nil : Hds X [] fun _ _ _ _ _ => False
  | only {x : Str} {c : Value} {ts : SuiteT} {st : Stmt} {sts : List Stmt} {q1 q2 : Pos} {more : List ExceptHandler} {w : Wish} : Names X x c →
      (∀ (a : Addr) (o : Obj) (cls : Value) (d : Option Addr) (l : List (Addr × Obj)), L2N.Zn cls d o → (∃ vs, o.data = .fields vs) → PSs (X.suite a ((a, o) :: l)) (st :: sts) (ts a cls d)) →
      Hds X more w → Hds X (.ExceptHandler (some (.Name x q1)) none (st :: sts) q2 :: more) (hitW X.K X.N.length c (fun D a cls d τ G => ts a cls d D τ G) w)
  | named {x n : Str} {c : Value} {i : Nat} {ts : SuiteT} {st : Stmt} {sts : List Stmt} {q1 q2 : Pos} {more : List ExceptHandler} {w : Wish} : X.N[i]? = some n → X.env.kindOf n = some .local → Names X x c →
      (∀ (a : Addr) (o : Obj) (cls : Value) (d : Option Addr) (l : List (Addr × Obj)), L2N.Zn cls d o → (∃ vs, o.data = .fields vs) → PSs (X.suite a ((a, o) :: l)) (st :: sts) (ts a cls d)) →
      Hds X more w → Hds X (.ExceptHandler (some (.Name x q1)) (some n) (st :: sts) q2 :: more) (hitW X.K X.N.length c (fun D a cls d τ G => ts a cls d (Ends.out D i) (τ.set i (some (.ref a))) G) w)

section
variable {X : Cx} {pins : List (Addr × Obj)} {τ : St} {G : Hp}
/-- an exception that has landed in X: t0 is the state without it, t1 the state now -/
structure Landed (X : Cx) (pins : List (Addr × Obj)) (τ : St) (G : Hp) (a : Addr) (cls : Value) (d : Option Addr) (B : Heap) (t0 t1 : Shared) : Prop where
  inv : Inv X pins τ G t0
  below : ∀ q o, t0.heap.get? q = some o → q ∉ frs X.stack → B.get? q = some o
  up : t0.heap.UpToSlots t1.heap
  air : HandSPX.FlyingZ B (X.env :: X.outer) a (L2N.Zn cls d) t1.heap
  new : G a = none
  os : t1.os = t0.os
  gens : AllBare t1.gens
theorem Landed.now {a : Addr} {cls : Value} {d : Option Addr} {B : Heap} {t0 t1 : Shared} (L : Landed X pins τ G a cls d B t0 t1) : Inv X pins τ G t1 := L.inv.landed L.below L.air.1 L.up L.os L.gens
/-- the suite's start -/
theorem Landed.suite {a : Addr} {cls : Value} {d : Option Addr} {B : Heap} {t0 t1 : Shared} (hst : X.stack = X.env :: X.outer) (hfl : X.env.frame = some X.env.locals) (L : Landed X pins τ G a cls d B t0 t1) :
    ∃ o vs, t1.heap.get? a = some o ∧ L2N.Zn cls d o ∧ o.data = .fields vs ∧ Inv (X.suite a ((a, o) :: (X.pn ++ pins))) [] τ G t1 := by
  obtain ⟨o, vs, e1, z, e2⟩ := L.air.there
  have out : a ∉ frs (X.env :: X.outer) := fun hm => by
    obtain ⟨_, u, e3, nf⟩ := L.air.2.2.1.mem hm
    rw [e1] at e3
    cases e3
    exact nf _ e2
  refine ⟨o, vs, e1, z, e2, L.now.suite e1 e2 L.new (fun q => out ?_) fun q => out ?_⟩
  · exact List.mem_filterMap.mpr ⟨X.env, List.mem_cons_self, by rw [hfl, q]⟩
  · obtain ⟨v, hv, e3⟩ := List.mem_filterMap.mp q
    exact List.mem_filterMap.mpr ⟨v, List.mem_cons_of_mem _ hv, e3⟩
/-- the same, raised again inside -/
theorem Landed.again {M : Model} {A : Around} {E : Value → Shared → Prop} {a : Addr} {cls : Value} {d : Option Addr} {B : Heap} {t0 t1 : Shared} {Q : Unit → Shared → Prop} (L : Landed X pins τ G a cls d B t0 t1)
    (h : ∀ t2, Landed X pins τ G a cls d B t0 t2 → Q () t2) : wpAny M A (setFlight (.ref a) none) Q E t1 :=
  HandSPX.lands_againZ L.air fun g2 air2 up2 => h { t1 with heap := g2 } ⟨L.inv, L.below, L.up.trans up2, air2, L.new, L.os, L.gens⟩
/-- a clause's test -/
theorem Landed.test {a : Addr} {cls c : Value} {d : Option Addr} {B : Heap} {t0 t1 : Shared} {x : Str} {q1 : Pos} {Q E : Value → Shared → Prop} (hst : X.stack = X.env :: X.outer) (hfl : X.env.frame = some X.env.locals) (L : Landed X pins τ G a cls d B t0 t1) (hx : Names X x c)
    (h : Q c t1) : wpAny (model X.prog X.w) (X.A.mark (some (.ref a))) (eval (.Name x q1) X.env) Q E t1 := by
  obtain ⟨o, vs, _, _, _, J⟩ := L.suite hst hfl
  obtain ⟨g, nd, m | ⟨m, bv, nn⟩⟩ := hx
  · exact ld_glob J g m h nd
  · exact ld_blt J g m bv h nn nd
theorem Landed.look {a : Addr} {cls c : Value} {d : Option Addr} {B : Heap} {t0 t1 : Shared} {hit : Bool} (L : Landed X pins τ G a cls d B t0 t1) (e : PySem.W.exmOne X.K cls c = some hit) :
    PySem.W.Looks (model X.prog X.w) t1.heap (excMatches (.ref a) c) hit := by
  obtain ⟨o, vs, e1, z, _⟩ := L.air.there
  refine PySem.W.exm_one (M := model X.prog X.w) L.now.kIn (cls := cls) (fun A Q E s keep q => wpAny_typeOf_ref (keep _ _ e1) ?_) e
  rw [z.1]
  exact q
/-- what the clauses do with it -/
theorem handled (hst : X.stack = X.env :: X.outer) (hfl : X.env.frame = some X.env.locals) (nd : X.N.Nodup) {D : Ends} {a : Addr} {cls : Value} {d : Option Addr} {B : Heap} {t0 : Shared} :
    ∀ {hds : List ExceptHandler} {w : Wish}, Hds X hds w → ∀ {t1 : Shared}, Landed X pins τ G a cls d B t0 t1 → w D cls d τ G → wpAny (model X.prog X.w) X.A (handleBy (.ref a) X.env hds) (SP X pins D) X.xe t1 := by
  intro hds w hh
  induction hh with
  | nil => exact fun _ z => z.elim
  | @only x c ts st sts q1 q2 more w hx hs hm ih =>
    intro t1 L ⟨hit, e, k⟩
    refine wpAny_handleBy_cons (codeAny_handlers_test (L.test hst hfl hx ((L.look e).here ?_))) (by intro z; cases z)
    cases hit with
    | false =>
      rw [if_neg (by decide)] at k
      exact ih L k
    | true =>
      rw [if_pos rfl] at k
      refine codeAny_handlers_suite (L.again fun t2 L2 => ?_)
      obtain ⟨o, vs, e1, z, e2, J⟩ := L2.suite hst hfl
      have ok := L2.inv.ok
      refine wpAny_mono ((hs a o cls d _ z ⟨vs, e2⟩).run [] t2 τ G D J (k a L2.new L2.inv.len)) (fun fl t3 r => ?_) fun _ _ z => z.elim
      cases fl with
      | ret u =>
        obtain ⟨v, τ', G', J', rv, q⟩ := r
        exact ⟨v, τ', G', J'.unsuite ok, rv, q⟩
      | next => obtain ⟨τ', G', J', q⟩ := r; exact ⟨τ', G', J'.unsuite ok, q⟩
      | brk => obtain ⟨τ', G', J', q⟩ := r; exact ⟨τ', G', J'.unsuite ok, q⟩
      | cont => obtain ⟨τ', G', J', q⟩ := r; exact ⟨τ', G', J'.unsuite ok, q⟩
  | @named x n c i ts st sts q1 q2 more w hi hl hx hs hm ih =>
    intro t1 L ⟨hit, e, k⟩
    refine wpAny_handleBy_cons (codeAny_handlers_test (L.test hst hfl hx ((L.look e).here ?_))) (by intro z; cases z)
    cases hit with
    | false =>
      rw [if_neg (by decide)] at k
      exact ih L k
    | true =>
      rw [if_pos rfl] at k
      refine codeAny_handlers_suite_as (L.again fun t2 L2 => ?_)
      obtain ⟨o, vs, e1, z, e2, J⟩ := L2.suite hst hfl
      have ok := L2.inv.ok
      refine store_ok (X := X.suite a ((a, o) :: (X.pn ++ pins))) (v := .ref a) J nd hi (.inl hl) rfl (fun t3 J3 => ?_) (.inr hl)
      refine wpAny_mono ((hs a o cls d _ z ⟨vs, e2⟩).run [] t3 _ G (Ends.out D i) J3 (k a L2.new L2.inv.len)) (fun fl t4 r => ?_) fun _ _ z => z.elim
      cases fl with
      | ret u =>
        obtain ⟨v, τ', G', J', rv, q⟩ := r
        exact gone_ok (J'.unsuite ok) nd hi hl fun t5 J5 => ⟨v, _, G', J5, rv, q⟩
      | next => obtain ⟨τ', G', J', q⟩ := r; exact gone_ok (J'.unsuite ok) nd hi hl fun t5 J5 => ⟨_, G', J5, q⟩
      | brk => obtain ⟨τ', G', J', q⟩ := r; exact gone_ok (J'.unsuite ok) nd hi hl fun t5 J5 => ⟨_, G', J5, q⟩
      | cont => obtain ⟨τ', G', J', q⟩ := r; exact gone_ok (J'.unsuite ok) nd hi hl fun t5 J5 => ⟨_, G', J5, q⟩
end
end DD

namespace DD
open PySem PySem.Spec L2
open PyProof.Rows hiding St
variable [LamN]

section
variable {X : Cx} {pins : List (Addr × Obj)} {σ : L2.St} {H : Hp} {s : Shared}
end

/-- the frozen part, fit for a def -/
structure Pure (K : PySem.W.Frag) (Z H : Hp) : Prop where
  zh : Same Z H
  tb : LamX.Tabs (tabT K) H
  nt : ∀ a ps, Z a ≠ some (.tbl ps)
def Back (K : PySem.W.Frag) (mg : Str → Option Value) (Z H : Hp) (r : D) (Q : VK) : Prop := ∀ Z' H' v, After K Z H [] Z' H' → RepD K mg Z' v r → Q v H'
section
variable {K : PySem.W.Frag} {mg : Str → Option Value} {b : Base} {Z Z' H H' : Hp} {σ σ' : St} {ρ ρ' : DEnv} {vs : List V} {as : List A}
theorem Sta.pure (S : Sta K mg b Z H σ ρ vs as) : Pure K Z H := ⟨S.zh, S.sd.tabs, S.sd.nt⟩
/-- behind something that writes nothing of ours -/
theorem Sta.after (S : Sta K mg b Z H σ ρ vs as) (a : After K Z H [] Z' H') : Sta K mg b Z' H' σ ρ vs as :=
  S.grow a.zz a.zh (fun q o e n => a.kh q o e (by simp) n) a.tb a.nt a.kz
/-- every slot pinned -/
def Base.all (b : Base) (σ : St) : Base := { b with pn := List.range σ.length ++ b.pn, σ0 := σ }
theorem Sta.all (S : Sta K mg b Z H σ ρ vs as) : Sta K mg (b.all σ) Z H σ ρ vs as :=
  ⟨S.zz, S.zh, S.kz, S.kh, S.kd, ⟨S.sd.tabs, S.sd.nt, fun p hp => ⟨List.mem_append_right _ (S.sd.kn p hp).1, (S.pin _ (S.sd.kn p hp).1).trans (S.sd.kn p hp).2⟩⟩, fun _ _ => rfl, fun i a h => List.mem_append_right _ (S.lw i a h), S.rep⟩
end

/-- the def y makes lambdas: its code object and its table -/
def LamAt (K : PySem.W.Frag) (mg : Str → Option Value) (base : Heap) (cdv : Value) (y : Str) : Prop :=
  ∃ c P, cdv = .ref c ∧ LamX.TabB base mg c P ∧ (P, y ++ ".<locals>." ++ "<lambda>") ∈ tabT K ∧ ∀ p ∈ tabT K, p.1 = P → p.2 = y ++ ".<locals>." ++ "<lambda>"
section
variable {X : Cx} {C : SC} {f : M A} {tr : Ex → Option D} {dn : D} {x y : Str} {params : Arguments} {body : Expr} {scope : Scope} {p lpos pos : Pos} {k : Nat}
end
end DD

namespace DD
open PySem PySem.Spec L2
open PyProof.Rows hiding St
variable [LamN]
section
variable {K : PySem.W.Frag} {mg : Str → Option Value} {Z Z' H H' : Hp} {σ σ' τ : St} {ρ : DEnv}
theorem SRep.empty {P : Nat → Addr → Prop} : ∀ {σ : St} {n : Nat}, SRep K mg P Z H n σ (List.replicate σ.length none) []
  | [], _ => .nil
  | _ :: _, _ => .no SRep.empty
def Base.new (Z H : Hp) (pn : List Nat) (kn : List (Nat × V)) (σ : St) : Base := ⟨Z, H, fun _ _ => False, pn, σ, kn⟩
theorem Pure.start (h : Pure K Z H) {pn : List Nat} {kn : List (Nat × V)} (hk : ∀ p ∈ kn, p.1 ∈ pn ∧ σ[p.1]? = some (some p.2)) : Sta K mg (Base.new Z H pn kn σ) Z H σ (List.replicate σ.length none) [] [] :=
  ⟨Same.refl _, h.zh, fun _ _ => rfl, fun _ _ e _ _ => e, fun _ e => e, ⟨h.tb, h.nt, hk⟩, fun _ _ => rfl, fun _ _ z => z.elim, [], [], SRep.empty, .nil, fun _ => by simp, fun _ z => by simp at z, fun _ z => by cases z⟩
theorem Sta.done {pn : List Nat} {kn : List (Nat × V)} {v : V} {r : D} (S : Sta K mg (Base.new Z H pn kn τ) Z' H' σ ρ [v] [.v r]) : After K Z H [] Z' H' ∧ RepD K mg Z' v r :=
  ⟨⟨S.zz, S.zh, S.kz, fun a o e _ n => S.kh a o e (fun _ z => z) n, S.kd, S.sd.tabs, S.sd.nt⟩, S.top⟩
/-- a run from nothing -/
theorem Back.run {W : WX} {pn : List Nat} {kn : List (Nat × V)} {r : D} {Q : VK} {D : Ends} {F : M Flow} (h : Pure K Z H) (hk : ∀ p ∈ kn, p.1 ∈ pn ∧ σ[p.1]? = some (some p.2)) (B : Back K mg Z H r Q) (hD : D.rt = Q) {ρ' : DEnv} (e : F (List.replicate σ.length none) = .ok (.ret (.v r)) ρ') :
    tS ⟨K, mg, W, pn, kn⟩ F D σ H := by
  refine ⟨Base.new Z H pn kn σ, Z, _, [], [], ⟨rfl, rfl⟩, rfl, h.start hk, ?_⟩
  rw [e]
  intro Z2 H2 τ v S
  rw [hD]
  obtain ⟨a, r2⟩ := S.done
  exact B _ _ _ a r2
end
section
variable {P : Program} {w : World} {K : PySem.W.Frag} {mg : Str → Option Value} {base : Heap}
end
end DD

namespace HZ
open PySem PySem.Spec PyProof.Rows HotX
section
variable {prog : Program} {w : World} {A : Around} {E : Value → Shared → Prop} {s : Shared}
/-- kept, but for one -/
abbrev But (a : Addr) (g g' : Heap) : Prop := ∀ b o, b ≠ a → g.get? b = some o → g'.get? b = some o
theorem hot_upd {x1 it : Addr} {f : Obj → Obj} {g : Heap} (hot : HotAt A x1 g) (ne : x1 ≠ it) : HotAt A x1 (g.update it f) := by
  obtain ⟨hh, o1, v1, e1, d1, c1⟩ := hot
  exact ⟨hh, o1, v1, (Heap.get?_update_other _ _ (Ne.symm ne)).trans e1, d1, c1⟩
theorem hot_push {x1 : Addr} {o : Obj} {g : Heap} (hot : HotAt A x1 g) : HotAt A x1 (g.push o) := by
  obtain ⟨hh, o1, v1, e1, d1, c1⟩ := hot
  exact ⟨hh, o1, v1, Heap.get?_push_of_some _ e1, d1, c1⟩
theorem hot_keep {x1 : Addr} {g g' : Heap} (hot : HotAt A x1 g) (k : ∀ o, g.get? x1 = some o → g'.get? x1 = some o) : HotAt A x1 g' := by
  obtain ⟨hh, o1, v1, e1, d1, c1⟩ := hot
  exact ⟨hh, o1, v1, k _ e1, d1, c1⟩
theorem but_made {it : Addr} {g : Heap} {f f2 : Obj → Obj} {o1 o2 : Obj} : But it g (((((g.update it f).push o1).push o2)).update ((g.update it f).push o1).objs.size f2) := fun b o hb e => by
  have q : (g.update it f).get? b = some o := (Heap.get?_update_other _ _ (Ne.symm hb)).trans e
  have z := Heap.lt_size (Heap.get?_push_of_some o1 q)
  rw [Heap.get?_update_other _ _ (Nat.ne_of_gt z)]
  exact Heap.get?_push_of_some _ (Heap.get?_push_of_some _ q)
theorem list_end {it l x1 : Addr} {i : Nat} {items : Array Value} {Q : Option Value → Shared → Prop} (hot : HotAt A x1 s.heap) (ne : x1 ≠ it) (hi : s.heap.IsListIter it l i) (hl : s.heap.IsList l items) (none_ : items[i]? = none)
    (k : ∀ g, But it s.heap g → Q none { s with heap := g }) : wpAny (model prog w) A (pyNext (.ref it)) Q E s := by
  obtain ⟨oi, e1, _, d1⟩ := id hi
  obtain ⟨ol, e2, _, n, d2⟩ := hl
  unfold pyNext
  refine wpAny_bind (wpAny_attempt (wpAny_callSpecial?_slot (name := Str.ofString "__next__") hi.typeIs slot_listiter_next (wpAny_call_entry slot_listiter_next hi.typeIs entry_listiter_next ?_ (args_listiter_next _))))
  show wpAny _ _ (field (.ref it) 0 >>= _) _ _ s
  refine wpAny_bind (wpAny_field e1 d1 (x := .ref l) rfl ?_)
  show wpAny _ _ (if (Value.ref l == Value.none) = true then _ else _) _ _ s
  have nn : ¬ ((Value.ref l == Value.none) = true) := fun z => Bool.false_ne_true z
  rw [if_neg nn]
  show wpAny _ _ (field (.ref it) 1 >>= _) _ _ s
  refine wpAny_bind (wpAny_field e1 d1 (x := .int i 0) rfl ?_)
  show wpAny _ _ (seqItems? (.ref l) >>= _) _ _ s
  refine wpAny_bind (wpAny_seqItems e2 d2 ?_)
  simp only [Int.toNat_natCast, none_]
  refine wpAny_bind (wpAny_rule (wpAny_bind (wpAny_setField e1 d1 (by simp) ?_)))
  show wpAny _ _ (newExc (.type "StopIteration") [] >>= _) _ _ _
  refine wpAny_bind ?_
  simp only [newExc, newTuple]
  refine wpAny_bind (wpAny_newObj_type ?_ (by size_fits))
  refine wpAny_bind (m := firstArgMember _ _) (wpAny_of_eq (a := Value.none) (by first | rfl | (simp only [firstArgMember]; rfl)) ?_)
  refine wpAny_newObj_type ?_ (by size_fits)
  have h2 := hot_push (o := { cls := Value.type "tuple", data := .seq ([] : List Value).toArray }) (hot_upd (f := Obj.mapFields (·.setIfInBounds 0 Value.none)) hot ne)
  have lt : x1 < ((s.heap.update it (Obj.mapFields (·.setIfInBounds 0 Value.none))).push { cls := Value.type "tuple", data := .seq ([] : List Value).toArray }).objs.size := by
    obtain ⟨_, o1, _, q, _⟩ := h2
    exact Heap.lt_size q
  refine raiseNew_hot (hot_push h2) (Nat.ne_of_lt lt) (Heap.get?_push_size _ rfl) rfl (by first | (simp; done) | (simp; omega) | (simp only [Array.size_append]; simp; omega)) ?_
  refine wpAny_bind (wpAny_isInstance (T := "StopIteration") (b := true) ⟨_, Heap.get?_update_self _ (Heap.get?_push_size _ rfl) rfl, rfl⟩ isSubtype_stop ?_)
  exact wpAny_pure (k _ but_made)
theorem tup_end {it l x1 : Addr} {i : Nat} {items : Array Value} {Q : Option Value → Shared → Prop} (hot : HotAt A x1 s.heap) (ne : x1 ≠ it) (hi : IsTupIter s.heap it l i) (hl : IsTup s.heap l items) (none_ : items[i]? = none)
    (k : ∀ g, But it s.heap g → Q none { s with heap := g }) : wpAny (model prog w) A (pyNext (.ref it)) Q E s := by
  obtain ⟨oi, e1, _, d1⟩ := id hi
  obtain ⟨ol, e2, _, n, d2⟩ := hl
  unfold pyNext
  refine wpAny_bind (wpAny_attempt (wpAny_callSpecial?_slot (name := Str.ofString "__next__") hi.typeIs slot_tupleiter_next (wpAny_call_entry slot_tupleiter_next hi.typeIs entry_tupleiter_next ?_ (args_tupleiter_next _))))
  show wpAny _ _ (field (.ref it) 0 >>= _) _ _ s
  refine wpAny_bind (wpAny_field e1 d1 (x := .ref l) rfl ?_)
  show wpAny _ _ (if (Value.ref l == Value.none) = true then _ else _) _ _ s
  have nn : ¬ ((Value.ref l == Value.none) = true) := fun z => Bool.false_ne_true z
  rw [if_neg nn]
  show wpAny _ _ (field (.ref it) 1 >>= _) _ _ s
  refine wpAny_bind (wpAny_field e1 d1 (x := .int i 0) rfl ?_)
  show wpAny _ _ (seqItems? (.ref l) >>= _) _ _ s
  refine wpAny_bind (wpAny_seqItems e2 d2 ?_)
  simp only [Int.toNat_natCast, none_]
  refine wpAny_bind (wpAny_rule (wpAny_bind (wpAny_setField e1 d1 (by simp) ?_)))
  show wpAny _ _ (newExc (.type "StopIteration") [] >>= _) _ _ _
  refine wpAny_bind ?_
  simp only [newExc, newTuple]
  refine wpAny_bind (wpAny_newObj_type ?_ (by size_fits))
  refine wpAny_bind (m := firstArgMember _ _) (wpAny_of_eq (a := Value.none) (by first | rfl | (simp only [firstArgMember]; rfl)) ?_)
  refine wpAny_newObj_type ?_ (by size_fits)
  have h2 := hot_push (o := { cls := Value.type "tuple", data := .seq ([] : List Value).toArray }) (hot_upd (f := Obj.mapFields (·.setIfInBounds 0 Value.none)) hot ne)
  have lt : x1 < ((s.heap.update it (Obj.mapFields (·.setIfInBounds 0 Value.none))).push { cls := Value.type "tuple", data := .seq ([] : List Value).toArray }).objs.size := by
    obtain ⟨_, o1, _, q, _⟩ := h2
    exact Heap.lt_size q
  refine raiseNew_hot (hot_push h2) (Nat.ne_of_lt lt) (Heap.get?_push_size _ rfl) rfl (by first | (simp; done) | (simp; omega) | (simp only [Array.size_append]; simp; omega)) ?_
  refine wpAny_bind (wpAny_isInstance (T := "StopIteration") (b := true) ⟨_, Heap.get?_update_self _ (Heap.get?_push_size _ rfl) rfl, rfl⟩ isSubtype_stop ?_)
  exact wpAny_pure (k _ but_made)
/-- a tuple taken apart -/
theorem apart {t x1 : Addr} {items : Array Value} {Q : List Value → Shared → Prop} (hot : HotAt A x1 s.heap) (ht : IsTup s.heap t items) (k : ∀ g, But s.heap.objs.size s.heap g → Q items.toList { s with heap := g }) :
    wpAny (model prog w) A (unpackItems (.ref t) items.size none) Q E s := by
  have l1 : t ≠ s.heap.objs.size := by
    obtain ⟨o, e, _⟩ := ht
    exact Nat.ne_of_lt (Heap.lt_size e)
  have l2 : x1 ≠ s.heap.objs.size := by
    obtain ⟨_, o, _, e, _⟩ := hot
    exact Nat.ne_of_lt (Heap.lt_size e)
  unfold unpackItems
  refine wpAny_bind ?_
  unfold notIterableAtAll
  refine wpAny_bind (wpAny_specialOf ht.typeIs slot_tuple_iter.lookup (wpAny_pure ?_))
  simp only [Bool.false_eq_true, if_false]
  refine wpAny_bind (wpAny_holding (iter_tuple ht (wpAny_bind (wpAny_holding (draw_tuple l1 items.size 0 _ _ ⟨_, Heap.get?_push_size _ rfl, rfl, rfl⟩ (ht.push _) (by omega) fun g1 it1 same1 => ?_)))))
  have all : List.take items.size (List.drop 0 items.toList) = items.toList := by rw [List.drop_zero, List.take_of_length_le (by simp)]
  rw [all, if_neg (by simp)]
  have k1 : But s.heap.objs.size s.heap g1 := fun b o hb e => same1.extBut b o hb (Heap.get?_push_of_some _ e)
  refine wpAny_bind (wpAny_holding (tup_end (hot_keep hot fun o e => k1 x1 o l2 e) l2 it1 ((ht.push _).extBut same1.extBut l1) (by simp) fun g2 k2 => ?_))
  simp only [Option.isSome_none, Bool.false_eq_true, if_false]
  exact wpAny_pure (k g2 fun b o hb e => k2 b o hb (k1 b o hb e))
end
end HZ

namespace HZ
open PySem PySem.Spec PyProof.Rows L2 HotX
section
variable {X0 : Cx} {a1 : Addr} {o1 : Obj} {v1 : Array Value} {l1 : List (Addr × Obj)} {cls : Value} {dx : Option Addr}
end
end HZ

namespace DD
open PySem PySem.Spec L2
open PyProof.Rows hiding St
variable [LamN]

section
variable {C : SC} {f : M A} {σ : L2.St} {H : Hp} {R : It → Hp → Prop}
end
section
variable {X : Cx} {C : SC} {x1 : Addr} {es : List Expr} {gs : List D → M Unit} {sl : List Nat} {n k : Nat} {pos : Pos}
end
section
variable {X0 : Cx} {a1 : Addr} {o1 : Obj} {v1 : Array Value} {l1 : List (Addr × Obj)} {cls : Value} {dx : Option Addr} {C : SC}
end

end DD

namespace DD
open PySem PySem.Spec L2
open PyProof.Rows hiding St
variable [LamN]
def csT (K : PySem.W.Frag) : List (Addr × Addr) := LamN.names.filterMap fun x => PySem.W.tabIn K x
theorem csT_mem {K : PySem.W.Frag} {x : Str} {c P : Addr} (h : x ∈ LamN.names) (e : PySem.W.tabIn K x = some (c, P)) : (c, P) ∈ csT K := List.mem_filterMap.mpr ⟨x, h, e⟩
theorem tabT_mem {K : PySem.W.Frag} {x : Str} {c P : Addr} (h : x ∈ LamN.names) (e : PySem.W.tabIn K x = some (c, P)) : (P, x ++ ".<locals>." ++ "<lambda>") ∈ tabT K := List.mem_filterMap.mpr ⟨x, h, by rw [e]; rfl⟩
/-- what stands of a def that makes lambdas -/
structure LamF (K : PySem.W.Frag) (mg : Str → Option Value) (y : Str) : Prop where
  ex : ∃ (f c P : Addr) (oc : Value) (od : Option Addr) (fd : FuncData) (osl : Array (Option Value)), mg y = some (.ref f) ∧ K.lookup f = some ⟨oc, od, .func fd, osl⟩ ∧ fd.code = .ref c ∧ PySem.W.tabIn K y = some (c, P) ∧ K.lookup P = none ∧
    ∀ p ∈ tabT K, p.1 = P → p.2 = y ++ ".<locals>." ++ "<lambda>"
structure LamH (K : PySem.W.Frag) (mg : Str → Option Value) (base : Heap) (y : Str) : Prop where
  f : LamF K mg y
  n : y ∈ LamN.names
  b : ∀ p ∈ csT K, LamX.TabB base mg p.1 p.2
section
variable {P : Program} {w : World} {K : PySem.W.Frag} {mg : Str → Option Value} {base : Heap}
theorem LamH.at {y : Str} {f : Addr} {oc : Value} {od an : Option Addr} {x q : Str} {params : Arguments} {body : List Stmt} {scope : Scope} {dV kV doc pm cdv ct : Value} {osl : Array (Option Value)} (L : LamH K mg base y) (m : mg y = some (.ref f))
    (lk : K.lookup f = some ⟨oc, od, .func (PySem.W.fnOf x q params body scope dV kV doc pm an cdv ct), osl⟩) : LamAt K mg base cdv y := by
  obtain ⟨f2, c, P, oc2, od2, fd2, osl2, m2, lk2, ec, t, _, u⟩ := L.f.ex
  rw [m] at m2
  cases m2
  rw [lk] at lk2
  cases lk2
  exact ⟨c, P, ec, L.b _ (csT_mem L.n t), tabT_mem L.n t, u⟩
end
end DD

namespace DD
open PySem PySem.Spec L2
open PyProof.Rows hiding St
variable [LamN]
section
variable {K : PySem.W.Frag} {mg : Str → Option Value} {Z G : Hp} {cls : Value} {dx : Option Addr} {e : Ex}
theorem ExR.plain {Dc : Addr} (h : ExR K mg Z cls dx e) (hk : e.ks = []) (m : mg e.c = some (.ref Dc)) : cls = .ref Dc ∧ dx = none := by
  have e1 : cls = .ref Dc := by
    rcases h.cls with q | ⟨q, _⟩
    · rw [m] at q; exact (Option.some.inj q).symm
    · rw [m] at q; cases q
  refine ⟨e1, ?_⟩
  rcases h.own with ⟨_, _, q⟩ | ⟨d, ws, n, _, _, q, _⟩
  · exact q
  · rw [hk] at q
    cases ws with
    | nil => exact absurd rfl n
    | cons _ _ => simp at q
variable {n i : Nat} {cm : Value} {CS : List Str} {bh : Str → M Flow} {w : Wish} {En : Ends} {τ : L2.St} {r : DD.D} {c : Str} {Dc : Addr} {go : Ends → Addr → WX} {b : M Flow}
end
end DD

namespace DD
open PySem PySem.Spec L2
open PyProof.Rows hiding St
variable [LamN]
section
variable {ρ : DEnv} {E : Ex → DEnv → Prop} {f : M A} {Q : A → DEnv → Prop} {QF : Flow → DEnv → Prop} {tr : Ex → Option D} {dn : D} {c : Str}
end
end DD

namespace DD
open PySem PySem.Spec L2
open PyProof.Rows hiding St
variable [LamN]
def places (n j : Nat) : List Nat := sliceRange ((n : Int) - 1) (-1) (-(j : Int))
section
variable {K : PySem.W.Frag} {mg : Str → Option Value} {Z : Hp}
end
section
variable {X : Cx} {C : SC} {e : Expr} {f : M A}
end
end DD

namespace DD
open PySem PySem.Spec L2
open PyProof.Rows hiding St
variable [LamN]
def dPar3 (o1 o2 o3 : Bool) (i j l : Nat) (f g h : M A) : M Flow := f.bind fun a => g.bind fun c => h.bind fun d ρ => if i < ρ.length ∧ j < ρ.length ∧ l < ρ.length then .ok .nx (((ρ.set i (some (frzB o1 a))).set j (some (frzB o2 c))).set l (some (frzB o3 d))) else .bad
section
variable {C : SC} {X : Cx} {a b c : Expr} {f g h : M A} {i j l : Nat} {x y z : Str} {px py pz pt pos : Pos} {kt k2 : Nat} {pt2 : Pos}
theorem ds_par3 (o1 o2 o3 : Bool) (hc : X.calm = true) (hN : X.N.Nodup) (hi : X.N[i]? = some x) (hj : X.N[j]? = some y) (hl : X.N[l]? = some z) (hni : i ∉ C.pn) (hnj : j ∉ C.pn) (hnl : l ∉ C.pn) (hx : X.env.scope.names.lookup x = some .local) (hy : X.env.scope.names.lookup y = some .local) (hz : X.env.scope.names.lookup z = some .local)
    (ha : PE X a (tE C f)) (hb : PE X b (tE C g)) (hcc : PE X c (tE C h)) (hij : i ≠ j) (hil : i ≠ l) (hjl : j ≠ l) (hw : swappedStores [.Tuple [.Name x px, .Name y py, .Name z pz] kt pt] (.Tuple [a, b, c] k2 pt2) X.env = pure (some [x, y, z]))
    (hs : swapsWithSole [.Tuple [.Name x px, .Name y py, .Name z pz] kt pt] (.Tuple [a, b, c] k2 pt2) pos.line X.env = pure false := by rfl) (h1 : starEach (a :: [b, c]) X.env = (false, eval a X.env) :: starEach [b, c] X.env := by rfl) (h2 : starEach (b :: [c]) X.env = (false, eval b X.env) :: starEach [c] X.env := by rfl)
    (h3 : starEach (c :: []) X.env = (false, eval c X.env) :: starEach [] X.env := by rfl) :
    PS X (.Assign [.Tuple [.Name x px, .Name y py, .Name z pz] kt pt] (.Tuple [a, b, c] k2 pt2) pos) (tS C (dPar3 o1 o2 o3 i j l f g h)) := by
  refine PS.w (ps_par3 hc hN hi hj hl hij hil hjl hx hy hz (pa_cons ha (pa_cons hb (pa_cons hcc pa_nil h3) h2) h1) hw hs) fun D σ H k => ?_
  refine (Go.bindE k).mono fun u H1 ⟨c1, k1⟩ => (Go.bindE k1).mono fun v H2 ⟨c2, k2⟩ => (Go.bindE k2).mono fun w H3 ⟨c3, b, Z, ρ, vs, as, hb, _, S, k3⟩ => ?_
  dsimp only at k3
  split at k3
  · rename_i hz
    refine ⟨u, v, w, rfl, ?_⟩
    have S1 := Sta.rot (ws := [w, v]) (l := [c3, c2]) (x := u) (vs := vs) (as := as) S rfl
    obtain ⟨Z1, S2⟩ := Sta.frzTop o1 S1
    have S3 := S2.store (i := i) hz.1 (by rw [hb.pn]; exact hni)
    have S4 := Sta.rot (ws := [w]) (l := [c3]) (x := v) (vs := vs) (as := as) S3 rfl
    obtain ⟨Z2, S5⟩ := Sta.frzTop o2 S4
    have S6 := S5.store (i := j) (by rw [List.length_set]; exact hz.2.1) (by rw [hb.pn]; exact hnj)
    obtain ⟨Z3, S7⟩ := Sta.frzTop (vs := vs) (as := as) o3 S6
    exact k3 _ _ _ (S7.store (i := l) (by rw [List.length_set, List.length_set]; exact hz.2.2) (by rw [hb.pn]; exact hnl))
  · exact k3.elim
end
section
variable {ρ : DEnv} {E : Ex → DEnv → Prop} {f g h : M A} {QF : Flow → DEnv → Prop}
theorem w_par3 {o1 o2 o3 : Bool} {i j l : Nat} (k : Wp (f ρ) (fun a ρ1 => Wp (g ρ1) (fun c ρ2 => Wp (h ρ2) (fun d ρ3 => (i < ρ3.length ∧ j < ρ3.length ∧ l < ρ3.length) ∧ QF .nx (((ρ3.set i (some (frzB o1 a))).set j (some (frzB o2 c))).set l (some (frzB o3 d)))) E) E) E) : Wp (dPar3 o1 o2 o3 i j l f g h ρ) QF E :=
  wp_bind (wp_mono k (fun _ _ k => wp_bind (wp_mono k (fun _ _ k => wp_bind (wp_mono k (fun _ _ k => by rw [if_pos k.1]; exact Wp.mk k.2) fun _ _ z => z)) fun _ _ z => z)) fun _ _ z => z)
end
end DD
namespace DD
end DD

namespace DD
open PySem PySem.Spec L2
open PyProof.Rows hiding St
variable [LamN]
section
variable {K : PySem.W.Frag} {h : Heap} {mg : Str → Option Value} {c t : Str} {D0 M0 : Addr} {b : Bool} (X : K.In h) (G : h.Ns mainGlobals mg)
include X G
end
end DD

namespace DD
open PySem PySem.Spec L2
open PyProof.Rows hiding St
variable [LamN]
/-- a class of exceptions over a built-in one; f: the field that its __init__ stores -/
structure OwnX (K : PySem.W.Frag) (C : Addr) (f : Str) : Prop where
  base : ∃ (B n1 n2 : String) (bm : List Value), ExcBaseFacts B n1 n2 bm ∧ StoreFacts B bm "object.__setattr__" "object" ∧ PySem.W.excInitIn K C bm n1 = true ∧ PySem.W.excOver K C bm = true
  tk : PySem.W.takerIn K C f = some none
  hd : PySem.W.hasDictIn K C = true
  sa : PySem.W.findIn K (.ref C) "__setattr__" = some (some (.builtin "object.__setattr__"))
  ex : PySem.W.subIn K (.ref C) (.type "BaseException") = some true
  ty : PySem.W.typeIn K (.ref C) = some (.type "type")
  kp : PySem.W.keepIn K (.ref C) = true
section
open Builtin Builtin.ObjectAttr
variable {prog : Program} {w : World} {A : Around} {R : Result → Shared → Prop} {hp : Heap} {g : Array GenState} {d : Drawn} {t : Nat} {os : OsState}
end
section
variable {X : Cx} {pins : List (Addr × Obj)} {σ : L2.St} {H : Hp} {s : Shared} {a C : Addr} {f : Str} {y : V} {u : Value} {Q : Unit → Shared → Prop} {E : Value → Shared → Prop} {A : Around}
variable {o v : Expr} {to te : TE} {p' pos : Pos}
end
section
variable {X : Cx} {e : Expr} {ta : TA} {x f : Str} {C fI : Addr} {fd : FuncData} {ps : List Str} {k : Nat} {p pos : Pos}
end
end DD

namespace DD
open PySem PySem.Spec L2
open PyProof.Rows hiding St
variable [LamN]
/-- such a def, run -/
structure CalG (P : Program) (w : World) (K : PySem.W.Frag) (mg : Str → Option Value) (base : Heap) (k : Nat) (x : Str) (F : Fn) (st : Stmt) (ps : List Str) (ds : List DD.D) : Prop where
  ex : ∃ (f : Addr) (fd : FuncData) (dvs : List V), FnOk P w K mg base (L2N.CX P w) k f fd ps (fun vs H Q E => spD K mg F vs H Q E) ∧ mg x = some (.ref f) ∧ FunD K x x (defArgs st) (defBody st) (defScope st) dvs [] f fd ∧ dvs ≠ [] ∧ dvs.length = ds.length ∧ ∀ Z, RepDs K mg Z dvs ds
/-- a call with keywords: n values, then the keywords ks; put in order, the keywords' first r come last -/
structure CalKw (P : Program) (w : World) (K : PySem.W.Frag) (mg : Str → Option Value) (base : Heap) (k : Nat) (x : Str) (F : Fn) (n : Nat) (ks : List Str) (r : Nat) : Prop where
  ex : ∃ (f : Addr) (fd : FuncData) (ps : List Str) (g : List Value → List Value → List Value), FnOk P w K mg base (L2N.CX P w) k f fd ps (fun vs H Q E => spD K mg F vs H Q E) ∧ mg x = some (.ref f) ∧ PySem.W.keepIn K (.ref f) = true ∧ KBn K fd ps n ks g (fun vs zs => vs ++ (zs.drop r ++ zs.take r))
section
variable {P : Program} {w : World} {K : PySem.W.Frag} {mg : Str → Option Value} {base : Heap}
variable {k : Nat} {x : Str} {F : Fn} {st : Stmt} {ps : List Str} {ds : List DD.D}
/-- by values alone: n are written, the defaults behind the first j fill up -/
theorem CalG.pos (c : CalG P w K mg base k x F st ps ds) (n j : Nat) (hn : n + (ds.length - j) = ps.length)
    (h : ∀ (T : Addr) (kV doc pm : Value) (an : Option Addr) (cdv ct : Value) (us its : List Value), us.length = n → its.length = ds.length →
      ∃ k, bindArgs (PySem.W.fnOf x x (defArgs st) (defBody st) (defScope st) (.ref T) kV doc pm an cdv ct) ⟨us, []⟩ = seqItems? (.ref T) >>= k ∧ k (some its.toArray) = pure (ps.zip (us ++ its.drop j))) : CalX P w K mg base k x F (ds.drop j) := by
  obtain ⟨f, fd, dvs, G, m, FD, ne, hl, rd⟩ := c.ex
  obtain ⟨us, r, b⟩ := FD.binds1 n j ne (by rw [hl]; exact hn) fun T kV doc pm an cdv ct us its h1 h2 => h T kV doc pm an cdv ct us its h1 (h2.trans hl)
  refine ⟨f, fd, ps, us, dvs.drop j, G, m, FD.kp, b, r, fun Z => ?_⟩
  exact RepDs.drop j (rd Z)
theorem CalG.kw (c : CalG P w K mg base k x F st ps ds) (n : Nat) (ks : List Str) (r : Nat)
    (h : ∀ (T : Addr) (kV doc pm : Value) (an : Option Addr) (cdv ct : Value) (us its ws : List Value), us.length = n → its.length = ds.length → ws.length = ks.length →
      ∃ k, bindArgs (PySem.W.fnOf x x (defArgs st) (defBody st) (defScope st) (.ref T) kV doc pm an cdv ct) ⟨us, ks.zip ws⟩ = seqItems? (.ref T) >>= k ∧ k (some its.toArray) = pure (ps.zip (us ++ (ws.drop r ++ ws.take r)))) : CalKw P w K mg base k x F n ks r := by
  obtain ⟨f, fd, dvs, G, m, FD, ne, hl, rd⟩ := c.ex
  obtain ⟨its, b⟩ := FD.kbindsD n ks (fun us _ ws => us ++ (ws.drop r ++ ws.take r)) ne (fun h1 _ h3 => h1.append ((h3.drop r).append (h3.take r))) fun T kV doc pm an cdv ct us its ws h1 h2 h3 => h T kV doc pm an cdv ct us its ws h1 (h2.trans hl) h3
  exact ⟨f, fd, ps, _, G, m, FD.kp, b⟩
end
section
variable {K : PySem.W.Frag} {mg : Str → Option Value} {b : Base} {Z H : Hp} {σ : L2.St} {ρ : DEnv} {vs p1 p2 : List V} {as a1 a2 : List A}
theorem Sta.swap (S : Sta K mg b Z H σ ρ (p2 ++ (p1 ++ vs)) (a2 ++ (a1 ++ as))) (h2 : p2.length = a2.length) (h1 : p1.length = a1.length) : Sta K mg b Z H σ ρ (p1 ++ (p2 ++ vs)) (a1 ++ (a2 ++ as)) := by
  obtain ⟨f, g, q1, q2, q3, q4, q5⟩ := S.rep
  obtain ⟨g2, g', rfl, r2, r'⟩ := q2.split h2
  obtain ⟨g1, g0, rfl, r1, r0⟩ := r'.split h1
  have m : ∀ q, q ∈ g1 ++ (g2 ++ g0) → q ∈ g2 ++ (g1 ++ g0) := fun q hq => by
    simp only [List.mem_append] at hq ⊢
    rcases hq with h | h | h
    · exact .inr (.inl h)
    · exact .inl h
    · exact .inr (.inr h)
  refine ⟨S.zz, S.zh, S.kz, S.kh, S.kd, S.sd, S.pin, S.lw, f, g1 ++ (g2 ++ g0), q1, r1.append (r2.append r0), fun y => ?_, fun q hq => q4 q (hq.imp id (m q)), fun q hq => q5 q (m q hq)⟩
  have := q3 y
  simp only [List.count_append] at this ⊢
  omega
end
theorem Go.swap {α : Type} {C : SC} {fin : Fin α} {p0 p1 p2 : List V} {a0 a1 a2 : List A} {g : M α} {σ : L2.St} {H : Hp} (h : Go C fin (p2 ++ (p1 ++ p0)) (a2 ++ (a1 ++ a0)) g σ H) (h2 : p2.length = a2.length) (h1 : p1.length = a1.length) : Go C fin (p1 ++ (p2 ++ p0)) (a1 ++ (a2 ++ a0)) g σ H := by
  obtain ⟨b, Z, ρ, vs, as, hb, hl, S, k⟩ := h
  refine ⟨b, Z, ρ, vs, as, hb, by simp only [List.length_append] at hl ⊢; omega, ?_, k⟩
  have S' : Sta C.K C.mg b Z H σ ρ (p2 ++ (p1 ++ (p0 ++ vs))) (a2 ++ (a1 ++ (a0 ++ as))) := by simpa only [List.append_assoc] using S
  have := S'.swap h2 h1
  simpa only [List.append_assoc] using this
theorem ArgR.append {σ : L2.St} : ∀ {ws zs : List V} {l l2 : List AV} {pv pv2 : List V} {pa pa2 : List A}, ArgR σ ws l pv pa → ArgR σ zs l2 pv2 pa2 → ArgR σ (ws ++ zs) (l ++ l2) (pv ++ pv2) (pa ++ pa2)
  | [], _, _, _, _, _, _, _, h, g => by cases h; exact g
  | _ :: _, _, _, _, _, _, _, _, h, g => by
    cases h with
    | val h => exact .val (h.append g)
    | ref e h => exact .ref e (h.append g)
theorem ArgR.split {σ : L2.St} : ∀ (r : Nat) {ws : List V} {l : List AV} {pv : List V} {pa : List A}, ArgR σ ws l pv pa → ∃ p1 p2 a1 a2, pv = p1 ++ p2 ∧ pa = a1 ++ a2 ∧ ArgR σ (ws.take r) (l.take r) p1 a1 ∧ ArgR σ (ws.drop r) (l.drop r) p2 a2
  | 0, _, _, _, _, h => ⟨[], _, [], _, rfl, rfl, by simpa using .nil, by simpa using h⟩
  | r + 1, [], _, _, _, h => by cases h; exact ⟨[], [], [], [], rfl, rfl, .nil, .nil⟩
  | r + 1, _ :: _, _, _, _, h => by
    cases h with
    | val h => obtain ⟨p1, p2, a1, a2, e1, e2, h1, h2⟩ := ArgR.split r h; exact ⟨_, p2, _, a2, by rw [e1]; rfl, by rw [e2]; rfl, .val h1, h2⟩
    | ref e h => obtain ⟨p1, p2, a1, a2, e1, e2, h1, h2⟩ := ArgR.split r h; exact ⟨p1, p2, a1, a2, e1, e2, .ref e h1, h2⟩
section
variable {X : Cx} {C : SC} {fs gs : M (List AV)} {x : Str} {p pos : Pos} {e : Expr} {es : List Expr} {kws : List Keyword} {n k r : Nat} {ks : List Str} {F : Fn}
end
end DD

namespace DD
open PySem PySem.Spec L2
open PyProof.Rows hiding St
variable [LamN]
section
variable {ρ : DEnv} {E : Ex → DEnv → Prop} {Q : A → DEnv → Prop} {QF : Flow → DEnv → Prop} {c f : Str} {fs gs : M (List AV)} {ls : M (List A)} {F : Fn} {n m r : Nat}
end
section
variable {P : Program} {w : World} {K : PySem.W.Frag} {mg : Str → Option Value} {base : Heap} {x : Str} {F : Fn} {st : Stmt} {ps : List Str} {ds : List DD.D}
theorem CalG.mono {j k : Nat} (c : CalG P w K mg base j x F st ps ds) (h : j ≤ k) : CalG P w K mg base k x F st ps ds :=
  let ⟨f, fd, dvs, G, r⟩ := c.ex
  ⟨f, fd, dvs, G.mono h, r⟩
end
section
variable {K : PySem.W.Frag} {h : Heap} {mg : Str → Option Value} (X : K.In h) (G : h.Ns mainGlobals mg)
include X G
end
def inCls (s : Stmt) (i : Nat) : Stmt := match s with
  | .ClassDef _ _ _ b _ _ _ _ _ _ _ => b.getD i (.Pass ⟨0, 0, 0, 0⟩)
  | _ => .Pass ⟨0, 0, 0, 0⟩
end DD

namespace DD
open PySem PySem.Spec L2
open PyProof.Rows hiding St
variable [LamN]
/-- what stands of an own class; fs: fields of its instances -/
structure InsC (K : PySem.W.Frag) (mg : Str → Option Value) (c : Str) (fs : List Str) : Prop where
  ex : ∃ C, mg c = some (.ref C) ∧ Cls K C ∧ ∀ f ∈ fs, NoAttr K C f
theorem putF_new {f : Str} {y : V} : ∀ {ws : List (Str × V)}, f ∉ ws.map (·.1) → putF f y ws = ws ++ [(f, y)]
  | [], _ => rfl
  | (g, x) :: r, h => by
    have hg : g ≠ f := fun e => h (by rw [← e]; exact List.mem_cons_self)
    have hr : f ∉ r.map (·.1) := fun z => h (List.mem_cons_of_mem _ z)
    unfold putF
    rw [if_neg hg, putF_new hr]
    rfl
section
variable {K : PySem.W.Frag} {mg : Str → Option Value} {b : Base} {Z H : Hp} {σ : L2.St} {ρ : DEnv} {vs : List V} {as l : List A} {y : V} {d : DD.D} {i : Nat} {c f : Str} {ks : List Str}
/-- a further field of the instance in the i-th slot -/
theorem Sta.setF (S : Sta K mg b Z H σ ρ (y :: vs) (.v d :: as)) (e : ρ[i]? = some (some (.mi c ks l))) (hf : f ∉ ks) :
    ∃ p C dx ws, σ[i]? = some (some (.ref p)) ∧ mg c = some (.ref C) ∧ H p = some (.ins C dx ws) ∧ ws.length = ks.length ∧ Sta K mg b Z (upd H p (.ins C dx (putF f y ws))) σ (ρ.set i (some (.mi c (ks ++ [f]) (l ++ [.v d])))) vs as := by
  have rd := S.top
  have S := S.pop
  obtain ⟨fa0, g, h1, h2, h3, h4, h5⟩ := S.rep
  obtain ⟨x, fa, f0, e1, r3, pw, r4, cn⟩ := h1.out e
  cases r3 with
  | @mi p C dx _ ws _ fl hm hp rl =>
    have cp : ∀ y, f0.count y + (fl.count y + if p = y then 1 else 0) + g.count y ≤ 1 := fun y => by
      have c1 := h3 y
      have c2 := cn y
      rw [List.count_cons] at c2
      simp only [beq_iff_eq] at c2
      omega
    have zp : Z p = none := h4 p (.inl (count_mem (by have := cn p; rw [List.count_cons_self] at this; omega)))
    have np : ∀ {q : Addr}, (0 < f0.count q ∨ 0 < fl.count q ∨ 0 < g.count q) → q ≠ p := fun {q} hq e' => by
      have := cp q
      rw [if_pos e'.symm] at this
      omega
    have nf0 : ∀ q ∈ f0, q ≠ p := fun q hq => np (.inl (mem_count hq))
    have nfl : ∀ q ∈ fl, q ≠ p := fun q hq => np (.inr (.inl (mem_count hq)))
    have ng : ∀ q ∈ g, q ≠ p := fun q hq => np (.inr (.inr (mem_count hq)))
    have hi : i < σ.length := (List.getElem?_eq_some_iff.mp e1).1
    have k1 : (putF f y ws).map (·.1) = ws.map (·.1) ++ [f] := by rw [putF_new hf, List.map_append]; rfl
    have k2 : (putF f y ws).map (·.2) = ws.map (·.2) ++ [y] := by rw [putF_new hf, List.map_append]; rfl
    have rr : RepAs K mg Z (upd H p (.ins C dx (putF f y ws))) ((putF f y ws).map (·.2)) (l ++ [.v d]) (fl ++ ([] ++ [])) := by
      rw [k2]
      exact (RepAs.mono (Same.refl Z) _ _ _ (fun q hq => upd_ne (nfl q hq)) rl).append (.cons (.v rd) .nil)
    rw [List.append_nil, List.append_nil] at rr
    have rmi : RepA K mg Z (upd H p (.ins C dx (putF f y ws))) (.ref p) (.mi c (ws.map (·.1) ++ [f]) (l ++ [.v d])) (p :: fl) := by
      rw [← k1]
      exact .mi hm upd_same rr
    have r5 : SRep K mg b.Own Z (upd H p (.ins C dx (putF f y ws))) 0 σ (ρ.set i none) f0 := r4.mono (Same.refl Z) (fun q hq => upd_ne (nf0 q hq)) fun _ _ _ z => z
    obtain ⟨f', r6, c6⟩ := r5.into (i := i) (x := .ref p) hi rmi pw
    rw [set_same e1, List.set_set] at r6
    refine ⟨p, C, dx, ws, e1, hm, hp, by rw [List.length_map], S.zz, fun q u eq => ?_, S.kz, fun q u eq hq hn => ?_, fun q hq => ?_, ⟨tabs_upd S.sd.tabs hp (.inr (.inl ⟨_, _, _, rfl⟩)), S.sd.nt, S.sd.kn⟩, S.pin, S.lw, f', g, r6, RepAs.mono (Same.refl Z) _ _ _ (fun q hq => upd_ne (ng q hq)) h2, fun y => ?_, fun q hq => ?_, h5⟩
    · have hne : q ≠ p := fun e' => by rw [e', zp] at eq; cases eq
      rw [upd_ne hne]; exact S.zh _ _ eq
    · have hne : q ≠ p := fun e' => by
        subst e'
        rcases pw q List.mem_cons_self with z | z
        · exact hq _ z
        · exact (Fre.no eq hn z).elim
      rw [upd_ne hne]; exact S.kh _ _ eq hq hn
    · by_cases e' : q = p
      · rw [e'] at hq; exact (Fre.no upd_same (fun ps z => by cases z) hq).elim
      · exact S.kd q fun o e => hq o (by rw [upd_ne e']; exact e)
    · have c1 := h3 y
      have c2 := c6 y
      have c3 := cn y
      omega
    · rcases hq with hq | hq
      · have c2 := c6 q
        have c3 := cn q
        have := mem_count hq
        exact h4 q (.inl (count_mem (by omega)))
      · exact h4 q (.inr hq)
end
/-- self.f = e, self an instance of c that is being made -/
def dSetF (c : Str) (i : Nat) (f : Str) (e : M A) : M Flow := e.bind fun a ρ => match ρ[i]? with
  | some (some (.mi c' ks l)) => if c' = c ∧ f ∉ ks ∧ ks.length < 900 then .ok .nx (ρ.set i (some (.mi c (ks ++ [f]) (l ++ [.v a.frz])))) else .bad
  | _ => .bad
def attrD (c f : Str) : A → Option A
  | .v (.ins c' ks ds) => if c' = c then ((ks.zip ds).lookup f).map .v else none
  | _ => none
/-- e.f, e an instance of c -/
def dAttr (c f : Str) (e : M A) : M A := e.bind fun a => ofO (attrD c f a)
theorem lookup_rep {K : PySem.W.Frag} {mg : Str → Option Value} {Z : Hp} {f : Str} {d : DD.D} : ∀ {ws : List (Str × V)} {ds : List DD.D}, RepDs K mg Z (ws.map (·.2)) ds → ((ws.map (·.1)).zip ds).lookup f = some d → ∃ v, ws.lookup f = some v ∧ RepD K mg Z v d
  | [], _, _, e => by cases e
  | (g, x) :: r, _, h, e => by
    cases h with
    | @cons _ _ d0 ds h1 h2 =>
      simp only [List.map_cons, List.zip_cons_cons, List.lookup_cons] at e ⊢
      cases q : f == g with
      | true => rw [q] at e; cases e; exact ⟨x, rfl, h1⟩
      | false => rw [q] at e; exact lookup_rep h2 e
section
variable {X : Cx} {C : SC} {c f x : Str} {fs : List Str} {i : Nat} {e : Expr} {g : M A} {p pos pos' : Pos}
theorem ds_setF (h : InsC X.K X.mg c fs) (hf : f ∈ fs) (hM : X.mg = C.mg) (hK : X.K = C.K) (hN : X.N[i]? = some x) (hv : Vis X.env.scope x) (he : PE X e (tE C g)) (d1 : (x == ("__debug__" : Str)) = false := by decide) (d2 : (x == ("__classdict__" : Str)) = false := by decide)
    (hs : swapsWith e (some (.Attribute (.Name x p) f pos')) pos.line X.env = pure false := by rfl) : PS X (.Assign [.Attribute (.Name x p) f pos'] e pos) (tS C (dSetF c i f g)) := by
  obtain ⟨Ci, m, cl, na⟩ := h.ex
  refine PS.w (ps_fld (pe_var hN hv d1 d2) he hs) fun D σ H k => ?_
  refine (Go.bindE k).mono fun y H1 ⟨u, b, Z, ρ, vs, as, hb, _, S, k1⟩ => ?_
  dsimp only at k1
  split at k1
  · rename_i c' ks l hl
    split at k1
    · rename_i hc
      obtain ⟨rfl, hf', hlen⟩ := hc
      obtain ⟨Z', _, S'⟩ := Sta.freeze (vs := vs) (as := as) S
      obtain ⟨p', C', dx, ws, e1, m', hp, hl', S2⟩ := S'.setF hl hf'
      rw [← hM, m] at m'
      cases m'
      exact ⟨.ref p', e1, p', Ci, dx, ws, rfl, hp, cl, na f hf, by omega, k1 _ _ _ S2⟩
    · exact k1.elim
  · exact k1.elim
theorem de_attr (h : InsC X.K X.mg c fs) (hf : f ∈ fs) (hM : X.mg = C.mg) (he : PE X e (tE C g)) (hb : attributeBase e f X.env (eval e X.env) = eval e X.env := by rfl) : PE X (.Attribute e f pos) (tE C (dAttr c f g)) := by
  obtain ⟨Ci, m, cl, na⟩ := h.ex
  refine PE.w (pe_fld he hb) fun σ H Q k => ?_
  refine (Go.bindE k).mono fun x H1 ⟨a, k1⟩ => ?_
  obtain ⟨res, e1, b, Z, ρ, vs, as, hb, _, S, k2⟩ := go_ofO k1
  unfold attrD at e1
  split at e1
  · rename_i c' ks ds
    split at e1
    · rename_i hc
      subst hc
      obtain ⟨d, e2, rfl⟩ := Option.map_eq_some_iff.mp e1
      have t := Sta.top (vs := vs) (as := as) S
      cases t with
      | @ins a C' dx _ ws _ m' hz rd =>
        obtain ⟨v, e3, r⟩ := lookup_rep rd e2
        rw [← hM, m] at m'
        cases m'
        exact ⟨a, Ci, dx, ws, v, rfl, S.zh _ _ hz, cl, na f hf, e3, k2 _ _ _ ((Sta.pop (vs := vs) (as := as) S).push r)⟩
    · cases e1
  · cases e1
end
structure IsC (K : PySem.W.Frag) (mg : Str → Option Value) (c : Str) : Prop where
  ex : ∃ C, mg c = some (.ref C) ∧ Cls K C ∧ PySem.W.findIn K (.ref C) "__class__" = some (some (.builtin "object.__class__")) ∧ PySem.W.specialIn K (.builtin "object.__class__") "__get__" = some (some (.builtin "getset_descriptor.__get__")) ∧
    PySem.W.takesIn K (.builtin "object.__class__") = some true ∧ PySem.W.mroIn K C (.type "object") = some true ∧ PySem.W.kitOne K (.ref C) (.ref C) = some true ∧
    (∀ T ∈ ["NoneType", "bool", "int", "str", "tuple", "list"], PySem.W.kitOne K (.type T) (.ref C) = some false)
def opOwn (c : Str) : A → Option A
  | .v (.ins c' _ _) => if c' = c then some (.v (.bl true)) else none
  | .v _ => some (.v (.bl false))
  | .m _ => some (.v (.bl false))
  | _ => none
def dIsOwn (c : Str) (f : M A) : M A := f.bind fun a => ofO (opOwn c a)
theorem kindD_in {d : DD.D} (h : kindD d ≠ "") : kindD d ∈ ["NoneType", "bool", "int", "str", "tuple", "list"] := by
  cases d <;> simp [kindD] at h ⊢
section
variable {X : Cx} {C : SC} {c : Str} {e : Expr} {f : M A} {p p2 pos : Pos}
theorem de_isOwn (h : IsC X.K X.mg c) (hK : X.K = C.K) (hM : X.mg = C.mg) (hg : Gl X "isinstance") (hm : X.mg "isinstance" = none) (ha : PE X e (tE C f)) (hg2 : Gl X c) (hdb : (c == ("__debug__" : Str)) = false := by decide)
    (hv : bootBuiltins "isinstance" = some (.builtin "isinstance") := by decide +kernel)
    (he : starEach (e :: [.Name c p2]) X.env = (false, eval e X.env) :: starEach [.Name c p2] X.env := by rfl) (he2 : starEach (.Name c p2 :: []) X.env = (false, eval (.Name c p2) X.env) :: starEach [] X.env := by rfl)
    (hpl : (backTo pos (starEach [.Name c p2] X.env)).any (·.1) = false := by rfl) : PE X (.Call (.Name "isinstance" p) [e, .Name c p2] [] pos) (tE C (dIsOwn c f)) := by
  obtain ⟨Ci, m, cl, ha1, ha2, ha3, ha4, k1, k2⟩ := h.ex
  refine PE.w (pe_callB call_isi hg hm hv (pa_cons ha (pa_cons (pe_glob (v := .ref Ci) hg2 m rfl hdb) pa_nil he2) he) (by decide) (by decide) he hpl) fun σ H Q k => ?_
  refine (Go.bindE k).mono fun x H1 ⟨a, k3⟩ => ?_
  obtain ⟨res, e1, b, Z, ρ, vs, as, hb, _, S, k4⟩ := go_ofO k3
  show rIsi X.K [x, .ref Ci] H1 Q
  unfold opOwn at e1
  split at e1
  · rename_i c' ks ds
    split at e1
    · rename_i hc
      subst hc
      cases e1
      have t := Sta.top (vs := vs) (as := as) S
      cases t with
      | @ins a C' dx _ ws _ m' hz rd =>
        rw [← hM, m] at m'
        cases m'
        exact ⟨_, _, _, _, true, rfl, .own Ci, .base (.ins (S.zh _ _ hz) cl ha1 ha2 ha3 ha4), k1, k4 _ _ _ ((Sta.pop (vs := vs) (as := as) S).push (.bl _))⟩
    · cases e1
  · rename_i d hd _
    cases e1
    have hn : kindD d ≠ "" := by
      cases d with
      | ins a1 a2 a3 => exact absurd rfl (hd a1 a2 a3)
      | _ => simp [kindD]
    have ty := (Sta.top (vs := vs) (as := as) S).ty S.zh hn
    rw [← hK] at ty
    exact ⟨_, _, _, _, false, rfl, .own Ci, ty, k2 _ (kindD_in hn), k4 _ _ _ ((Sta.pop (vs := vs) (as := as) S).push (.bl _))⟩
  · rename_i l
    cases e1
    obtain ⟨f0, g0, h1, h2, _⟩ := S.rep
    cases h2 with
    | cons r1 r2 =>
      cases r1 with
      | m hp _ => exact ⟨_, _, _, _, false, rfl, .own Ci, .base (.lst hp), k2 "list" (by simp), k4 _ _ _ ((Sta.pop (vs := vs) (as := as) S).push (.bl _))⟩
  · cases e1
end
end DD

namespace DD
open PySem PySem.Spec L2
open PyProof.Rows hiding St
variable [LamN]
/-- c(..): a new instance, then its __init__ on what is handed in, frozen, and the defaults ds -/
def dMake (F : Fn) (c : Str) (fs : M (List A)) (ds : List DD.D) : M A := fs.bind fun l ρ => match F (.mi c [] [] :: (frzs l ++ ds).map .v) with
  | .ok (.v .non) (a :: _) => .ok a ρ
  | .exc e _ => .exc e ρ
  | _ => .bad
theorem repL_vals {K : PySem.W.Frag} {mg : Str → Option Value} {Z H : Hp} : ∀ {ws : List V} {ds : List DD.D}, RepDs K mg Z ws ds → RepL K mg Z H ws (ds.map .v) (ws.map fun _ => [])
  | [], _, h => by cases h; exact .nil
  | _ :: _, _, h => by cases h with | cons h1 h2 => exact .cons (.v h1) (repL_vals h2)
theorem nils_flat {ws : List V} : (ws.map fun _ => ([] : List Addr)).flatten = [] := by
  induction ws with
  | nil => rfl
  | cons _ _ ih => rw [List.map_cons, List.flatten_cons, ih]; rfl
theorem make_sp {K : PySem.W.Frag} {mg : Str → Option Value} {b : Base} {Z H : Hp} {σ : L2.St} {ρ : DEnv} {vs ws : List V} {as : List A} {ds0 : List DD.D} {c : Str} {Ci : Addr} {F : Fn} {Q : VK} {E : XK} (S : Sta K mg b Z H σ ρ vs as) (rd : RepDs K mg Z ws ds0) (m : mg c = some (.ref Ci))
    (k : match F (.mi c [] [] :: ds0.map .v) with
      | .ok (.v .non) (a :: _) => ∀ Z' H' v, Sta K mg b Z' H' σ ρ (v :: vs) (a :: as) → Q v H'
      | .exc e _ => ∀ Z' H' cls d, Sta K mg b Z' H' σ ρ vs as → ExR K mg Z' cls d e → E cls d H'
      | _ => False) :
    ∀ x dx, H x = none → H dx = none → dx ≠ x → spD K mg F (.ref x :: ws) (upd (upd H dx (.own x)) x (.ins Ci dx [])) (fun v H2 => v = .non ∧ Q (.ref x) H2) E := by
  intro x dx hx hdx ne
  have hx2 : upd H dx (.own x) x = none := by rw [upd_ne (Ne.symm ne)]; exact hx
  have sm : Same H (upd (upd H dx (.own x)) x (.ins Ci dx [])) := (same_upd hdx).trans (same_upd hx2)
  have ext := LamX.ExtN.of sm
  have r0 : RepL K mg Z (upd (upd H dx (.own x)) x (.ins Ci dx [])) (.ref x :: ws) (.mi c [] [] :: ds0.map .v) ([x] :: ws.map fun _ => []) := .cons (.mi (ws := []) m upd_same .nil) (repL_vals rd)
  have fl : ([x] :: ws.map fun _ => ([] : List Addr)).flatten = [x] := by rw [List.flatten_cons, nils_flat]; rfl
  refine ⟨Z, _, _, ⟨S.zh.trans sm, tabs_new (tabs_new S.sd.tabs hdx) hx2, S.sd.nt⟩, r0, fun y => ?_, fun a ha => ?_, ?_⟩
  · rw [fl]
    exact Nat.le_trans (List.count_le_length) (Nat.le_refl _)
  · rw [fl] at ha
    obtain rfl : a = x := by simpa using ha
    exact S.zh.free hx
  obtain ⟨fs0, q0, _, _, fin⟩ := Sta.called (pv := []) (pa := []) (ws := []) (l := []) (ys := []) (ds := []) (as1 := []) (ρ1 := ρ) (Z2 := Z) (H2 := H) (l' := []) S .nil rfl .nil
  have e0 : fs0 = [] := by cases q0; rfl
  subst e0
  have after : ∀ {Z' H' : Hp}, After K Z (upd (upd H dx (.own x)) x (.ins Ci dx [])) ([x] :: ws.map fun _ => []) Z' H' → After K Z H [] Z' H' := fun {Z' H'} af =>
    ⟨af.zz, af.zh, fun q hq => af.kz q fun z => hq (z.ext ext), fun q o e _ n => af.kh q o (sm q o e) (by
      rw [fl]
      intro z
      obtain rfl : q = x := by simpa using z
      rw [hx] at e
      cases e) n, fun q hq => (af.kd q hq).ext ext, af.tb, af.nt⟩
  revert k
  cases hF : F (.mi c [] [] :: ds0.map .v) with
  | bad => exact fun k => k.elim
  | exc e l' =>
    intro k Z' H' cls d fs' af xr rl cnt zn own
    have S' := fin (ps := []) (qa := []) (fr := []) (fs' := []) (l' := []) (after af) .nil (fun i f f' z _ => by simp at z) .nil (fun y => by simp) (fun a ha => by simp at ha) (fun a ha => by cases ha)
    exact k Z' H' cls d S' xr
  | ok r l' =>
    intro k Z' H' v fr fs' af ra rl cnt zn fresh own
    split at k
    · rename_i a l2 heq
      cases heq
      cases rl with
      | @cons _ _ _ _ f0 fs2 r1 r2 =>
      have ev : v = .non := by
        cases ra with
        | v rr => cases rr; rfl
      have S' := fin (ps := [.ref x]) (qa := [a]) (fr := f0 ++ []) (fs' := []) (l' := []) (after af) .nil (fun i f f' z _ => by simp at z) (.cons r1 .nil) (fun y => by
        have := cnt y
        rw [List.flatten_cons, List.count_append] at this
        rw [List.append_nil]
        simp
        omega) (fun q hq => by
        rw [List.append_nil] at hq
        rcases hq with hq | hq
        · exact zn q (.inr (by rw [List.flatten_cons]; exact List.mem_append_left _ hq))
        · simp at hq) (fun q hq => by
        rw [List.append_nil] at hq
        rcases own 0 [x] f0 rfl rfl q hq with z | z
        · obtain rfl : q = x := by simpa using z
          exact Fre.of hx
        · exact z.ext ext)
      exact ⟨ev, k Z' H' (.ref x) S'⟩
    · rename_i heq
      cases heq
    · exact k.elim
/-- a class whose __init__ runs as F -/
structure MkC (P : Program) (w : World) (K : PySem.W.Frag) (mg : Str → Option Value) (base : Heap) (k : Nat) (c : Str) (F : Fn) (ds : List DD.D) : Prop where
  ex : ∃ (C f : Addr) (fd : FuncData) (ps : List Str) (us : List Value) (ys : List V), Mk K C f ∧ FnOk P w K mg base (L2N.CX P w) k f fd ps (fun vs H Q E => spD K mg F vs H Q E) ∧ mg c = some (.ref C) ∧ Binds K fd ps us ∧ Vals ys us ∧ ∀ Z, RepDs K mg Z ys ds
section
variable {X : Cx} {C : SC} {fs : M (List A)} {c : Str} {p pos : Pos} {e : Expr} {es : List Expr} {k : Nat} {F : Fn} {ds : List DD.D}
theorem de_make (c0 : MkC X.prog X.w X.K X.mg X.base k c F ds) (hr : Room (k + 1) X.A) (hg : Gl X c) (hK : X.K = C.K) (hM : X.mg = C.mg) (tk : L2N.Takes X C.W) (ha : PA X (e :: es) (tA C fs)) (hdb : (c == ("__debug__" : Str)) = false := by decide)
    (st : starEach (e :: es) X.env = (false, eval e X.env) :: starEach es X.env := by rfl) (hpl : (backTo pos (starEach es X.env)).any (·.1) = false := by rfl) : PE X (.Call (.Name c p) (e :: es) [] pos) (tE C (dMake F c fs ds)) := by
  obtain ⟨Ci, f, fd, ps, us0, ys, M0, G, m, bd, rv0, rd0⟩ := c0.ex
  refine ⟨fun pins s σ H Q I h => ?_⟩
  refine wpAny_Call_Name_kw (ld_glob I hg m (PySem.W.callWith_K (h₀ := X.base) I.ok.mod.kin M0.kp (thn (ha.run pos pins s σ H _ I (Go.bindA h)) ?_) st hpl) hdb)
  rintro us s1 ⟨ws, H1, I1, r1, l, hl, b0, Z, ρ, vs, as, hb, _, S, k1⟩
  refine ⟨I1.kIn, ?_⟩
  rw [List.append_nil, List.append_nil] at S
  obtain ⟨Z1, _, rd, S1⟩ := S.freezes hl
  have rd2 : RepDs C.K C.mg Z1 (ws ++ ys) (frzs l ++ ds) := RepDs.append rd (by rw [← hK, ← hM]; exact rd0 Z1)
  have sp := make_sp (Q := Q) (E := fun cls d H' => C.W cls d σ H') (F := F) S1 rd2 (by rw [← hM]; exact m) (by
    dsimp only at k1
    split at k1
    · exact k1
    · exact fun Z' H' cls d S' x => k1 Z' H' σ cls d S' x
    · exact k1)
  have hq := sp (s1.heap.objs.size + 1) s1.heap.objs.size (I1.hok.fresh (Nat.le_succ _)) (I1.hok.fresh (Nat.le_refl _)) (Nat.ne_of_lt (Nat.lt_succ_self _))
  rw [← hK, ← hM] at hq
  have I2 := Inv.made (C := Ci) I1
  have r2 : Vals (V.ref (s1.heap.objs.size + 1) :: (ws ++ ys)) (Value.ref (s1.heap.objs.size + 1) :: (us ++ us0)) := .cons rfl (r1.append rv0)
  have hlen : (Value.ref (s1.heap.objs.size + 1) :: us ++ us0).length = ps.length := r2.length.symm.trans (G.len _ _ _ _ hq)
  refine wpAny_call (make_map (f := f) I1.kIn M0.makes M0.init (beq_iff_eq.mp M0.fn) (codeAny_mono (G.run _ X.stack _ _ ⟨Value.ref (s1.heap.objs.size + 1) :: us, []⟩ _ _ _ (fun cls d H' => C.W cls d σ H') (hr.make Ci us []) (I2.env0.make Ci us []) (bd _ (Value.ref (s1.heap.objs.size + 1) :: us) I2.kIn hlen) r2 hq) ?_))
  intro fin s' hq'
  cases fin with
  | error er => exact L2N.passAt tk σ pins _ _ er s' I2 hq'
  | ok fl => cases fl with
    | next => exact hq'.elim
    | brk => exact hq'.elim
    | cont => exact hq'.elim
    | ret u =>
      obtain ⟨v, H', I3, rv, ev, q3⟩ := I2.after hq'
      subst ev
      exact ⟨rv, ⟨V.ref (s1.heap.objs.size + 1), H', I3, rfl, q3⟩⟩
end
end DD

namespace DD
open PySem PySem.Spec L2
open PyProof.Rows hiding St
variable [LamN]
/-- what stands of a class and its __init__ with defaults ds -/
def IniD (K : PySem.W.Frag) (mg : Str → Option Value) (c qual : Str) (st : Stmt) (ds : List DD.D) : Prop :=
  ∃ (C f : Addr) (fd : FuncData) (dvs : List V), mg c = some (.ref C) ∧ Mk K C f ∧ FunD K "__init__" qual (defArgs st) (defBody st) (defScope st) dvs [] f fd ∧ dvs ≠ [] ∧ dvs.length = ds.length ∧ ∀ Z, RepDs K mg Z dvs ds
structure CalI (P : Program) (w : World) (K : PySem.W.Frag) (mg : Str → Option Value) (base : Heap) (k : Nat) (c qual : Str) (F : Fn) (st : Stmt) (ps : List Str) (ds : List DD.D) : Prop where
  ex : ∃ (C f : Addr) (fd : FuncData) (dvs : List V), FnOk P w K mg base (L2N.CX P w) k f fd ps (fun vs H Q E => spD K mg F vs H Q E) ∧ mg c = some (.ref C) ∧ Mk K C f ∧ FunD K "__init__" qual (defArgs st) (defBody st) (defScope st) dvs [] f fd ∧ dvs ≠ [] ∧ dvs.length = ds.length ∧ ∀ Z, RepDs K mg Z dvs ds
/-- made by n values and the keywords ks, the first r of which come last -/
structure MkKw (P : Program) (w : World) (K : PySem.W.Frag) (mg : Str → Option Value) (base : Heap) (k : Nat) (c : Str) (F : Fn) (n : Nat) (ks : List Str) (r : Nat) : Prop where
  ex : ∃ (C f : Addr) (fd : FuncData) (ps : List Str) (g : List Value → List Value → List Value), Mk K C f ∧ FnOk P w K mg base (L2N.CX P w) k f fd ps (fun vs H Q E => spD K mg F vs H Q E) ∧ mg c = some (.ref C) ∧ KBn K fd ps (n + 1) ks g (fun vs zs => vs ++ (zs.drop r ++ zs.take r))
section
variable {P : Program} {w : World} {K : PySem.W.Frag} {mg : Str → Option Value} {base : Heap}
theorem ini_def {k n N : Nat} {c qual : Str} {st : Stmt} {Ns ps : List Str} {pn : List Nat} {body : M Flow} {F : Fn} {ds : List DD.D} (h0 : IniD K mg c qual st ds) (S : FnScope Ns ps (defScope st))
    (hF : F = dFn n N pn body) (hn : ps.length = n) (hN : Ns.length = N)
    (hb : ∀ (f : Addr) (cdv : Value) (A : Around) (outer : List PySem.Env) (s : Shared) (H : Hp) (E : XK), Room k (A.deeper (envOfC qual (defScope st) s.heap.objs.size f cdv)) →
      L2N.Takes (cxOf (L2N.CX P w) P w K mg base Ns qual (defScope st) f cdv A outer s H E) (fun cls d _ H => E cls d H) →
      PSs (cxOf (L2N.CX P w) P w K mg base Ns qual (defScope st) f cdv A outer s H E) (defBody st) (tS ⟨K, mg, fun cls d _ H => E cls d H, pn, []⟩ body)) : CalI P w K mg base (k + 1) c qual F st ps ds := by
  subst hF hn hN
  obtain ⟨C, f, fd, dvs, m, M0, FD, ne, hl, rd⟩ := h0
  have hn : ps.length ≤ Ns.length := by have := congrArg List.length S.pre; rw [List.length_take] at this; omega
  refine ⟨C, f, fd, dvs, ?_, m, M0, FD, ne, hl, rd⟩
  obtain ⟨oc, od, dV, kV, doc, pm, an, cdv, ct, osl, rfl, lk, hcd, _, _⟩ := FD.ex
  refine fn_of lk hcd S (fun vs H Q E q => (body_ok (W := fun cls d _ H' => E cls d H') (fun _ _ => rfl) (fun _ _ _ _ z => z) q hn).1) fun A outer s H vs Q E hr q => ?_
  obtain ⟨hl, ht⟩ := body_ok (W := fun cls d _ H' => E cls d H') (fun _ _ => rfl) (fun _ _ _ _ z => z) q hn
  refine ⟨_, hb f cdv A outer s H E hr (L2N.takes_of rfl rfl rfl rfl), ?_⟩
  unfold L2.start
  rw [hl]
  exact ht
variable {k : Nat} {c qual : Str} {F : Fn} {st : Stmt} {ps : List Str} {ds : List DD.D}
theorem CalI.mono {j : Nat} (c0 : CalI P w K mg base j c qual F st ps ds) (h : j ≤ k) : CalI P w K mg base k c qual F st ps ds :=
  let ⟨C, f, fd, dvs, G, r⟩ := c0.ex
  ⟨C, f, fd, dvs, G.mono h, r⟩
theorem CalI.pos (c0 : CalI P w K mg base k c qual F st ps ds) (n j : Nat) (hn : n + 1 + (ds.length - j) = ps.length)
    (h : ∀ (T : Addr) (kV doc pm : Value) (an : Option Addr) (cdv ct : Value) (us its : List Value), us.length = n + 1 → its.length = ds.length →
      ∃ k, bindArgs (PySem.W.fnOf "__init__" qual (defArgs st) (defBody st) (defScope st) (.ref T) kV doc pm an cdv ct) ⟨us, []⟩ = seqItems? (.ref T) >>= k ∧ k (some its.toArray) = pure (ps.zip (us ++ its.drop j))) : MkC P w K mg base k c F (ds.drop j) := by
  obtain ⟨C, f, fd, dvs, G, m, M0, FD, ne, hl, rd⟩ := c0.ex
  obtain ⟨us, r, b⟩ := FD.binds1 (n + 1) j ne (by rw [hl]; exact hn) fun T kV doc pm an cdv ct us its h1 h2 => h T kV doc pm an cdv ct us its h1 (h2.trans hl)
  exact ⟨C, f, fd, ps, us, dvs.drop j, M0, G, m, b, r, fun Z => RepDs.drop j (rd Z)⟩
theorem CalI.kw (c0 : CalI P w K mg base k c qual F st ps ds) (n : Nat) (ks : List Str) (r : Nat)
    (h : ∀ (T : Addr) (kV doc pm : Value) (an : Option Addr) (cdv ct : Value) (us its ws : List Value), us.length = n + 1 → its.length = ds.length → ws.length = ks.length →
      ∃ k, bindArgs (PySem.W.fnOf "__init__" qual (defArgs st) (defBody st) (defScope st) (.ref T) kV doc pm an cdv ct) ⟨us, ks.zip ws⟩ = seqItems? (.ref T) >>= k ∧ k (some its.toArray) = pure (ps.zip (us ++ (ws.drop r ++ ws.take r)))) : MkKw P w K mg base k c F n ks r := by
  obtain ⟨C, f, fd, dvs, G, m, M0, FD, ne, hl, rd⟩ := c0.ex
  obtain ⟨its, b⟩ := FD.kbindsD (n + 1) ks (fun us _ ws => us ++ (ws.drop r ++ ws.take r)) ne (fun h1 _ h3 => h1.append ((h3.drop r).append (h3.take r))) fun T kV doc pm an cdv ct us its ws h1 h2 h3 => h T kV doc pm an cdv ct us its ws h1 (h2.trans hl) h3
  exact ⟨C, f, fd, ps, _, M0, G, m, b⟩
end
/-- c(.., k = ..) -/
def dMakeK (F : Fn) (c : Str) (n m r : Nat) (fs gs : M (List A)) : M A := fs.bind fun l => gs.bind fun z => if l.length = n ∧ z.length = m then (fun ρ => match F (.mi c [] [] :: (frzs l ++ ((frzs z).drop r ++ (frzs z).take r)).map .v) with
  | .ok (.v .non) (a :: _) => .ok a ρ
  | .exc e _ => .exc e ρ
  | _ => .bad) else fun _ => .bad
section
variable {X : Cx} {C : SC} {fs gs : M (List A)} {c : Str} {p pos : Pos} {e : Expr} {es : List Expr} {kws : List Keyword} {k n r m0 : Nat} {ks : List Str} {F : Fn}
theorem dka_nil : PK X [] (tA C dNil) := ⟨fun pos pins s σ H Q I ⟨b, Z, ρ, vs, as, hb, hl, S, k⟩ => pk_nil.run pos pins s σ H Q I (k _ _ [] rfl S)⟩
theorem dka_cons {f : M A} {nm : Option Str} {kpos : Pos} (ha : PE X e (tE C f)) (hr : PK X kws (tA C gs)) : PK X (⟨nm, e, kpos⟩ :: kws) (tA C (dCons f gs)) := by
  refine ⟨fun pos pins s σ H Q I h => (pk_cons ha hr).run pos pins s σ H Q I ?_⟩
  refine (Go.bindE h).mono fun x H1 ⟨u, k1⟩ => (Go.bindA k1).mono fun ws H2 ⟨l, hl, b, Z, ρ, vs, as, hb, _, S, k2⟩ => ?_
  exact k2 _ _ (x :: ws) (by simp [hl]) (by
    have S' : Sta C.K C.mg b Z H2 σ ρ (ws ++ x :: vs) (l ++ u :: as) := by simpa using S
    exact S'.rot hl)
theorem de_makeK (c0 : MkKw X.prog X.w X.K X.mg X.base k c F n ks r) (hr : Room (k + 1) X.A) (hg : Gl X c) (hK : X.K = C.K) (hM : X.mg = C.mg) (tk : L2N.Takes X C.W) (ha : PA X (e :: es) (tA C fs)) (hkw : PK X kws (tA C gs)) (hdb : (c == ("__debug__" : Str)) = false := by decide)
    (hall : (backToKw pos (keywordEach kws X.env)).all (·.1.isSome) = true := by rfl) (hks : (backToKw pos (keywordEach kws X.env)).filterMap (·.1) = ks := by rfl) (st : starEach (e :: es) X.env = (false, eval e X.env) :: starEach es X.env := by rfl)
    (pl : ((backTo pos (starEach (e :: es) X.env)).any (·.1) || (backToKw pos (keywordEach kws X.env)).any (·.1.isNone)) = false := by rfl) (hm0 : ks.length = m0 := by rfl) : PE X (.Call (.Name c p) (e :: es) kws pos) (tE C (dMakeK F c n m0 r fs gs)) := by
  subst hm0
  obtain ⟨Ci, f, fd, ps, g, M0, G, m, bd⟩ := c0.ex
  refine ⟨fun pins s σ H Q I h => ?_⟩
  refine wpAny_Call_Name_kw (ld_glob I hg m (PySem.W.callWith_KW (h₀ := X.base) I.ok.mod.kin M0.kp hall (thn (ha.run pos pins s σ H _ I (Go.bindA h)) ?_) pl st) hdb)
  rintro us s1 ⟨ws, H1, I1, r1, l, hl, k1⟩
  refine thn (hkw.run pos pins s1 σ H1 _ I1 (Go.bindA k1)) ?_
  rintro zu s2 ⟨zs, H2, I2, r2, z, hz, b0, Z, ρ, vs, as, hb, _, S, k2⟩
  split at k2
  · rename_i hlm
    rw [hks]
    refine ⟨I2.kIn, ?_⟩
    have S0 : Sta C.K C.mg b0 Z H2 σ ρ (ws ++ (zs ++ vs)) (l ++ (z ++ as)) := by
      have S1 : Sta C.K C.mg b0 Z H2 σ ρ (zs ++ (ws ++ vs)) (z ++ (l ++ as)) := by simpa using S
      exact S1.swap hz hl
    obtain ⟨Z1, _, rd1, S1⟩ := S0.freezes hl
    obtain ⟨Z2, z12, rd2, S2⟩ := S1.freezes hz
    have rd : RepDs C.K C.mg Z2 (ws ++ (zs.drop r ++ zs.take r)) (frzs l ++ ((frzs z).drop r ++ (frzs z).take r)) := RepDs.append (RepDs.mono z12 _ _ rd1) (RepDs.append (RepDs.drop r rd2) (RepDs.take r rd2))
    have sp := make_sp (Q := Q) (E := fun cls d H' => C.W cls d σ H') (F := F) S2 rd (by rw [← hM]; exact m) (by
      dsimp only at k2
      revert k2
      generalize F (.mi c [] [] :: (frzs l ++ ((frzs z).drop r ++ (frzs z).take r)).map .v) = res
      intro k2
      split at k2
      · exact k2
      · exact fun Z' H' cls d S' x => k2 Z' H' σ cls d S' x
      · exact (show False from k2).elim)
    have hq := sp (s2.heap.objs.size + 1) s2.heap.objs.size (I2.hok.fresh (Nat.le_succ _)) (I2.hok.fresh (Nat.le_refl _)) (Nat.ne_of_lt (Nat.lt_succ_self _))
    rw [← hK, ← hM] at hq
    have I3 := Inv.made (C := Ci) I2
    have e1 : (Value.ref (s2.heap.objs.size + 1) :: us).length = n + 1 := congrArg Nat.succ ((r1.length.symm.trans hl).trans hlm.1)
    have e2 : zu.length = ks.length := (r2.length.symm.trans hz).trans hlm.2
    have q1 : Vals (V.ref (s2.heap.objs.size + 1) :: ws) (Value.ref (s2.heap.objs.size + 1) :: us) := .cons rfl r1
    refine wpAny_call (make_map (f := f) I2.kIn M0.makes M0.init (beq_iff_eq.mp M0.fn) (codeAny_mono (G.run _ X.stack _ _ ⟨Value.ref (s2.heap.objs.size + 1) :: us, ks.zip zu⟩ _ _ _ (fun cls d H' => C.W cls d σ H') (hr.make Ci us (ks.zip zu)) (I3.env0.make Ci us (ks.zip zu))
      (bd.to _ (Value.ref (s2.heap.objs.size + 1) :: us) zu I3.kIn e1 e2) (bd.rel q1 r2) hq) ?_))
    intro fin s' hq'
    cases fin with
    | error er => exact L2N.passAt tk σ pins _ _ er s' I3 hq'
    | ok fl => cases fl with
      | next => exact hq'.elim
      | brk => exact hq'.elim
      | cont => exact hq'.elim
      | ret u =>
        obtain ⟨v, H', I4, rv, ev, q3⟩ := I3.after hq'
        subst ev
        exact ⟨rv, ⟨V.ref (s2.heap.objs.size + 1), H', I4, rfl, q3⟩⟩
  · exact k2.elim
end
section
variable {ρ : DEnv} {E : Ex → DEnv → Prop} {Q : A → DEnv → Prop} {QF : Flow → DEnv → Prop} {c f : Str} {e : M A} {fs gs : M (List A)} {F : Fn} {n m r i : Nat} {ds : List DD.D}
theorem w_setFld (k : Wp (e ρ) (fun a ρ1 => ∃ ks l, ρ1[i]? = some (some (.mi c ks l)) ∧ (f ∉ ks ∧ ks.length < 900) ∧ QF .nx (ρ1.set i (some (.mi c (ks ++ [f]) (l ++ [.v a.frz]))))) E) : Wp (dSetF c i f e ρ) QF E := by
  unfold dSetF
  refine wp_bind (wp_mono k (fun a ρ1 ⟨ks, l, e1, h, k1⟩ => ?_) fun _ _ z => z)
  refine Wp.mk ?_
  rw [e1]
  dsimp only
  rw [if_pos ⟨rfl, h.1, h.2⟩]
  exact k1
theorem w_attr (k : Wp (e ρ) (fun a ρ1 => Wo (attrD c f a) fun r => Q r ρ1) E) : Wp (dAttr c f e ρ) Q E := by
  unfold dAttr
  refine wp_bind (wp_mono k (fun a ρ1 ⟨x, e1, k1⟩ => ?_) fun _ _ z => z)
  refine Wp.mk ?_
  unfold ofO
  rw [e1]
  exact k1
theorem w_isOwn (k : Wp (e ρ) (fun a ρ1 => Wo (opOwn c a) fun r => Q r ρ1) E) : Wp (dIsOwn c e ρ) Q E := by
  unfold dIsOwn
  refine wp_bind (wp_mono k (fun a ρ1 ⟨x, e1, k1⟩ => ?_) fun _ _ z => z)
  refine Wp.mk ?_
  unfold ofO
  rw [e1]
  exact k1
/-- what a call of an __init__ leaves -/
def Wm (r : FR) (Q : A → Prop) (E : Ex → Prop) : Prop := Wc r (fun a l => a = .v .non ∧ ∃ x l', l = x :: l' ∧ Q x) fun e _ => E e
theorem w_make (k : Wp (fs ρ) (fun l ρ1 => Wm (F (.mi c [] [] :: (frzs l ++ ds).map .v)) (fun a => Q a ρ1) fun e => E e ρ1) E) : Wp (dMake F c fs ds ρ) Q E := by
  unfold dMake
  refine wp_bind (wp_mono k (fun l ρ1 k1 => ?_) fun _ _ z => z)
  refine Wp.mk ?_
  unfold Wm Wc at k1
  revert k1
  cases F (.mi c [] [] :: (frzs l ++ ds).map .v) with
  | bad => exact fun k1 => k1.elim
  | exc x l' => exact fun k1 => k1
  | ok a l' =>
    rintro ⟨rfl, x, l2, rfl, q⟩
    exact q
theorem w_makeK (k : Wp (fs ρ) (fun l ρ1 => Wp (gs ρ1) (fun z ρ2 => (l.length = n ∧ z.length = m) ∧ Wm (F (.mi c [] [] :: (frzs l ++ ((frzs z).drop r ++ (frzs z).take r)).map .v)) (fun a => Q a ρ2) fun e => E e ρ2) E) E) : Wp (dMakeK F c n m r fs gs ρ) Q E := by
  unfold dMakeK
  refine wp_bind (wp_mono k (fun l ρ1 k1 => wp_bind (wp_mono k1 (fun z ρ2 ⟨h, k2⟩ => ?_) fun _ _ z => z)) fun _ _ z => z)
  rw [if_pos h]
  refine Wp.mk ?_
  unfold Wm Wc at k2
  revert k2
  cases F (.mi c [] [] :: (frzs l ++ ((frzs z).drop r ++ (frzs z).take r)).map .v) with
  | bad => exact fun k1 => k1.elim
  | exc x l' => exact fun k1 => k1
  | ok a l' =>
    rintro ⟨rfl, x, l2, rfl, q⟩
    exact q
end
end DD

namespace DD
open PySem PySem.Spec L2
open PyProof.Rows hiding St
variable [LamN]
section
variable {K : PySem.W.Frag} {h : Heap} {mg : Str → Option Value} (X : K.In h) (G : h.Ns mainGlobals mg)
include X G
theorem ini_int {c qual : Str} {st : Stmt} {D0 f T : Addr} {oc kV dc pm cd ct : Value} {od an : Option Addr} {osl : Array (Option Value)} {o : Obj} {z : Int} {t : Tok} {n : Nat} (e : PySem.W.nsIn K mainGlobals c = some (some (.ref D0))) (m1 : PySem.W.makesIn K D0 = true) (m2 : PySem.W.findIn K (.ref D0) "__init__" = some (some (.ref f)))
    (m3 : PySem.W.isFn K (.ref f) = true) (m4 : PySem.W.keepIn K (.ref D0) = true) (l : K.lookup f = some ⟨oc, od, .func (PySem.W.fnOf "__init__" qual (defArgs st) (defBody st) (defScope st) (.ref T) kV dc pm an cd ct), osl⟩) (c1 : PySem.W.codeIn K cd qual = true) (k : PySem.W.keepIn K (.ref f) = true)
    (lT : K.lookup T = some o) (oT : o.data = .seq #[.int z t] n) : IniD K mg c qual st [.int z] :=
  ⟨D0, f, _, [.int z], PySem.W.mg_of X G e, ⟨m1, m2, m3, m4⟩, ⟨⟨oc, od, .ref T, kV, dc, pm, an, cd, ct, osl, rfl, l, c1, .inr ⟨by simp, T, o, [.int z t], n, rfl, lT, oT, .cons ⟨t, rfl⟩ .nil⟩, .inl rfl⟩, k⟩, by simp, rfl, fun Z => .cons (.int z) .nil⟩
theorem insC_of {c : Str} {fs : List Str} {D0 : Addr} (e : PySem.W.nsIn K mainGlobals c = some (some (.ref D0))) (q1 : PySem.W.plainGet K D0 Str.empty = true) (q2 : PySem.W.hasDictIn K D0 = true) (q3 : PySem.W.plainOver K D0 = true) (q4 : PySem.W.findIn K (.ref D0) "__setattr__" = some (some (.builtin "object.__setattr__")))
    (na : ∀ f ∈ fs, PySem.W.findIn K (.ref D0) f = some none) : InsC K mg c fs := ⟨D0, PySem.W.mg_of X G e, ⟨q1, q2, q3, q4⟩, na⟩
theorem isC_of {c : Str} {D0 : Addr} (e : PySem.W.nsIn K mainGlobals c = some (some (.ref D0))) (q1 : PySem.W.plainGet K D0 Str.empty = true) (q2 : PySem.W.hasDictIn K D0 = true) (q3 : PySem.W.plainOver K D0 = true) (q4 : PySem.W.findIn K (.ref D0) "__setattr__" = some (some (.builtin "object.__setattr__")))
    (q5 : PySem.W.findIn K (.ref D0) "__class__" = some (some (.builtin "object.__class__"))) (q6 : PySem.W.specialIn K (.builtin "object.__class__") "__get__" = some (some (.builtin "getset_descriptor.__get__"))) (q7 : PySem.W.takesIn K (.builtin "object.__class__") = some true)
    (q8 : PySem.W.mroIn K D0 (.type "object") = some true) (q9 : PySem.W.kitOne K (.ref D0) (.ref D0) = some true) (t1 : PySem.W.kitOne K (.type "NoneType") (.ref D0) = some false) (t2 : PySem.W.kitOne K (.type "bool") (.ref D0) = some false) (t3 : PySem.W.kitOne K (.type "int") (.ref D0) = some false)
    (t4 : PySem.W.kitOne K (.type "str") (.ref D0) = some false) (t5 : PySem.W.kitOne K (.type "tuple") (.ref D0) = some false) (t6 : PySem.W.kitOne K (.type "list") (.ref D0) = some false) : IsC K mg c :=
  ⟨D0, PySem.W.mg_of X G e, ⟨q1, q2, q3, q4⟩, q5, q6, q7, q8, q9, fun T hT => by
    simp only [List.mem_cons, List.not_mem_nil, or_false] at hT
    rcases hT with rfl | rfl | rfl | rfl | rfl | rfl
    · exact t1
    · exact t2
    · exact t3
    · exact t4
    · exact t5
    · exact t6⟩
end
/-- a plain def, with how it binds keywords -/
structure CalKwD (P : Program) (w : World) (K : PySem.W.Frag) (mg : Str → Option Value) (base : Heap) (k : Nat) (x : Str) (F : Fn) (n : Nat) (ks : List Str) (r : Nat) : Prop where
  ex : ∃ (f : Addr) (fd : FuncData) (ps : List Str) (g : List Value → List Value → List Value), FnOk P w K mg base CX0 k f fd ps (fun vs H Q _ => spD K mg F vs H Q fun _ _ _ => False) ∧ mg x = some (.ref f) ∧ PySem.W.keepIn K (.ref f) = true ∧ KBn K fd ps n ks g (fun vs zs => vs ++ (zs.drop r ++ zs.take r))
/-- a plain def, run; its binding not settled yet -/
structure CalF (P : Program) (w : World) (K : PySem.W.Frag) (mg : Str → Option Value) (base : Heap) (k : Nat) (x : Str) (F : Fn) (st : Stmt) (ps : List Str) : Prop where
  ex : ∃ (f : Addr) (fd : FuncData), FnOk P w K mg base CX0 k f fd ps (fun vs H Q _ => spD K mg F vs H Q fun _ _ _ => False) ∧ Def K mg x st ps f fd
section
variable {P : Program} {w : World} {K : PySem.W.Frag} {mg : Str → Option Value} {base : Heap} {k : Nat} {x : Str} {F : Fn} {st : Stmt} {ps : List Str}
theorem CalF.mono {j : Nat} (c0 : CalF P w K mg base j x F st ps) (h : j ≤ k) : CalF P w K mg base k x F st ps := let ⟨f, fd, G, d⟩ := c0.ex; ⟨f, fd, G.mono h, d⟩
theorem CalF.kw (c0 : CalF P w K mg base k x F st ps) (n : Nat) (ks : List Str) (r : Nat) (h : ∀ (kV doc pm : Value) (an : Option Addr) (cdv ct : Value) (us ws : List Value), us.length = n → ws.length = ks.length →
      bindArgs (PySem.W.fnOf x x (defArgs st) (defBody st) (defScope st) .none kV doc pm an cdv ct) ⟨us, ks.zip ws⟩ = pure (ps.zip (us ++ (ws.drop r ++ ws.take r)))) : CalKwD P w K mg base k x F n ks r := by
  obtain ⟨f, fd, G, d⟩ := c0.ex
  obtain ⟨oc, od, kV, doc, pm, an, cdv, ct, osl, rfl, _, _⟩ := d.fn.ex
  exact ⟨f, _, ps, fun us ws => us ++ (ws.drop r ++ ws.take r), G, d.m, d.fn.kp, ⟨fun s us ws _ l1 l2 => .of_eq (h _ _ _ _ _ _ us ws l1 l2), fun r1 r2 => r1.append ((r2.drop r).append (r2.take r))⟩⟩
end
section
variable {X : Cx} {C : SC} {fs gs : M (List AV)} {x : Str} {p pos : Pos} {e : Expr} {es : List Expr} {kws : List Keyword} {n k r m0 : Nat} {ks : List Str} {F : Fn}
end
end DD

namespace DD
open PySem PySem.Spec L2
open PyProof.Rows hiding St
variable [LamN]
def A.flatV : A → Bool
  | .v d => d.flat
  | _ => false
/-- all slots read as frozen, in passing: the value is a list of one's own, of flat things -/
def dBorM (f : M A) : M A := fun ρ => match f (frzE ρ) with
  | .ok (.m l) _ => if l.all A.flatV = true then .ok (.m l) ρ else .bad
  | _ => .bad
section
variable {K : PySem.W.Frag} {mg : Str → Option Value} {b : Base} {Z H : Hp} {σ : St} {ρ : DEnv} {vs : List V} {as : List A}
theorem flat_reps {Z1 Z2 H1 : Hp} : ∀ {l : List A} {xs : List V} {fl : List Addr}, l.all A.flatV = true → RepAs K mg Z1 H1 xs l fl → fl = [] ∧ ∀ H2, RepAs K mg Z2 H2 xs l []
  | [], _, _, _, h => by cases h; exact ⟨rfl, fun _ => .nil⟩
  | a :: l, _, _, hf, h => by
    rw [List.all_cons, Bool.and_eq_true] at hf
    cases h with
    | cons h1 h2 =>
      obtain ⟨e, k⟩ := flat_reps hf.2 h2
      subst e
      cases a with
      | v d =>
        cases h1 with
        | v r => exact ⟨rfl, fun H2 => .cons (f := []) (g := []) (.v (RepD.flatAny hf.1 r)) (k H2)⟩
      | m _ => exact absurd hf.1 (by simp [A.flatV])
      | mi _ _ _ => exact absurd hf.1 (by simp [A.flatV])
      | t _ => exact absurd hf.1 (by simp [A.flatV])
theorem Sta.unborM {pn : List Nat} {kn : List (Nat × V)} {σ' : St} {Z' H' : Hp} {ρ' : DEnv} {v : V} {l : List A} (S : Sta K mg b Z H σ ρ vs as) (hf : l.all A.flatV = true) (S' : Sta K mg (Base.bor H pn kn σ) Z' H' σ' ρ' [v] [.m l]) : Sta K mg b Z H' σ ρ (v :: vs) (.m l :: as) := by
  have S1 := Sta.unbor S S'
  obtain ⟨f', g', k1, k2, k3, k4, k5⟩ := S'.rep
  cases k2 with
  | @cons _ _ _ _ fa g0 r1 r2 =>
    cases r2
    cases r1 with
    | @m p xs _ fl hp rl =>
      obtain ⟨e, kk⟩ := flat_reps (Z2 := Z) hf rl
      subst e
      have fp : Fre H p := k5 p (by simp)
      have zn : Z p = none := by
        cases e : Z p with
        | none => rfl
        | some o =>
          obtain ⟨ps, rfl⟩ := fp o (S.zh _ _ e)
          exact absurd e (S.sd.nt p ps)
      obtain ⟨f, g, h1, h2, h3, h4, h5⟩ := S1.rep
      obtain ⟨f0, g0, j1, j2, j3, j4, j5⟩ := S.rep
      have hh : LamX.ExtN H H' := fun q o e n => S'.kh q o e (fun _ h => h) n
      have nf : p ∉ f0 := fun hq => by
        obtain ⟨o, z, m⟩ := j1.thereM p hq
        obtain ⟨ps, e⟩ := fp o z
        exact m.nt ps e
      have ng : p ∉ g0 := fun hq => by
        obtain ⟨o, z, m⟩ := RepAs.thereM _ _ _ j2 p hq
        obtain ⟨ps, e⟩ := fp o z
        exact m.nt ps e
      have keep : ∀ q, q ∈ f0 ∨ q ∈ g0 → H' q = H q := fun q hq => by
        rcases hq with hq | hq
        · obtain ⟨o, z, m⟩ := j1.thereM q hq
          rw [z]; exact hh q o z m.nt
        · obtain ⟨o, z, m⟩ := RepAs.thereM _ _ _ j2 q hq
          rw [z]; exact hh q o z m.nt
      refine ⟨S1.zz, S1.zh, S1.kz, S1.kh, S1.kd, S1.sd, S1.pin, S1.lw, f0, [p] ++ g0, j1.mono (Same.refl Z) (fun q hq => keep q (.inl hq)) (fun _ _ _ z => z), .cons (.m hp (kk H')) (RepAs.mono (Same.refl Z) _ _ _ (fun q hq => keep q (.inr hq)) j2), fun y => ?_, fun q hq => ?_, fun q hq => ?_⟩
      · have := j3 y
        rw [List.count_append, List.count_singleton]
        by_cases e : y = p
        · subst e
          have c1 : f0.count y = 0 := List.count_eq_zero.mpr nf
          have c2 : g0.count y = 0 := List.count_eq_zero.mpr ng
          split <;> omega
        · have : (p == y) = false := by simpa using fun z => e z.symm
          rw [this]; simp; omega
      · rcases hq with hq | hq
        · exact j4 q (.inl hq)
        · rcases List.mem_append.mp hq with hq | hq
          · rw [List.mem_singleton] at hq; subst hq; exact zn
          · exact j4 q (.inr hq)
      · rcases List.mem_append.mp hq with hq | hq
        · rw [List.mem_singleton] at hq; subst hq; exact S.kd _ fp
        · exact j5 q hq
variable {X : Cx} {C : SC} {e : Expr} {f : M A} {p : M Bool}
theorem go_borM {Q : VK} (k : tE C (dBorM f) σ H Q) : tE C f σ H Q := by
  obtain ⟨b, Z, ρ, vs, as, hb, hl, S, k⟩ := k
  refine ⟨Base.bor H b.pn b.kn σ, noT H, DD.frzE ρ, [], [], ⟨hb.pn, hb.kn⟩, rfl, Sta.bor (vs := vs) (as := as) S, ?_⟩
  unfold dBorM at k
  revert k
  cases e0 : f (DD.frzE ρ) with
  | ok a ρ' =>
    intro k
    split at k
    · rename_i d ρ2 e1
      cases e1
      split at k
      · rename_i hf
        intro Z' H' v S'
        exact k _ _ _ (Sta.unborM (vs := vs) (as := as) S hf S')
      · exact k.elim
    · exact k.elim
  | exc e ρ' => intro k; exact k.elim
  | bad => intro k; exact k.elim
end
section
variable {X : Cx} {C : SC} {elt iter tg : Expr} {ifs : List Expr} {own : List (Str × Nat)} {pos : Pos} {src : M (List D)} {g : D → M Unit} {p : M Bool} {f : M A}
theorem ds_setCompB {i : Nat} {y : Str} {py spos : Pos} {scope : Scope} (o : Bool) (hni : i ∉ C.pn) (nd : (own.map (·.2)).Nodup) (np : ∀ i ∈ own.map (·.2), i ∉ C.pn) (hc : X.calm = true) (hN : X.N.Nodup) (hy : X.N[i]? = some y) (hyl : X.env.scope.names.lookup y = some .local)
    (hsw : swapsWith (.ListComp elt [⟨tg, iter, ifs, 0⟩] scope pos) (some (.Name y py)) spos.line X.env = pure true) (hi : PI X tg iter (tI C src)) (ok : BlkOk X.N X.env.scope scope own)
    (hg : ∀ (s : Shared) (H : Hp) (D : Addr) (cl : List (Str × Addr)) (fp : List Addr), PG (X.blk s H scope (compEnvC scope cl D X.env) fp) tg (tG C.nox (own.map (·.2)) g)) (ht : ∀ (s : Shared) (H : Hp) (D : Addr) (cl : List (Str × Addr)) (fp : List Addr), PTs (X.blk s H scope (compEnvC scope cl D X.env) fp) ifs (tT C.nox p))
    (he : ∀ (s : Shared) (H : Hp) (D : Addr) (cl : List (Str × Addr)) (fp : List Addr), PE (X.blk s H scope (compEnvC scope cl D X.env) fp) elt (tE C.nox f)) (hs : ∀ x, foldedSetIterable iter X.env x = pure x := by intro _; rfl) :
    PS X (.Assign [.Name y py] (.ListComp elt [⟨tg, iter, ifs, 0⟩] scope pos) spos) (tS C (dSet o i (dBorM (dComp (own.map (·.2)) src g p f)))) := by
  refine PS.w (ps_setLc hc hN hy hyl hsw hi ok hg ht he hs) fun D σ H k => ?_
  exact go_comp nd np (go_borM ((Go.bindE k).mono fun y H1 ⟨u, k1⟩ => go_store hni k1))
end
section
variable {X : Cx} {C : SC} {i : Nat} {x : Str} {p apos cpos : Pos}
theorem Sta.clear {K : PySem.W.Frag} {mg : Str → Option Value} {b : Base} {Z H : Hp} {σ : St} {ρ : DEnv} {vs : List V} {as l : List A} (S : Sta K mg b Z H σ ρ vs as) (e : ρ[i]? = some (some (.m l))) :
    ∃ p xs, σ[i]? = some (some (.ref p)) ∧ H p = some (.lst xs) ∧ Sta K mg b Z (upd H p (.lst [])) σ (ρ.set i (some (.m []))) vs as := by
  obtain ⟨p, xs, fl, g1, e1, hp, hl, r1, r2, _, _, k⟩ := Sta.mutL (ws := []) (pa := []) S rfl e
  exact ⟨p, xs, e1, hp, k (ws' := []) (pa' := []) .nil .nil (fun y => by simp) (fun q hq => by cases hq)⟩
end
section
variable {ρ : DEnv} {E : Ex → DEnv → Prop} {f g : M A} {Q : A → DEnv → Prop} {i : Nat}
def Wflm (a : A) (P : List A → Prop) : Prop := ∃ l, a = .m l ∧ l.all A.flatV = true ∧ P l
theorem w_borM (k : Wp (f (frzE ρ)) (fun a _ => Wflm a fun l => Q (.m l) ρ) fun _ _ => False) : Wp (dBorM f ρ) Q E := by
  unfold dBorM
  revert k
  cases e0 : f (frzE ρ) with
  | ok a ρ' =>
    intro k
    obtain ⟨d, rfl, h, k⟩ := k.out
    dsimp only
    rw [if_pos h]
    exact Wp.mk k
  | exc e ρ' => intro k; exact k.out.elim
  | bad => intro k; exact k.out.elim
end
end DD

namespace DD
open PySem PySem.Spec L2
open PyProof.Rows hiding St
variable [LamN]
section
variable {K : PySem.W.Frag} {mg : Str → Option Value} {b : Base} {Z H : Hp} {σ : St} {ρ : DEnv} {vs : List V} {as l l2 : List A} {x : V} {d : DD.D} {i k k2 : Nat}
end
section
variable {X : Cx} {C : SC} {e e1 : Expr} {f g : M A} {i j : Nat} {x y : Str} {p p2 p3 pos pos' : Pos}
end
section
variable {ρ : DEnv} {E : Ex → DEnv → Prop} {f g : M A} {Q : Flow → DEnv → Prop} {i j : Nat}
end
end DD

namespace DD
open PySem PySem.Spec L2
open PyProof.Rows hiding St
variable [LamN]
section
variable {X : Cx} {C : SC} {e : Expr} {f : M A} {p p2 pos pos2 : Pos}
end
section
variable {ρ : DEnv} {E : Ex → DEnv → Prop} {f : M A} {Q : A → DEnv → Prop}
end
end DD

namespace DD
open PySem PySem.Spec L2
open PyProof.Rows hiding St
variable [LamN]
structure NumF (g : Int) (R : Type) [Lean.Grind.CommRing R] extends NumX g R where
  inv : R → R
  mi : ∀ r, r ≠ 0 → r * inv r = 1
  one0 : (1 : R) ≠ 0
  two0 : (1 : R) + 1 ≠ 0
  pz : ∀ r, r ≠ 0 → p r ≠ 0
  ov0 : g = 0 → ∀ x y, y ≠ 0 → canon 0 (p x * q y) (q x * p y) = dN (p (x * inv y)) (q (x * inv y))
  ovg : 0 < g → ∀ x y, y ≠ 0 → 0 < p y ∧ p y < g ∧ q x = 1 ∧ q (x * inv y) = 1 ∧ 0 ≤ p (x * inv y) ∧ p (x * inv y) < g ∧ (p (x * inv y) * p y).fmod g = (p x).fmod g ∧ (∀ z : Int, 0 ≤ z → z < g → (z * p y).fmod g = (p x).fmod g → z = p (x * inv y)) ∧
    (∃ z : Int, 0 ≤ z ∧ z < g ∧ (z * p y).fmod g = 1) ∧ ∀ z : Int, 0 ≤ z → z < g → (z * p y).fmod g = 1 → (p x * z).fmod g = p (x * inv y)
  Sdiv : ∀ {L m : Nat} {s : R}, 0 < L → S L m s → s ≠ 0 → ∃ M : Nat, 0 < M ∧ Bd (m + 1) (M : Int) ∧ ∀ (r : R) (n : Nat), S L n r → S M n (r * inv s)
theorem ratI {L : Int} (hL : L ≠ 0) : (L : Rat) ≠ 0 := fun h => by
  have := congrArg Rat.num h
  have e : ((L : Rat)).num = L := Rat.num_intCast L
  rw [e] at this
  exact hL this
theorem canon_neg {u d : Int} (h : d < 0) : canon 0 u d = canon 0 (-u) (-d) := by
  unfold canon cmn
  rw [if_neg (show ¬ (0 : Int) < 0 by decide), if_pos h, if_neg (show ¬ (0 : Int) < 0 by decide), if_neg (show ¬ (-d < 0) by omega), Int.neg_gcd, Int.gcd_neg, Int.mul_one, Int.mul_neg, Int.mul_one]
  have e1 := Int.neg_fdiv_neg u (-(Int.gcd u d : Int))
  have e2 := Int.neg_fdiv_neg d (-(Int.gcd u d : Int))
  rw [Int.neg_neg] at e1 e2
  rw [e1, e2]
theorem canon_rat {u d : Int} (h : d ≠ 0) : canon 0 u d = dN ((u : Rat) / (d : Rat)).num ((u : Rat) / (d : Rat)).den := by
  rcases Int.lt_or_gt_of_ne h with h1 | h1
  · rw [canon_neg h1, rat_canon (by omega)]
    have e : mkRat (-u) (-d).toNat = (u : Rat) / (d : Rat) := by
      rw [Rat.mkRat_eq_div]
      have e2 : (((-d).toNat : Nat) : Rat) = -(d : Rat) := by
        have : ((((-d).toNat : Nat) : Int) : Rat) = ((-d : Int) : Rat) := by rw [Int.toNat_of_nonneg (by omega)]
        rw [Rat.intCast_neg] at this
        exact this
      rw [e2, Rat.intCast_neg]
      have hd := ratI h
      generalize (d : Rat) = D at hd
      generalize (u : Rat) = U
      grind
    rw [e]
  · rw [rat_canon h1]
    have e : mkRat u d.toNat = (u : Rat) / (d : Rat) := by
      rw [Rat.mkRat_eq_div]
      have e2 : ((d.toNat : Nat) : Rat) = (d : Rat) := by
        have : (((d.toNat : Nat) : Int) : Rat) = ((d : Int) : Rat) := by rw [Int.toNat_of_nonneg (by omega)]
        exact this
      rw [e2]
    rw [e]
theorem rat_nd (x : Rat) : x * (x.den : Rat) = (x.num : Rat) := by
  have h : (x.den : Rat) ≠ 0 := ratL (by have := x.den_nz; omega)
  have e : (x.num : Rat) / (x.den : Rat) = x := by rw [← Rat.mkRat_eq_div]; exact Rat.mkRat_self x
  generalize (x.num : Rat) = N at e
  generalize (x.den : Rat) = D at e h
  subst e
  rw [Rat.div_def, Rat.mul_assoc, Rat.inv_mul_cancel _ h, Rat.mul_one]
def numF0 : NumF 0 Rat where
  toNumX := numX0
  inv r := r⁻¹
  mi r h := Rat.mul_inv_cancel r h
  one0 := by decide
  two0 := by decide +kernel
  pz r h := fun z => h (Rat.num_eq_zero.mp z)
  ov0 _ x y hy := by
    have hy0 : y.num ≠ 0 := fun z => hy (Rat.num_eq_zero.mp z)
    have hx := x.den_nz
    have hd : ((x.den : Int) * y.num) ≠ 0 := Int.mul_ne_zero (by omega) hy0
    show canon 0 (x.num * (y.den : Int)) ((x.den : Int) * y.num) = dN (x * y⁻¹).num (x * y⁻¹).den
    rw [canon_rat hd]
    have e : ((x.num * (y.den : Int) : Int) : Rat) / (((x.den : Int) * y.num : Int) : Rat) = x * y⁻¹ := by
      rw [Rat.intCast_mul, Rat.intCast_mul]
      have e1 : x * ((x.den : Int) : Rat) = (x.num : Rat) := rat_nd x
      have e2 : y * ((y.den : Int) : Rat) = (y.num : Rat) := rat_nd y
      have h1 : ((x.den : Int) : Rat) ≠ 0 := ratI (by omega)
      have h2 : ((y.den : Int) : Rat) ≠ 0 := ratI (by have := y.den_nz; omega)
      have h3 := ratI hd
      rw [Rat.intCast_mul, ← e2] at h3
      rw [← e1, ← e2]
      generalize ((x.den : Int) : Rat) = D at h1 h3
      generalize ((y.den : Int) : Rat) = F at h2 h3
      clear e1 e2 hd hx hy0
      rw [Rat.div_def]
      have k := Rat.mul_inv_cancel _ h3
      have k2 := Rat.mul_inv_cancel _ hy
      generalize (D * (y * F))⁻¹ = I at k ⊢
      generalize y⁻¹ = J at k2 ⊢
      have : x * D * F * I = x * (D * (y * F) * I) * J := by
        have : x * (D * (y * F) * I) * J = x * D * F * I * (y * J) := by grind
        rw [this, k2, Rat.mul_one]
      rw [this, k, Rat.mul_one]
    rw [e]
  ovg h := absurd h (by decide)
  Sdiv := by
    rintro L m s hL ⟨b, hb, e⟩ hs
    have hL' := ratL hL
    have hb0 : b ≠ 0 := fun z => by
      subst z
      apply hs
      have e : s * (L : Rat) = 0 := e
      grind
    refine ⟨b.natAbs, by omega, ?_, ?_⟩
    · unfold Bd at hb ⊢
      rw [Int.natAbs_natCast, Nat.pow_succ]
      omega
    · rintro r n ⟨a, ha, ea⟩
      have key : r * s⁻¹ * (b : Rat) = (a : Rat) := by rw [← ea, ← e]; grind
      rcases Int.natAbs_eq b with h | h
      · refine ⟨a, ha, ?_⟩
        have : ((b.natAbs : Nat) : Rat) = (b : Rat) := by
          have : (((b.natAbs : Nat) : Int) : Rat) = (b : Rat) := by rw [← h]
          exact this
        rw [this]; exact key
      · refine ⟨-a, ha.neg, ?_⟩
        have : ((b.natAbs : Nat) : Rat) = -(b : Rat) := by
          have : (((b.natAbs : Nat) : Int) : Rat) = -(b : Rat) := by
            rw [← Rat.intCast_neg]
            congr 1
            omega
          exact this
        rw [this, Rat.intCast_neg, ← key]
        grind
/-- over an odd prime -/
def numFF (n : Nat) [NeZero n] (hn : 3 ≤ n) (h13 : n ≤ 13) (iv : _root_.Fin n → _root_.Fin n) (h1 : ∀ r : _root_.Fin n, r ≠ 0 → r * iv r = 1)
    (h2 : ∀ x y z : _root_.Fin n, y ≠ 0 → z * y = x → z = x * iv y) : NumF (n : Int) (_root_.Fin n) where
  toNumX := numXF n (by omega) h13
  inv := iv
  mi := h1
  one0 := fun h => by
    have := congrArg Fin.val h
    have e : (1 : _root_.Fin n).val = 1 % n := rfl
    have e0 : (0 : _root_.Fin n).val = 0 := rfl
    rw [e, e0, Nat.mod_eq_of_lt (by omega)] at this
    omega
  two0 := fun h => by
    have := congrArg Fin.val h
    have e : (1 : _root_.Fin n).val = 1 := by
      show 1 % n = 1
      rw [Nat.mod_eq_of_lt (by omega)]
    have e0 : (0 : _root_.Fin n).val = 0 := rfl
    rw [Fin.val_add, e, e0, Nat.mod_eq_of_lt (by omega)] at this
    omega
  pz r h := fun z => h (Fin.ext (by
    have z : (r.val : Int) = 0 := z
    show r.val = 0
    omega))
  ov0 h := by omega
  ovg _ x y hy := by
    have hy1 : 0 < y.val := by
      rcases Nat.eq_zero_or_pos y.val with h | h
      · exact absurd (Fin.ext h) hy
      · exact h
    have hy2 := y.isLt
    have hx := x.isLt
    have hz := (x * iv y).isLt
    have fm : ∀ a b : _root_.Fin n, ((a.val : Int) * (b.val : Int)).fmod (n : Int) = ((a * b).val : Int) := fun a b => by
      rw [Int.fmod_eq_emod_of_nonneg _ (by omega), Fin.val_mul, Int.natCast_emod, Int.natCast_mul]
    have fx : ∀ a : _root_.Fin n, (a.val : Int).fmod (n : Int) = (a.val : Int) := fun a => Int.fmod_eq_of_lt (by omega) (by have := a.isLt; omega)
    have toF : ∀ z : Int, 0 ≤ z → z < (n : Int) → ∃ a : _root_.Fin n, z = (a.val : Int) := fun z h1 h2 => ⟨⟨z.toNat, by omega⟩, by show z = ((z.toNat : Nat) : Int); omega⟩
    have one : ((1 : _root_.Fin n).val : Int) = 1 := by
      show ((1 % n : Nat) : Int) = 1
      rw [Nat.mod_eq_of_lt (by omega)]
      rfl
    have cancel : x * iv y * y = x := by
      have := h1 y hy
      grind
    refine ⟨by show (0 : Int) < (y.val : Int); omega, by show (y.val : Int) < n; omega, rfl, rfl, Int.natCast_nonneg _, Int.ofNat_lt.mpr hz, ?_, fun z z1 z2 e => ?_, ⟨(iv y).val, by omega, by have := (iv y).isLt; omega, ?_⟩, fun z z1 z2 e => ?_⟩
    · show (((x * iv y).val : Int) * (y.val : Int)).fmod (n : Int) = (x.val : Int).fmod (n : Int)
      rw [fm, fx, cancel]
    · obtain ⟨a, rfl⟩ := toF z z1 z2
      have e : ((a.val : Int) * (y.val : Int)).fmod (n : Int) = (x.val : Int).fmod (n : Int) := e
      rw [fm, fx] at e
      have := h2 x y a hy (Fin.ext (by omega))
      rw [← this]
      rfl
    · show (((iv y).val : Int) * (y.val : Int)).fmod (n : Int) = 1
      have : iv y * y = 1 := by have := h1 y hy; grind
      rw [fm, this, one]
    · obtain ⟨a, rfl⟩ := toF z z1 z2
      have e : ((a.val : Int) * (y.val : Int)).fmod (n : Int) = 1 := e
      rw [fm] at e
      have ea := h2 1 y a hy (Fin.ext (by omega))
      show ((x.val : Int) * (a.val : Int)).fmod (n : Int) = ((x * iv y).val : Int)
      rw [fm, ea]
      have : x * (1 * iv y) = x * iv y := by grind
      rw [this]
  Sdiv := fun {L m s} _ _ _ => ⟨1, by decide, Bd.one (by omega), fun _ _ _ => trivial⟩
def Grd (g : Int) : Prop := g = 0 ∨ g = 3 ∨ g = 5 ∨ g = 7 ∨ g = 11 ∨ g = 13
theorem numF_of {g : Int} (h : Grd g) : ∃ (R : Type) (_ : Lean.Grind.CommRing R), Nonempty (NumF g R) := by
  rcases h with rfl | rfl | rfl | rfl | rfl | rfl
  · exact ⟨Rat, inferInstance, ⟨numF0⟩⟩
  · exact ⟨_root_.Fin 3, inferInstance, ⟨numFF 3 (by decide) (by decide) (fun r => r) (by decide) (by decide)⟩⟩
  · exact ⟨_root_.Fin 5, inferInstance, ⟨numFF 5 (by decide) (by decide) (fun r => r * r * r) (by decide) (by decide)⟩⟩
  · exact ⟨_root_.Fin 7, inferInstance, ⟨numFF 7 (by decide) (by decide) (fun r => r * r * r * r * r) (by decide) (by decide)⟩⟩
  · exact ⟨_root_.Fin 11, inferInstance, ⟨numFF 11 (by decide) (by decide) (fun r => r * r * r * r * r * r * r * r * r) (by decide) (by decide +kernel)⟩⟩
  · exact ⟨_root_.Fin 13, inferInstance, ⟨numFF 13 (by decide) (by decide) (fun r => r * r * r * r * r * r * r * r * r * r * r) (by decide) (by decide +kernel)⟩⟩
section
variable {g : Int} {R : Type} [Lean.Grind.CommRing R] (N : NumF g R)
abbrev NumF.nm (r : R) : D := N.toNumX.nm r
abbrev NumF.B (n : Nat) (r : R) : Prop := N.toNumX.B n r
end
end DD

namespace DD
section
variable {R : Type} [Lean.Grind.CommRing R]
def sm : Nat → (Nat → R) → R
  | 0, _ => 0
  | n + 1, f => sm n f + f n
variable {n m : Nat} {f f' h : Nat → R} {c : R}
theorem sm_congr : ∀ {n : Nat}, (∀ i, i < n → f i = f' i) → sm n f = sm n f'
  | 0, _ => rfl
  | n + 1, e => by
    show sm n f + f n = sm n f' + f' n
    rw [sm_congr fun i hi => e i (by omega), e n (by omega)]
theorem sm_zero : ∀ {n : Nat}, (∀ i, i < n → f i = 0) → sm n f = 0
  | 0, _ => rfl
  | n + 1, e => by
    show sm n f + f n = 0
    rw [sm_zero fun i hi => e i (by omega), e n (by omega)]
    grind
theorem sm_add : ∀ {n : Nat}, sm n (fun i => f i + h i) = sm n f + sm n h
  | 0 => by show (0 : R) = 0 + 0; grind
  | n + 1 => by
    show sm n (fun i => f i + h i) + (f n + h n) = sm n f + f n + (sm n h + h n)
    rw [sm_add]
    grind
theorem sm_mulr : ∀ {n : Nat}, sm n (fun i => f i * c) = sm n f * c
  | 0 => by show (0 : R) = 0 * c; grind
  | n + 1 => by
    show sm n (fun i => f i * c) + f n * c = (sm n f + f n) * c
    rw [sm_mulr]
    grind
theorem sm_mull : sm n (fun i => c * f i) = c * sm n f := by
  have e : (fun i => c * f i) = fun i => f i * c := by funext i; grind
  rw [e, sm_mulr]
  grind
theorem sm_comm {F : Nat → Nat → R} : ∀ {n m : Nat}, sm n (fun i => sm m fun j => F i j) = sm m fun j => sm n fun i => F i j
  | 0, m => by
    show (0 : R) = sm m fun j => 0
    rw [sm_zero fun _ _ => rfl]
  | n + 1, m => by
    show sm n (fun i => sm m fun j => F i j) + sm m (fun j => F n j) = sm m fun j => sm n (fun i => F i j) + F n j
    rw [sm_comm, ← sm_add]
theorem sm_one {k : Nat} : ∀ {n : Nat}, k < n → (∀ i, i < n → i ≠ k → f i = 0) → sm n f = f k
  | 0, hk, _ => by omega
  | n + 1, hk, e => by
    show sm n f + f n = f k
    by_cases hn : k = n
    · subst hn
      rw [sm_zero fun i hi => e i (by omega) (by omega)]
      grind
    · rw [sm_one (n := n) (by omega) fun i hi h => e i (by omega) h, e n (by omega) (fun z => hn z.symm)]
      grind
theorem sm_head : ∀ {n : Nat}, sm (n + 1) f = f 0 + sm n (fun i => f (i + 1))
  | 0 => by show (0 : R) + f 0 = f 0 + 0; grind
  | n + 1 => by
    show sm (n + 1) f + f (n + 1) = f 0 + (sm n (fun i => f (i + 1)) + f (n + 1))
    rw [sm_head]
    grind
theorem sm_fold : ∀ {n : Nat} {a : R}, (List.range n).foldl (fun s i => s + f i) a = a + sm n f
  | 0, a => by show a = a + 0; grind
  | n + 1, a => by
    rw [List.range_succ, List.foldl_append, sm_fold]
    show a + sm n f + f n = a + (sm n f + f n)
    grind

variable {T : Nat → Nat → R} {x y z r a b : Nat → R}
/-- the product of two rows -/
def bil (m : Nat) (T : Nat → Nat → R) (x y : Nat → R) : R := sm m fun j => (sm m fun k => x k * T k j) * y j
theorem bil_congr {x' y' : Nat → R} (hx : ∀ i, i < m → x i = x' i) (hy : ∀ i, i < m → y i = y' i) : bil m T x y = bil m T x' y' :=
  sm_congr fun j hj => by rw [hy j hj, sm_congr fun k hk => by rw [hx k hk]]
def Sym (m : Nat) (T : Nat → Nat → R) : Prop := ∀ i j, i < m → j < m → T i j = T j i
/-- the mirror by r, c standing for minus two over its worth -/
def mirF (m : Nat) (T : Nat → Nat → R) (r : Nat → R) (c : R) (x : Nat → R) : Nat → R := fun j => x j + r j * (c * bil m T x r)
/-- only nought is led to nought: the rows t, of n numbers each -/
def KerL (n : Nat) (t : List (List R)) : Prop := ∀ v : Nat → R, (∀ row ∈ t, sm n (fun j => row.getD j 0 * v j) = 0) → ∀ j, j < n → v j = 0
variable {iv : R → R} (mi : ∀ r : R, r ≠ 0 → r * iv r = 1)
/-- a row less the head's multiple, its first number dropped -/
def stepR (iv : R → R) (head row : List R) : List R := (List.zipWith (· + ·) row (head.map fun u => u * -(row.getD 0 0 * iv (head.getD 0 0)))).drop 1
theorem stepR_len {head row : List R} (h1 : head.length = n + 1) (h2 : row.length = n + 1) : (stepR iv head row).length = n := by
  unfold stepR
  simp [h1, h2]
theorem stepR_get {head row : List R} {j : Nat} (h1 : head.length = n + 1) (h2 : row.length = n + 1) (hj : j < n) : (stepR iv head row).getD j 0 = row.getD (j + 1) 0 + head.getD (j + 1) 0 * -(row.getD 0 0 * iv (head.getD 0 0)) := by
  unfold stepR
  simp only [List.getD_eq_getElem?_getD, List.getElem?_drop, List.getElem?_zipWith, List.getElem?_map]
  rw [Nat.add_comm 1 j, List.getElem?_eq_getElem (by omega : j + 1 < row.length), List.getElem?_eq_getElem (by omega : j + 1 < head.length)]
  simp
include mi in
theorem ker_step {t : List (List R)} {k : Nat} {head : List R} (ht : ∀ l ∈ t, l.length = n + 1) (hk : t[k]? = some head) (h0 : head.getD 0 0 ≠ 0) (h : KerL (n + 1) t) : KerL n ((t.eraseIdx k).map (stepR iv head)) := by
  intro v hv
  have hm := List.mem_of_getElem? hk
  have hl := ht _ hm
  have hmi := mi _ h0
  let w : Nat → R := fun j => match j with
    | 0 => -(sm n fun j => head.getD (j + 1) 0 * v j) * iv (head.getD 0 0)
    | j + 1 => v j
  have hw : ∀ row ∈ t, sm (n + 1) (fun j => row.getD j 0 * w j) = 0 := by
    intro row hr
    rw [sm_head]
    show row.getD 0 0 * (-(sm n fun j => head.getD (j + 1) 0 * v j) * iv (head.getD 0 0)) + sm n (fun i => row.getD (i + 1) 0 * v i) = 0
    have hh : row = head ∨ row ∈ t.eraseIdx k := by
      obtain ⟨i, hi, e⟩ := List.getElem_of_mem hr
      by_cases hik : i = k
      · subst hik
        rw [List.getElem?_eq_getElem hi, e] at hk
        exact .inl (Option.some.inj hk)
      · exact .inr (List.mem_eraseIdx_iff_getElem?.mpr ⟨i, hik, by rw [List.getElem?_eq_getElem hi, e]⟩)
    rcases hh with rfl | hh
    · generalize sm n (fun i => row.getD (i + 1) 0 * v i) = s
      grind
    · have e := hv _ (List.mem_map_of_mem hh)
      have hrl := ht _ hr
      have e2 : sm n (fun j => (stepR iv head row).getD j 0 * v j) = sm n (fun i => row.getD (i + 1) 0 * v i) + sm n (fun j => head.getD (j + 1) 0 * v j) * -(row.getD 0 0 * iv (head.getD 0 0)) := by
        rw [← sm_mulr, ← sm_add]
        exact sm_congr fun j hj => by rw [stepR_get hl hrl hj]; grind
      rw [e2] at e
      generalize sm n (fun i => row.getD (i + 1) 0 * v i) = s at e ⊢
      generalize sm n (fun j => head.getD (j + 1) 0 * v j) = s2 at e ⊢
      grind
  intro j hj
  exact h w hw (j + 1) (by omega)
/-- not all rows begin with nought -/
theorem ker_head {t : List (List R)} (h1 : (1 : R) ≠ 0) (h : KerL (n + 1) t) : ∃ (k : Nat) (head : List R), t[k]? = some head ∧ head.getD 0 0 ≠ 0 := by
  refine Classical.byContradiction fun no => ?_
  have hz : ∀ row ∈ t, row.getD 0 0 = 0 := fun row hr => by
    obtain ⟨i, hi, e⟩ := List.getElem_of_mem hr
    refine Classical.byContradiction fun z => no ⟨i, row, by rw [List.getElem?_eq_getElem hi, e], z⟩
  have := h (fun j => if j = 0 then 1 else 0) (fun row hr => by
    rw [sm_head]
    have e1 : sm n (fun i => row.getD (i + 1) 0 * (if i + 1 = 0 then (1 : R) else 0)) = 0 := sm_zero fun i _ => by rw [if_neg (by omega)]; grind
    rw [e1, hz row hr, if_pos rfl]
    grind) 0 (by omega)
  rw [if_pos rfl] at this
  exact h1 this
end
end DD

namespace DD
variable [LamN]
section
variable {R : Type} [Lean.Grind.CommRing R]
variable {n m : Nat}
def vc (l : List R) : Nat → R := fun j => l.getD j 0
def tb (t : List (List R)) : Nat → Nat → R := fun i j => (t.getD i []).getD j 0
def SqT_ (m : Nat) (t : List (List R)) : Prop := t.length = m ∧ ∀ l ∈ t, l.length = m
theorem vc_ext {l k : List R} (h1 : l.length = m) (h2 : k.length = m) (e : ∀ j, j < m → vc l j = vc k j) : l = k := by
  refine List.ext_getElem (by omega) fun j a b => ?_
  have := e j (by omega)
  unfold vc at this
  rwa [getD_at a, getD_at b] at this
theorem vc_map {f : Nat → R} {j : Nat} (hj : j < m) : vc ((List.range m).map f) j = f j := by
  unfold vc
  rw [getD_at (by simpa using hj)]
  simp
theorem tb_map {f : Nat → List R} {i : Nat} (hi : i < m) : tb ((List.range m).map f) i = vc (f i) := by
  funext j
  unfold tb vc
  congr 1
  rw [getD_at (by simpa using hi)]
  simp
theorem tb_mapT {f : List R → List R} {t : List (List R)} {i : Nat} (hi : i < t.length) : tb (t.map f) i = vc (f (t.getD i [])) := by
  funext j
  unfold tb vc
  congr 1
  rw [getD_at (by simpa using hi), getD_at hi]
  simp
theorem tb_row {t : List (List R)} {i : Nat} (hi : i < t.length) : tb t i = vc (t.getD i []) := rfl
theorem row_mem {t : List (List R)} {i : Nat} (hi : i < t.length) : t.getD i [] ∈ t := by
  rw [getD_at hi]
  exact List.getElem_mem hi
theorem cel_sm {x : List R} {t : List (List R)} {j : Nat} : cel x t j = sm t.length fun k => vc x k * tb t k j := by
  unfold cel
  rw [List.foldl_map, sm_fold]
  show 0 + sm t.length (fun k => vc x k * tb t k j) = _
  grind
theorem thr_vc {x : List R} {t : List (List R)} {j : Nat} (hx : x.length = t.length) (ht : ∀ l ∈ t, l.length = m) (hj : j < m) : vc (thr m x t) j = sm t.length fun k => vc x k * tb t k j := by
  rw [thr_cel hx ht, vc_map hj, cel_sm]
/-- the product of two rows, number by number -/
def dotF (a b : List R) : R := (a.zip b).foldl (fun s p => s + p.1 * p.2) 0
theorem dotF_sm {a b : List R} (ha : a.length = m) (hb : b.length = m) : dotF a b = sm m fun j => vc a j * vc b j := by
  have e : a.zip b = (List.range m).map fun j => (vc a j, vc b j) := by
    refine List.ext_getElem (by simp [ha, hb]) fun j h1 h2 => ?_
    have hj : j < m := by simpa using h2
    rw [List.getElem_zip, List.getElem_map, List.getElem_range]
    unfold vc
    rw [getD_at (by omega), getD_at (by omega)]
  unfold dotF
  rw [e, List.foldl_map, sm_fold]
  grind
/-- by a table -/
def bl (m : Nat) (t : List (List R)) (x y : List R) : R := dotF (thr m x t) y
theorem bl_bil {t : List (List R)} {x y : List R} (ht : SqT_ m t) (hx : x.length = m) (hy : y.length = m) : bl m t x y = bil m (tb t) (vc x) (vc y) := by
  unfold bl bil
  rw [dotF_sm (thr_len ht.2) hy]
  exact sm_congr fun j hj => by rw [thr_vc (hx.trans ht.1.symm) ht.2 hj, ht.1]
def eL (m i : Nat) : List R := (List.range m).map fun j => if i = j then 1 else 0
def onesL (m : Nat) : List (List R) := (List.range m).map (eL m)
theorem eL_len {i : Nat} : (eL m i : List R).length = m := by simp [eL]
theorem eL_vc {i j : Nat} (hj : j < m) : vc (eL m i : List R) j = if i = j then 1 else 0 := vc_map hj
theorem onesT : SqT_ m (onesL m : List (List R)) := ⟨by simp [onesL], fun l hl => by
  obtain ⟨i, _, rfl⟩ := List.mem_map.mp hl
  exact eL_len⟩
/-- the mirror by a row, of rows -/
def mirL (m : Nat) (t : List (List R)) (c : R) (r x : List R) : List R := (List.range m).map (mirF m (tb t) (vc r) c (vc x))
theorem bil_lin {T : Nat → Nat → R} {x y : Nat → R} : bil m T x y = sm m fun k => x k * sm m fun j => T k j * y j := by
  unfold bil
  have e1 : (sm m fun j => (sm m fun k => x k * T k j) * y j) = sm m fun j => sm m fun k => x k * T k j * y j := sm_congr fun j _ => sm_mulr.symm
  rw [e1, sm_comm]
  exact sm_congr fun k _ => by rw [← sm_mull]; exact sm_congr fun j _ => by grind
structure FormT (m : Nat) (t : List (List R)) : Prop where
  isT : SqT_ m t
  sym : Sym m (tb t)
  ker : KerL m t
theorem FormT.trn {t : List (List R)} (h : FormT m t) : trn m t = t := by
  unfold DD.trn
  refine List.ext_getElem (by simp [h.isT.1]) fun i h1 h2 => ?_
  have hi : i < m := by simpa using h1
  rw [List.getElem_map, List.getElem_range]
  have hl := h.isT.2 _ (List.getElem_mem h2)
  refine List.ext_getElem (by simp [h.isT.1, hl]) fun j g1 g2 => ?_
  rw [List.getElem_map]
  have hj : j < m := by omega
  have := h.sym j i hj hi
  unfold tb at this
  have hjt : j < t.length := by rw [h.isT.1]; exact hj
  have hit : i < t.length := by rw [h.isT.1]; exact hi
  rw [getD_at hjt, getD_at hit, getD_at (by omega : j < t[i].length)] at this
  exact this
theorem ker_iff {t : List (List R)} (ht : SqT_ m t) : KerL m t ↔ ∀ v : Nat → R, (∀ i, i < m → sm m (fun j => tb t i j * v j) = 0) → ∀ j, j < m → v j = 0 := by
  constructor
  · intro h v hv j hj
    refine h v (fun row hr => ?_) j hj
    obtain ⟨i, hi, e⟩ := List.getElem_of_mem hr
    have := hv i (by rw [← ht.1]; exact hi)
    unfold tb at this
    rw [getD_at hi, e] at this
    exact this
  · intro h v hv j hj
    refine h v (fun i hi => ?_) j hj
    have hi' : i < t.length := by rw [ht.1]; exact hi
    exact hv _ (row_mem hi')
/-- a diagonal table -/
def diagL (m : Nat) (d : Nat → R) : List (List R) := (List.range m).map fun i => (List.range m).map fun j => if i = j then d i else 0
theorem diag_T {d : Nat → R} : SqT_ m (diagL m d) := ⟨by simp [diagL], fun l hl => by
  obtain ⟨i, _, rfl⟩ := List.mem_map.mp hl
  simp⟩
theorem diag_tb {d : Nat → R} {i j : Nat} (hi : i < m) (hj : j < m) : tb (diagL m d) i j = if i = j then d i else 0 := by
  unfold diagL
  rw [tb_map hi, vc_map hj]
variable {iv : R → R} (mi : ∀ r : R, r ≠ 0 → r * iv r = 1)
include mi in
theorem diag_form {d : Nat → R} (hd : ∀ i, i < m → d i ≠ 0) : FormT m (diagL m d) := ⟨diag_T, fun i j hi hj => by
  rw [diag_tb hi hj, diag_tb hj hi]
  by_cases e : i = j
  · rw [e]
  · rw [if_neg e, if_neg fun z => e z.symm], (ker_iff diag_T).mpr fun v hv j hj => by
  have := hv j hj
  rw [sm_one hj fun i hi h => by rw [diag_tb hj hi, if_neg fun z => h z.symm]; grind, diag_tb hj hj, if_pos rfl] at this
  have h1 := mi _ (hd j hj)
  generalize d j = a at this h1
  grind⟩
end
end DD

namespace DD
open PySem PySem.Spec L2
open PyProof.Rows hiding St
variable [LamN]
section
variable {g : Int} {R : Type} [Lean.Grind.CommRing R] {N : NumF g R} {L K M n m k j h : Nat} {r s c : R} {x y : List R} {t : List (List R)}
theorem NumF.sle (h : N.S L n r) (k : n ≤ m) : N.S L m r := by
  rcases Nat.lt_or_ge n m with h1 | h1
  · exact NumX.smono (N := N.toNumX) h h1
  · have : n = m := by omega
    exact this ▸ h
theorem NumF.sscale (h : N.S L n r) (hk : Bd k (K : Int)) : N.S (L * K) (n + k) r := by
  have := N.Smul h (N.Sone (L := K) hk)
  have e : r * 1 = r := by grind
  rwa [e] at this
theorem NumF.smone : N.S 1 1 (-1 : R) := N.Sex (u := -1) (d := 1) N.mone (by decide) (by decide) (by decide) (by unfold Bd; decide)
theorem NumF.sneg (h : N.S L n r) : N.S L (n + 1) (-r) := by
  have := N.Smul h (N.smone)
  have e : r * -1 = -r := by grind
  rwa [e, Nat.mul_one] at this
/-- a number with its bottom -/
structure Zn (N : NumF g R) (L k : Nat) (r : R) : Prop where
  s : N.S L k r
  pos : 0 < L
  bd : Bd k (L : Int)
theorem Zn.up (h : Zn N L k r) (j : k ≤ n) : Zn N L n r := ⟨NumF.sle h.s j, h.pos, h.bd.mono j⟩
theorem Zn.B (h : Zn N L k r) (h4 : 4 ≤ n) (j : k ≤ n) : N.B n r := NumX.S_B (N := N.toNumX) h.pos h.s (h.bd.mono j) j h4
theorem bdm {a b : Nat} (h1 : Bd k (a : Int)) (h2 : Bd j (b : Int)) : Bd (k + j) ((a * b : Nat) : Int) := by
  rw [Int.natCast_mul]; exact h1.mul h2
theorem Zn.mul (h : Zn N L k r) (i : Zn N K j s) : Zn N (L * K) (k + j) (r * s) := ⟨N.Smul h.s i.s, Nat.mul_pos h.pos i.pos, bdm h.bd i.bd⟩
theorem Zn.add (h : Zn N L k r) (i : Zn N L k s) : Zn N L (k + 1) (r + s) := ⟨by
  have := N.Sadd h.s i.s
  rwa [Nat.max_self] at this, h.pos, h.bd.mono (by omega)⟩
theorem Zn.neg (h : Zn N L k r) : Zn N L (k + 1) (-r) := ⟨NumF.sneg h.s, h.pos, h.bd.mono (by omega)⟩
theorem Zn.scale (h : Zn N L k r) (p : 0 < K) (hk : Bd j (K : Int)) : Zn N (L * K) (k + j) r := ⟨NumF.sscale h.s hk, Nat.mul_pos h.pos p, bdm h.bd hk⟩
/-- any two -/
theorem Zn.addx (h : Zn N L k r) (i : Zn N K j s) : Zn N (L * K) (k + j + 1) (r + s) := by
  have h1 := h.scale i.pos i.bd
  have h2 := i.scale h.pos h.bd
  rw [Nat.mul_comm K L, Nat.add_comm j k] at h2
  exact h1.add h2
theorem Zn.inv (h : Zn N L k s) (h0 : s ≠ 0) : ∃ M : Nat, 0 < M ∧ Bd (k + 1) (M : Int) ∧ ∀ r, Zn N L n r → k + 1 ≤ n → Zn N M n (r * N.inv s) := by
  obtain ⟨M, m0, mb, q⟩ := N.Sdiv h.pos h.s h0
  exact ⟨M, m0, mb, fun r hr hn => ⟨q r n hr.s, m0, mb.mono hn⟩⟩
theorem Zn.zero : Zn N 1 1 (0 : R) := ⟨N.Szero _ _, by decide, Bd.one (by decide)⟩
theorem Zn.one : Zn N 1 1 (1 : R) := ⟨N.Sone (Bd.one (by decide)), by decide, Bd.one (by decide)⟩
/-- a row -/
structure Rw (N : NumF g R) (m L k : Nat) (l : List R) : Prop where
  len : l.length = m
  s : ∀ r ∈ l, N.S L k r
  pos : 0 < L
  bd : Bd k (L : Int)
theorem Rw.up (h : Rw N m L k x) (j : k ≤ n) : Rw N m L n x := ⟨h.len, fun r hr => NumF.sle (h.s r hr) j, h.pos, h.bd.mono j⟩
theorem Rw.z (h : Rw N m L k x) (hr : r ∈ x) : Zn N L k r := ⟨h.s r hr, h.pos, h.bd⟩
theorem Rw.B (h : Rw N m L k x) (h4 : 4 ≤ n) (j : k ≤ n) : ∀ r ∈ x, N.B n r := fun r hr => (h.z hr).B h4 j
theorem Rw.of (hl : x.length = m) (p : 0 < L) (b : Bd k (L : Int)) (h : ∀ r ∈ x, N.S L k r) : Rw N m L k x := ⟨hl, h, p, b⟩
theorem Rw.vc (h : Rw N m L k x) (i : Nat) : Zn N L k (vc x i) := by
  unfold DD.vc
  by_cases hi : i < x.length
  · rw [getD_at hi]
    exact h.z (List.getElem_mem hi)
  · have : x.getD i 0 = 0 := by rw [List.getD_eq_getElem?_getD, List.getElem?_eq_none (by omega)]; rfl
    rw [this]
    exact ⟨N.Szero _ _, h.pos, h.bd⟩
theorem Rw.scale (h : Rw N m L k x) (p : 0 < K) (hk : Bd j (K : Int)) : Rw N m (L * K) (k + j) x := ⟨h.len, fun r hr => NumF.sscale (h.s r hr) hk, Nat.mul_pos h.pos p, bdm h.bd hk⟩
theorem Rw.mulc (h : Rw N m L k x) (i : Zn N K j c) : Rw N m (L * K) (k + j) (x.map fun r => r * c) := ⟨by rw [List.length_map]; exact h.len, fun r hr => by
  obtain ⟨a, ha, rfl⟩ := List.mem_map.mp hr
  exact N.Smul (h.s a ha) i.s, Nat.mul_pos h.pos i.pos, bdm h.bd i.bd⟩
theorem Rw.addr (h : Rw N m L k x) (i : Rw N m L k y) : Rw N m L (k + 1) (List.zipWith (· + ·) x y) := ⟨by rw [List.length_zipWith, h.len, i.len, Nat.min_self], fun r hr => by
  obtain ⟨a, ha, b, hb, e⟩ : ∃ a ∈ x, ∃ b ∈ y, r = a + b := by
    obtain ⟨i, hi, e⟩ := List.getElem_of_mem hr
    rw [List.getElem_zipWith] at e
    exact ⟨_, List.getElem_mem _, _, List.getElem_mem _, e.symm⟩
  subst e
  have := N.Sadd (h.s a ha) (i.s b hb)
  rwa [Nat.max_self] at this, h.pos, h.bd.mono (by omega)⟩
/-- a table -/
structure Tw (N : NumF g R) (h m L k : Nat) (t : List (List R)) : Prop where
  len : t.length = h
  r : ∀ l ∈ t, Rw N m L k l
  pos : 0 < L
  bd : Bd k (L : Int)
theorem Tw.up (i : Tw N h m L k t) (j : k ≤ n) : Tw N h m L n t := ⟨i.len, fun l hl => (i.r l hl).up j, i.pos, i.bd.mono j⟩
theorem Tw.sq (i : Tw N m m L k t) : SqT_ m t := ⟨i.len, fun l hl => (i.r l hl).len⟩
/-- sums in passing -/
theorem fold_Z {α : Type} {f : α → R} : ∀ {ps : List α} {acc : R} {n : Nat}, (∀ p ∈ ps, Zn N L k (f p)) → Zn N L n acc → k ≤ n → Zn N L (n + ps.length) (ps.foldl (fun s p => s + f p) acc)
  | [], _, _, _, ha, _ => ha
  | p :: ps, acc, n, h, ha, hk => by
    have := fold_Z (ps := ps) (n := n + 1) (fun q hq => h q (List.mem_cons_of_mem _ hq)) (ha.add ((h p (by simp)).up hk)) (by omega)
    rw [List.foldl_cons, List.length_cons, show n + (ps.length + 1) = n + 1 + ps.length by omega]
    exact this
theorem thr_Z (hx : Rw N h L k x) (ht : Tw N h m K j t) : Rw N m (L * K) (k + j + h) (thr m x t) := by
  refine ⟨thr_len fun l hl => (ht.r l hl).len, fun r hr => ?_, Nat.mul_pos hx.pos ht.pos, (bdm hx.bd ht.bd).mono (by omega)⟩
  rw [thr_cel (hx.len.trans ht.len.symm) fun l hl => (ht.r l hl).len] at hr
  obtain ⟨q, _, rfl⟩ := List.mem_map.mp hr
  unfold cel
  rw [List.foldl_map]
  have := fold_Z (N := N) (L := L * K) (k := k + j) (f := fun i => vc x i * tb t i q) (ps := List.range t.length) (acc := 0) (n := k + j) (fun i hi => by
    have hi := List.mem_range.mp hi
    exact (hx.vc i).mul ((ht.r _ (row_mem hi)).vc q)) ⟨N.Szero _ _, Nat.mul_pos hx.pos ht.pos, bdm hx.bd ht.bd⟩ (Nat.le_refl _)
  rw [List.length_range] at this
  have e := this.s
  rw [ht.len] at e ⊢
  exact e
theorem prod_Z {o : List (List R)} {d : Nat} (ho : Tw N d h L k o) (ht : Tw N h m K j t) : Tw N d m (L * K) (k + j + h) (o.map fun x => thr m x t) := ⟨by rw [List.length_map]; exact ho.len, fun l hl => by
  obtain ⟨x, hx, rfl⟩ := List.mem_map.mp hl
  exact thr_Z (ho.r x hx) ht, Nat.mul_pos ho.pos ht.pos, (bdm ho.bd ht.bd).mono (by omega)⟩
theorem onesL_Z : Tw N m m 1 1 (onesL m) := ⟨by simp [onesL], fun l hl => by
  obtain ⟨q, _, rfl⟩ := List.mem_map.mp hl
  refine ⟨by simp [eL], fun r hr => ?_, by decide, Bd.one (by decide)⟩
  obtain ⟨x, _, rfl⟩ := List.mem_map.mp hr
  split
  · exact Zn.one.s
  · exact Zn.zero.s, by decide, Bd.one (by decide)⟩
end
end DD

namespace DD
open PySem PySem.Spec L2
open PyProof.Rows hiding St
variable [LamN]
theorem M.bind_assoc {α β γ : Type} {f : M α} {g : α → M β} {h : β → M γ} : (f.bind g).bind h = f.bind fun a => (g a).bind h := by
  funext ρ
  unfold M.bind
  cases f ρ <;> rfl
/-- an instance of c, which has no field m -/
def objD (c m : Str) : A → Option A
  | .v (.ins c' ks ds) => if c' = c ∧ m ∉ ks then some (.v (.ins c' ks ds)) else none
  | _ => none
def dObj (c m : Str) (e : M A) : M A := e.bind fun a => ofO (objD c m a)
theorem lookup_no {m : Str} : ∀ {ws : List (Str × V)}, m ∉ ws.map (·.1) → ws.lookup m = none
  | [], _ => rfl
  | (a, v) :: l, h => by
    have h1 : m ≠ a := fun z => h (by rw [z]; simp)
    have h2 : m ∉ l.map (·.1) := fun z => h (List.mem_cons_of_mem _ z)
    rw [List.lookup_cons, beq_eq_false_iff_ne.mpr h1]
    exact lookup_no h2
section
variable {C : SC} {c m : Str} {f : M A} {σ : St} {H : Hp} {α : Type} {fin : Fin α} {ps : List V} {pa : List A} {g : A → M α}
/-- the instance comes first -/
theorem Go.bindObj (h : Go C fin ps pa ((dObj c m f).bind g) σ H) : tE C f σ H (fun x H1 => ∃ ks ds, m ∉ ks ∧ (∃ a C0 dx ws, C.mg c = some (.ref C0) ∧ x = .ref a ∧ H1 a = some (.ins C0 dx ws) ∧ ws.lookup m = none) ∧ Go C fin (x :: ps) (.v (.ins c ks ds) :: pa) (g (.v (.ins c ks ds))) σ H1) := by
  unfold dObj at h
  rw [M.bind_assoc] at h
  refine (Go.bindE h).mono fun x H1 ⟨a, k⟩ => ?_
  obtain ⟨b, Z, ρ, vs, as, hb, hl, S, k⟩ := k
  cases e : objD c m a with
  | none =>
    rw [e] at k
    exact k.elim
  | some r =>
    rw [e] at k
    have k' : (g r ρ).sat (fin b vs as) (XPost C b vs as) := k
    unfold objD at e
    split at e
    · rename_i c' ks ds
      split at e
      · rename_i q
        obtain ⟨rfl, q2⟩ := q
        cases e
        refine ⟨ks, ds, q2, ?_, b, Z, ρ, vs, as, hb, hl, S, k'⟩
        have t := Sta.top (vs := ps ++ vs) (as := pa ++ as) S
        cases t with
        | @ins a C' dx _ ws _ m' hz rd => exact ⟨a, C', dx, ws, m', rfl, S.zh _ _ hz, lookup_no q2⟩
      · cases e
    · cases e
end
/-- a method of an own class, to be called; defaults ds behind -/
structure MetX (P : Program) (w : World) (K : PySem.W.Frag) (mg : Str → Option Value) (base : Heap) (k : Nat) (c m : Str) (F : Fn) (ds : List DD.D) : Prop where
  ex : ∃ (C f : Addr) (fd : FuncData) (ps : List Str) (us : List Value) (ys : List V), FnOk P w K mg base (L2N.CX P w) k f fd ps (fun vs H Q E => spD K mg F vs H Q E) ∧ mg c = some (.ref C) ∧ Cls K C ∧ L2.Meth K C m f ∧ Binds K fd ps us ∧ Vals ys us ∧ ∀ Z, RepDs K mg Z ys ds
section
variable {P : Program} {w : World} {K : PySem.W.Frag} {mg : Str → Option Value} {base : Heap}
theorem MetX.mono {j k : Nat} {c m : Str} {F : Fn} {ds : List DD.D} (c0 : MetX P w K mg base j c m F ds) (h : j ≤ k) : MetX P w K mg base k c m F ds :=
  let ⟨C, f, fd, ps, us, ys, G, r⟩ := c0.ex
  ⟨C, f, fd, ps, us, ys, G.mono h, r⟩
/-- what stands of a class and its method, without defaults -/
def Met0 (K : PySem.W.Frag) (mg : Str → Option Value) (c m qual : Str) (st : Stmt) (ps : List Str) : Prop :=
  ∃ (C f : Addr) (fd : FuncData), mg c = some (.ref C) ∧ Cls K C ∧ L2.Meth K C m f ∧ Fun K m qual st f fd ∧ ∀ us : List Value, us.length = ps.length → bindArgs fd ⟨us, []⟩ = pure (ps.zip us)
theorem met_def {k n N : Nat} {c m qual : Str} {st : Stmt} {Ns ps : List Str} {pn : List Nat} {body : M Flow} {F : Fn} (h0 : Met0 K mg c m qual st ps) (S : FnScope Ns ps (defScope st))
    (hF : F = dFn n N pn body) (hn : ps.length = n) (hN : Ns.length = N)
    (hb : ∀ (f : Addr) (cdv : Value) (A : Around) (outer : List PySem.Env) (s : Shared) (H : Hp) (E : XK), Room k (A.deeper (envOfC qual (defScope st) s.heap.objs.size f cdv)) →
      L2N.Takes (cxOf (L2N.CX P w) P w K mg base Ns qual (defScope st) f cdv A outer s H E) (fun cls d _ H => E cls d H) →
      PSs (cxOf (L2N.CX P w) P w K mg base Ns qual (defScope st) f cdv A outer s H E) (defBody st) (tS ⟨K, mg, fun cls d _ H => E cls d H, pn, []⟩ body)) : MetX P w K mg base (k + 1) c m F [] := by
  subst hF hn hN
  obtain ⟨C, f, fd, e, cl, mt, FD, hb0⟩ := h0
  have hn : ps.length ≤ Ns.length := by have := congrArg List.length S.pre; rw [List.length_take] at this; omega
  refine ⟨C, f, fd, ps, [], [], ?_, e, cl, mt, .all hb0, .nil, fun _ => .nil⟩
  obtain ⟨oc, od, kV, doc, pm, an, cdv, ct, osl, rfl, lk, hcd⟩ := FD.ex
  refine fn_of lk hcd S (fun vs H Q E q => (body_ok (W := fun cls d _ H' => E cls d H') (fun _ _ => rfl) (fun _ _ _ _ z => z) q hn).1) fun A outer s H vs Q E hr q => ?_
  obtain ⟨hl, ht⟩ := body_ok (W := fun cls d _ H' => E cls d H') (fun _ _ => rfl) (fun _ _ _ _ z => z) q hn
  refine ⟨_, hb f cdv A outer s H E hr (L2N.takes_of rfl rfl rfl rfl), ?_⟩
  unfold L2.start
  rw [hl]
  exact ht
end
section
variable {X : Cx} {C : SC} {fs : M (List AV)} {c m : Str} {p apos pos : Pos} {o e : Expr} {es : List Expr} {g : M A} {F : Fn} {ds : List DD.D} {k : Nat} {pl : Sem Bool}
theorem meth_go {Cc : Addr} {ys : List V} {σ : St} {H : Hp} {Q : VK} {t : TA} (hy : ∀ Z, RepDs C.K C.mg Z ys ds) (e : C.mg c = some (.ref Cc)) (ht : ∀ H Q, tV C fs σ H Q → t σ H Q)
    (q : tE C (dCall F (vVal false (dObj c m g) fs) ds) σ H Q) : tMeth Cc m (fun vs H Q E => spD C.K C.mg F vs H Q E) ys (fun cls d H' => C.W cls d σ H') (tE C g) t σ H Q := by
  unfold dCall vVal at q
  have q2 : Go C (finE C σ Q) [] [] ((dObj c m g).bind fun a => fs.bind fun l ρ => match gath (.val (frzB false a) :: l) ρ with
        | none => .bad
        | some q => match F (q.1 ++ ds.map .v) with
          | .ok r l' => .ok r (back (.val (frzB false a) :: l) l' q.2)
          | .exc e l' => .exc e (back (.val (frzB false a) :: l) l' q.2)
          | .bad => .bad) σ H := by
    have := q
    rw [tE, M.bind_assoc] at this
    refine cast ?_ this
    congr 2
    funext a
    rw [M.bind_assoc]
    rfl
  refine (Go.bindObj q2).mono fun x H1 ⟨ks, ds2, hm, ⟨a, C0, dx, ws, e0, ex, ea, hw⟩, k2⟩ => ?_
  rw [e] at e0
  cases e0
  refine ⟨a, dx, ws, ex, ea, hw, ht _ _ ((Go.bindV k2).mono fun zs H2 ⟨l, pv, qa, r, k3⟩ => ?_)⟩
  refine go_call (l := .val (.v (.ins c ks ds2)) :: l) hy (.val r) (fun _ _ _ z => z) (fun _ _ _ z => z) ?_
  obtain ⟨b, Z, ρ, vs, as, hb, hl, S, k4⟩ := k3
  have S' : Sta C.K C.mg b Z H2 σ ρ (pv ++ x :: vs) (qa ++ .v (.ins c ks ds2) :: as) := by simpa using S
  exact ⟨b, Z, ρ, vs, as, hb, by simp [r.length.2], by simpa using S'.rot r.length.2, k4⟩
theorem de_meth (c0 : MetX X.prog X.w X.K X.mg X.base k c m F ds) (hr : Room k X.A) (hK : X.K = C.K) (hM : X.mg = C.mg) (tk : L2N.Takes X C.W) (he : PE X o (tE C g)) (ha : PA X (e :: es) (tV C fs))
    (hst : starEach (e :: es) X.env = (false, eval e X.env) :: starEach es X.env := by rfl) (hpl : (backTo pos (starEach es X.env)).any (·.1) = false := by rfl)
    (ht : eval (.Call (.Attribute o m apos) (e :: es) [] pos) X.env = (do
      let ov ← eval o X.env
      standAt apos.atName
      let (f, first) ← holding [ov] (getMethod ov m pl)
      callWith pos f first (backTo pos (starEach (e :: es) X.env)) (backToKw pos (keywordEach [] X.env))) := by rfl) :
    PE X (.Call (.Attribute o m apos) (e :: es) [] pos) (tE C (dCall F (vVal false (dObj c m g) fs) ds)) := by
  obtain ⟨Cc, f, fd, ps, us, ys, F', h1, h2, h3, h4, h5, h6⟩ := c0.ex
  refine ⟨fun pins s σ H Q I q => ?_⟩
  refine PySem.W.methodCall_KW (pl := pl) (thn (he.run pins s σ H _ I (meth_go (Cc := Cc) (ys := ys) (t := tV C fs) (by rw [← hK, ← hM]; exact h6) (by rw [← hM]; exact h1) (fun _ _ z => z) q)) fun u s1 ⟨x, H1, I1, rx, a, dx, ws, ex, ea, l, q⟩ => ?_) ht
  subst ex
  obtain rfl : u = Value.ref a := rx
  refine getmeth_ok I1 ea h2 h3 l ?_
  refine PySem.W.callWith_K (first := [.ref a]) (h₀ := X.base) I.ok.mod.kin h3.kp (thn (ha.run pos pins s1 σ H1 _ I1 q) fun us s2 ⟨vs, H2, I2, r, q2⟩ => ⟨I2.kIn, ?_⟩) hst hpl
  rw [← hK, ← hM] at q2
  exact run_fnSD (E := fun σ cls d H' => C.W cls d σ H') (us := .ref a :: us) (vs := .ref a :: vs) F' hr h4 h5 (L2N.passAt tk σ) I2 (.cons rfl r) q2
theorem de_meth0 (c0 : MetX X.prog X.w X.K X.mg X.base k c m F ds) (hr : Room k X.A) (hK : X.K = C.K) (hM : X.mg = C.mg) (tk : L2N.Takes X C.W) (he : PE X o (tE C g))
    (ht : eval (.Call (.Attribute o m apos) [] [] pos) X.env = (do
      let ov ← eval o X.env
      standAt apos.atName
      let (f, first) ← holding [ov] (getMethod ov m pl)
      callWith pos f first (backTo pos (starEach [] X.env)) (backToKw pos (keywordEach [] X.env))) := by rfl) :
    PE X (.Call (.Attribute o m apos) [] [] pos) (tE C (dCall F (vVal false (dObj c m g) vNil) ds)) := by
  obtain ⟨Cc, f, fd, ps, us, ys, F', h1, h2, h3, h4, h5, h6⟩ := c0.ex
  refine ⟨fun pins s σ H Q I q => ?_⟩
  refine PySem.W.methodCall_KW (pl := pl) (thn (he.run pins s σ H _ I (meth_go (Cc := Cc) (ys := ys) (t := tNil) (by rw [← hK, ← hM]; exact h6) (by rw [← hM]; exact h1) (fun H Q z => by
    obtain ⟨b, Z, ρ, vs, as, hb, hl, S, k⟩ := z
    exact k _ _ [] [] [] .nil S) q)) fun u s1 ⟨x, H1, I1, rx, a, dx, ws, ex, ea, l, q⟩ => ?_) ht
  subst ex
  obtain rfl : u = Value.ref a := rx
  refine getmeth_ok I1 ea h2 h3 l ?_
  refine PySem.W.callWith_K0 (first := [.ref a]) I1.kIn h3.kp ?_
  have q2 : spD C.K C.mg F (.ref a :: ([] ++ ys)) H1 Q fun cls d H' => C.W cls d σ H' := q
  rw [← hK, ← hM] at q2
  exact run_fnSD (E := fun σ cls d H' => C.W cls d σ H') (us := [.ref a]) (vs := [.ref a]) F' hr h4 h5 (L2N.passAt tk σ) I1 (.cons rfl .nil) q2
end
section
variable {K : PySem.W.Frag} {h : Heap} {mg : Str → Option Value} (X : K.In h) (G : h.Ns mainGlobals mg)
include X G
theorem met_of {c m qual : Str} {st : Stmt} {D0 f : Addr} {oc kV dc pm cd ct : Value} {od an : Option Addr} {osl : Array (Option Value)} {ps : List Str} (e : PySem.W.nsIn K mainGlobals c = some (some (.ref D0))) (q1 : PySem.W.plainGet K D0 Str.empty = true) (q2 : PySem.W.hasDictIn K D0 = true) (q3 : PySem.W.plainOver K D0 = true)
    (q4 : PySem.W.findIn K (.ref D0) "__setattr__" = some (some (.builtin "object.__setattr__"))) (m2 : PySem.W.findIn K (.ref D0) m = some (some (.ref f))) (m3 : PySem.W.isFn K (.ref f) = true)
    (l : K.lookup f = some ⟨oc, od, .func (PySem.W.fnOf m qual (defArgs st) (defBody st) (defScope st) .none kV dc pm an cd ct), osl⟩) (c1 : PySem.W.codeIn K cd qual = true) (k : PySem.W.keepIn K (.ref f) = true)
    (b : ∀ (kV doc pm : Value) (an : Option Addr) (cdv ct : Value) (us : List Value), us.length = ps.length → bindArgs (PySem.W.fnOf m qual (defArgs st) (defBody st) (defScope st) .none kV doc pm an cdv ct) ⟨us, []⟩ = pure (ps.zip us)) : Met0 K mg c m qual st ps :=
  ⟨D0, f, _, PySem.W.mg_of X G e, ⟨q1, q2, q3, q4⟩, ⟨m2, m3, k⟩, (fun_mk l c1 k), b _ _ _ _ _ _⟩
end
section
variable {ρ : DEnv} {E : Ex → DEnv → Prop} {Q : A → DEnv → Prop} {c m : Str} {e : M A}
theorem w_obj (k : Wp (e ρ) (fun a ρ1 => ∃ ks ds, a = .v (.ins c ks ds) ∧ m ∉ ks ∧ Q (.v (.ins c ks ds)) ρ1) E) : Wp (dObj c m e ρ) Q E := by
  unfold dObj
  refine wp_bind (wp_mono k (fun a ρ1 ⟨ks, ds, ea, hm, q⟩ => ?_) fun _ _ z => z)
  subst ea
  refine Wp.mk ?_
  unfold ofO objD
  dsimp only
  rw [if_pos ⟨rfl, hm⟩]
  exact q
end
end DD

namespace DD
open PySem PySem.Spec L2
open PyProof.Rows hiding St
variable [LamN]
section
variable {g : Int} {R : Type} [Lean.Grind.CommRing R] {N : NumX g R}
end
section
variable {P : A → Prop} {k j : Nat} {d e : D}
end
end DD

namespace DD
open PySem PySem.Spec L2
open PyProof.Rows hiding St
variable [LamN]
section
variable {X : Cx}
end
section
variable {P : A → Prop} {k j : Nat} {d : D} {ds : List D}
end
end DD

namespace DD
section
variable {R : Type} [Lean.Grind.CommRing R]
def sg : Nat → R
  | 0 => 1
  | n + 1 => -sg n
def skp (i j : Nat) : Nat := if j < i then j else j + 1
/-- columns V b, rows a -/
def det : Nat → (Nat → Nat → R) → R
  | 0, _ => 1
  | s + 1, V => sm (s + 1) fun i => sg i * V i 0 * det s fun j a => V (skp i j) (a + 1)
def cset (V : Nat → Nat → R) (p : Nat) (x : Nat → R) : Nat → Nat → R := fun b => if b = p then x else V b
variable {s n p q : Nat} {V W : Nat → Nat → R} {x y : Nat → R} {c : R}
theorem skp_lt {i j : Nat} (hj : j < s) : skp i j < s + 1 := by unfold skp; split <;> omega
theorem det_congr : ∀ {s : Nat} {V W : Nat → Nat → R}, (∀ b a, b < s → a < s → V b a = W b a) → det s V = det s W
  | 0, _, _, _ => rfl
  | s + 1, V, W, h => by
    show sm (s + 1) _ = sm (s + 1) _
    refine sm_congr fun i hi => ?_
    rw [h i 0 hi (by omega), det_congr fun b a hb ha => h _ _ (skp_lt hb) (by omega)]
theorem cset_same : cset V p x p = x := if_pos rfl
theorem cset_ne {b : Nat} (h : b ≠ p) : cset V p x b = V b := if_neg h
theorem cset_id : cset V p (V p) = V := by
  funext b
  unfold cset
  split
  · rename_i h; rw [h]
  · rfl
theorem minor_same : (fun j a => cset V p x (skp p j) (a + 1)) = fun j a => V (skp p j) (a + 1) := by
  funext j a
  rw [cset_ne (by unfold skp; split <;> omega)]
theorem minor_ne {i : Nat} (h : i ≠ p) : (fun j a => cset V p x (skp i j) (a + 1)) = cset (fun j a => V (skp i j) (a + 1)) (if p < i then p else p - 1) fun a => x (a + 1) := by
  funext j a
  by_cases hj : skp i j = p
  · have : j = if p < i then p else p - 1 := by
      unfold skp at hj
      split at hj <;> split <;> omega
    rw [hj, cset_same, this, cset_same]
  · have : j ≠ if p < i then p else p - 1 := by
      unfold skp at hj
      split at hj <;> split <;> omega
    rw [cset_ne hj, cset_ne this]
theorem det_lin : ∀ {s : Nat} {V : Nat → Nat → R} {p : Nat} {x y : Nat → R}, p < s → det s (cset V p fun a => x a + y a * c) = det s (cset V p x) + det s (cset V p y) * c
  | 0, _, _, _, _, h => by omega
  | s + 1, V, p, x, y, h => by
    show sm (s + 1) _ = sm (s + 1) _ + sm (s + 1) _ * c
    rw [← sm_mulr, ← sm_add]
    refine sm_congr fun i hi => ?_
    by_cases e : i = p
    · subst e
      rw [minor_same, minor_same, minor_same, cset_same, cset_same, cset_same]
      grind
    · rw [minor_ne e, minor_ne e, minor_ne e, cset_ne e, cset_ne e, cset_ne e, det_lin (by split <;> omega)]
      grind
theorem det_zero (h : p < s) : det s (cset V p fun _ => 0) = 0 := by
  have := det_lin (V := V) (x := fun _ => (0 : R)) (y := fun _ => 0) (c := 1) h
  have e : (fun _ : Nat => (0 : R) + 0 * 1) = fun _ => 0 := by funext a; grind
  rw [e] at this
  grind
theorem det_sum {X : Nat → Nat → R} {w : Nat → R} (h : p < s) : ∀ {n : Nat}, det s (cset V p fun a => sm n fun l => X l a * w l) = sm n fun l => det s (cset V p (X l)) * w l
  | 0 => det_zero h
  | n + 1 => by
    show det s (cset V p fun a => sm n (fun l => X l a * w l) + X n a * w n) = sm n (fun l => det s (cset V p (X l)) * w l) + det s (cset V p (X n)) * w n
    rw [det_lin (x := fun a => sm n fun l => X l a * w l) (y := X n) h, det_sum h]
theorem sm_two {f : Nat → R} (hp : p + 1 < n) (h : ∀ i, i < n → i ≠ p → i ≠ p + 1 → f i = 0) : sm n f = f p + f (p + 1) := by
  have e : ∀ i, i < n → f i = (if i = p then f p else 0) + if i = p + 1 then f (p + 1) else 0 := fun i hi => by
    by_cases e1 : i = p
    · rw [if_pos e1, if_neg (by omega), e1]; grind
    · by_cases e2 : i = p + 1
      · rw [if_neg e1, if_pos e2, e2]; grind
      · rw [if_neg e1, if_neg e2, h i hi e1 e2]; grind
  rw [sm_congr e, sm_add, sm_one (k := p) (by omega) (fun i _ hi => if_neg hi), sm_one (k := p + 1) hp (fun i _ hi => if_neg hi), if_pos rfl, if_pos rfl]
theorem det_adj : ∀ {s : Nat} {V : Nat → Nat → R} {p : Nat}, p + 1 < s → (∀ a, V p a = V (p + 1) a) → det s V = 0
  | 0, _, _, h, _ => by omega
  | s + 1, V, p, h, e => by
    show sm (s + 1) _ = 0
    rw [sm_two (p := p) h fun i hi h1 h2 => ?_]
    · have m : (det s fun j a => V (skp p j) (a + 1)) = det s fun j a => V (skp (p + 1) j) (a + 1) := det_congr fun b a hb ha => by
        by_cases hbp : b = p
        · subst hbp
          have e1 : skp b b = b + 1 := by unfold skp; rw [if_neg (by omega)]
          have e2 : skp (b + 1) b = b := by unfold skp; rw [if_pos (by omega)]
          rw [e1, e2, e]
        · have : skp p b = skp (p + 1) b := by unfold skp; split <;> split <;> omega
          rw [this]
      rw [m, e 0]
      show sg p * V (p + 1) 0 * _ + -sg p * V (p + 1) 0 * _ = 0
      grind
    · have := det_adj (s := s) (V := fun j a => V (skp i j) (a + 1)) (p := if p + 1 < i then p else p - 1) (by split <;> omega) fun a => by
        have e1 : skp i (if p + 1 < i then p else p - 1) = p := by
          by_cases h3 : p + 1 < i
          · rw [if_pos h3]; unfold skp; split <;> omega
          · rw [if_neg h3]; unfold skp; split <;> omega
        have e2 : skp i ((if p + 1 < i then p else p - 1) + 1) = p + 1 := by
          by_cases h3 : p + 1 < i
          · rw [if_pos h3]; unfold skp; split <;> omega
          · rw [if_neg h3]; unfold skp; split <;> omega
        show V (skp i _) (a + 1) = V (skp i _) (a + 1)
        rw [e1, e2, e]
      rw [this]
      grind
theorem cset_comm {u v : Nat → R} (h : p ≠ q) : cset (cset V p u) q v = cset (cset V q v) p u := by
  funext b
  unfold cset
  split <;> split <;> simp_all
theorem det_swp (h : p + 1 < s) : det s (cset (cset V p (V (p + 1))) (p + 1) (V p)) = -det s V := by
  have ne : p ≠ p + 1 := by omega
  let D : (Nat → R) → (Nat → R) → R := fun u v => det s (cset (cset V p u) (p + 1) v)
  have z : ∀ u, D u u = 0 := fun u => det_adj h fun a => by
    rw [cset_same, cset_ne (by omega), cset_same]
  have l1 : ∀ u u' v, D (fun a => u a + u' a * 1) v = D u v + D u' v * 1 := fun u u' v => by
    show det s _ = det s _ + det s _ * 1
    rw [cset_comm ne, cset_comm ne, cset_comm ne, det_lin (by omega)]
  have l2 : ∀ u v v', D u (fun a => v a + v' a * 1) = D u v + D u v' * 1 := fun u v v' => det_lin h
  have k := z fun a => V p a + V (p + 1) a * 1
  rw [l1, l2, l2, z, z] at k
  have e : D (V p) (V (p + 1)) = det s V := by
    show det s (cset (cset V p (V p)) (p + 1) (V (p + 1))) = _
    rw [cset_id, cset_id]
  rw [e] at k
  show D (V (p + 1)) (V p) = _
  grind
theorem det_rep : ∀ {d : Nat} {V : Nat → Nat → R} {p : Nat}, p + 1 + d < s → (∀ a, V p a = V (p + 1 + d) a) → det s V = 0
  | 0, V, p, h, e => det_adj h e
  | d + 1, V, p, h, e => by
    have k := det_rep (d := d) (V := cset (cset V (p + 1 + d) (V (p + 1 + d + 1))) (p + 1 + d + 1) (V (p + 1 + d))) (p := p) (by omega) fun a => by
      rw [cset_ne (by omega), cset_ne (by omega), cset_ne (by omega), cset_same]
      exact e a
    rw [det_swp (by omega)] at k
    grind
theorem det_two (hp : p < s) (hq : q < s) (ne : p ≠ q) (e : ∀ a, V p a = V q a) : det s V = 0 := by
  rcases Nat.lt_or_gt_of_ne ne with h | h
  · obtain ⟨d, rfl⟩ : ∃ d, q = p + 1 + d := ⟨q - p - 1, by omega⟩
    exact det_rep hq e
  · obtain ⟨d, rfl⟩ : ∃ d, p = q + 1 + d := ⟨p - q - 1, by omega⟩
    exact det_rep hp fun a => (e a).symm
/-- a column that the others make -/
theorem cramer {w : Nat → R} {i : Nat} (hi : i < s) (e : ∀ a, a < s → x a = sm s fun l => V l a * w l) : det s (cset V i x) = det s V * w i := by
  have e1 : det s (cset V i x) = det s (cset V i fun a => sm s fun l => V l a * w l) := det_congr fun b a hb ha => by
    by_cases h : b = i
    · rw [h, cset_same, cset_same, e a ha]
    · rw [cset_ne h, cset_ne h]
  rw [e1, det_sum hi, sm_one hi fun l hl h => ?_, cset_id]
  rw [det_two (p := i) (q := l) hi hl (fun z => h z.symm) fun a => by rw [cset_same, cset_ne h]]
  grind
/-- one row and one column more -/
theorem det_grow {r : R} {w : Nat → R} (h0 : V 0 0 = r + sm s fun l => V (l + 1) 0 * w l) (h1 : ∀ a, a < s → V 0 (a + 1) = sm s fun l => V (l + 1) (a + 1) * w l) : det (s + 1) V = r * det s fun b a => V (b + 1) (a + 1) := by
  let u : Nat → R := fun a => if a = 0 then r else 0
  have e1 : det (s + 1) V = det (s + 1) (cset V 0 fun a => u a + (sm s fun l => V (l + 1) a * w l) * 1) := det_congr fun b a hb ha => by
    by_cases h : b = 0
    · subst h
      rw [cset_same]
      cases a with
      | zero => rw [h0]; show _ = r + _ * 1; grind
      | succ a => rw [h1 a (by omega)]; show _ = 0 + _ * 1; grind
    · rw [cset_ne h]
  rw [e1, det_lin (by omega), det_sum (X := fun l => V (l + 1)) (by omega), sm_zero (n := s) fun l hl => by
    rw [det_two (s := s + 1) (p := 0) (q := l + 1) (by omega) (by omega) (by omega) fun a => by rw [cset_same, cset_ne (by omega)]]
    grind]
  have e2 : det (s + 1) (cset V 0 u) = sm (s + 1) fun i => sg i * cset V 0 u i 0 * det s fun j a => cset V 0 u (skp i j) (a + 1) := rfl
  rw [e2, sm_one (k := 0) (by omega) fun i hi h => ?_]
  · rw [minor_same, cset_same]
    show 1 * r * _ + 0 * 1 = _
    have : (fun j a => V (skp 0 j) (a + 1)) = fun b a => V (b + 1) (a + 1) := by
      funext j a
      have : skp 0 j = j + 1 := by unfold skp; rw [if_neg (by omega)]
      rw [this]
    rw [this]
    grind
  · rw [minor_ne h, if_pos (by omega)]
    have : (fun a => u (a + 1)) = fun _ => 0 := by funext a; exact if_neg (by omega)
    rw [this, det_zero (by omega)]
    grind
end
end DD

namespace DD
variable [LamN]
section
variable {R : Type} [Lean.Grind.CommRing R]
/-- x and c times y -/
def axp (x y : List R) (c : R) : List R := List.zipWith (· + ·) x (y.map (· * c))
variable {n p : Nat} {x y z a r f : List R} {c d : R} {A B F G : List (List R)}
theorem axp_len (hx : x.length = n) (hy : y.length = n) : (axp x y c).length = n := by simp [axp, hx, hy]
theorem axp_vc {i : Nat} (hx : x.length = n) (hy : y.length = n) (hi : i < n) : vc (axp x y c) i = vc x i + vc y i * c := by
  unfold axp vc
  rw [getD_at (by simp [hx, hy]; exact hi), getD_at (by omega), getD_at (by omega), List.getElem_zipWith, List.getElem_map]
theorem vc_rep {i : Nat} : vc (List.replicate n (0 : R)) i = 0 := by
  unfold vc
  rw [List.getD_eq_getElem?_getD, List.getElem?_replicate]
  split <;> rfl
/-- rows that rows span -/
inductive Spn (n : Nat) (A : List (List R)) : List R → Prop
  | zero : Spn n A (List.replicate n 0)
  | step {x a : List R} {c : R} : Spn n A x → a ∈ A → Spn n A (axp x a c)
def Wid (n : Nat) (A : List (List R)) : Prop := ∀ a ∈ A, a.length = n
theorem Spn.len (w : Wid n A) (h : Spn n A x) : x.length = n := by
  induction h with
  | zero => simp
  | step _ ha ih => exact axp_len ih (w _ ha)
theorem Spn.mem (w : Wid n A) (ha : a ∈ A) : Spn n A a := by
  have e : a = axp (List.replicate n 0) a 1 := vc_ext (m := n) (w a ha) (axp_len (by simp) (w a ha)) fun j hj => by
    rw [axp_vc (by simp) (w a ha) hj, vc_rep]; grind
  rw [e]
  exact .step .zero ha
theorem Spn.ax (w : Wid n A) (hx : Spn n A x) (hy : Spn n A y) (c : R) : Spn n A (axp x y c) := by
  have lx := hx.len w
  induction hy with
  | zero =>
    have e : axp x (List.replicate n 0) c = x := vc_ext (m := n) (axp_len lx (by simp)) lx fun j hj => by
      rw [axp_vc lx (by simp) hj, vc_rep]; grind
    rw [e]; exact hx
  | @step y b d hy hb ih =>
    have ly := hy.len w
    have lb := w _ hb
    have e : axp x (axp y b d) c = axp (axp x y c) b (d * c) := vc_ext (m := n) (axp_len lx (axp_len ly lb)) (axp_len (axp_len lx ly) lb) fun j hj => by
      rw [axp_vc lx (axp_len ly lb) hj, axp_vc ly lb hj, axp_vc (axp_len lx ly) lb hj, axp_vc lx ly hj]; grind
    rw [e]
    exact .step ih hb
theorem Spn.trans (w : Wid n B) (h : ∀ a ∈ A, Spn n B a) (hx : Spn n A x) : Spn n B x := by
  induction hx with
  | zero => exact .zero
  | step _ ha ih => exact ih.ax w (h _ ha) _
theorem Spn.mono (h : ∀ a ∈ A, a ∈ B) (hx : Spn n A x) : Spn n B x := by
  induction hx with
  | zero => exact .zero
  | step _ ha ih => exact .step ih (h _ ha)
/-- a condition that sums keep -/
theorem Spn.lin {P : List R → Prop} (w : Wid n A) (h0 : P (List.replicate n 0)) (h1 : ∀ x a c, x.length = n → a ∈ A → P x → P (axp x a c)) (hx : Spn n A x) : P x := by
  induction hx with
  | zero => exact h0
  | step hx ha ih => exact h1 _ _ _ (hx.len w) ha ih
open Classical in
/-- the place of the first number other than nought -/
noncomputable def hd : List R → Nat
  | [] => 0
  | a :: l => if a = 0 then hd l + 1 else 0
theorem hd_le : ∀ {l : List R}, hd l ≤ l.length
  | [] => Nat.le_refl _
  | a :: l => by
    unfold hd
    split
    · have := hd_le (l := l); rw [List.length_cons]; omega
    · omega
theorem hd_low : ∀ {l : List R} {i : Nat}, i < hd l → vc l i = 0
  | [], i, h => by unfold hd at h; omega
  | a :: l, i, h => by
    unfold hd at h
    split at h
    · rename_i e
      cases i with
      | zero => exact e
      | succ i => exact hd_low (l := l) (by omega)
    · omega
theorem hd_ne : ∀ {l : List R}, hd l < l.length → vc l (hd l) ≠ 0
  | [], h => by simp at h
  | a :: l, h => by
    unfold hd at h ⊢
    split at h
    · rename_i e
      rw [if_pos e]
      exact hd_ne (l := l) (by rw [List.length_cons] at h; omega)
    · rename_i e
      rw [if_neg e]
      exact e
theorem hd_eq {l : List R} {p : Nat} (h0 : ∀ i, i < p → vc l i = 0) (h1 : vc l p ≠ 0) : hd l = p := by
  rcases Nat.lt_trichotomy (hd l) p with h | h | h
  · have hl : hd l < l.length := by
      refine Classical.byContradiction fun z => h1 ?_
      unfold vc
      rw [List.getD_eq_getElem?_getD, List.getElem?_eq_none (by omega)]; rfl
    exact absurd (h0 _ h) (hd_ne hl)
  · exact h
  · exact absurd (hd_low h) h1
theorem hd_all (h : hd x = x.length) (i : Nat) : vc x i = 0 := by
  by_cases hi : i < x.length
  · exact hd_low (by omega)
  · unfold vc
    rw [List.getD_eq_getElem?_getD, List.getElem?_eq_none (by omega)]; rfl
/-- reduced rows, in any order -/
structure Rf (n : Nat) (F : List (List R)) : Prop where
  w : Wid n F
  hd : ∀ f ∈ F, hd f < n
  one : ∀ f ∈ F, vc f (DD.hd f) = 1
  zero : ∀ f ∈ F, ∀ g ∈ F, f ≠ g → vc g (DD.hd f) = 0
  nd : F.Nodup
theorem Rf.ne {f g : List R} (o : (1 : R) ≠ 0) (h : Rf n F) (hf : f ∈ F) (hg : g ∈ F) (e : DD.hd f = DD.hd g) : f = g :=
  Classical.byContradiction fun z => o (by rw [← h.one g hg, ← e, h.zero f hf g hg z])
/-- sums over rows -/
def ls (g : List R → R) : List (List R) → R
  | [] => 0
  | f :: F => g f + ls g F
theorem ls_congr {g k : List R → R} : ∀ {F : List (List R)}, (∀ f ∈ F, g f = k f) → ls g F = ls k F
  | [], _ => rfl
  | f :: F, h => by
    show g f + ls g F = k f + ls k F
    rw [h f (by simp), ls_congr fun e he => h e (List.mem_cons_of_mem _ he)]
theorem ls_zero {g : List R → R} : ∀ {F : List (List R)}, (∀ f ∈ F, g f = 0) → ls g F = 0
  | [], _ => rfl
  | f :: F, h => by
    show g f + ls g F = 0
    rw [h f (by simp), ls_zero fun e he => h e (List.mem_cons_of_mem _ he)]
    grind
theorem ls_add {g k : List R → R} : ∀ {F : List (List R)}, ls (fun f => g f + k f * c) F = ls g F + ls k F * c
  | [] => by show (0 : R) = 0 + 0 * c; grind
  | f :: F => by
    show (g f + k f * c) + ls (fun f => g f + k f * c) F = g f + ls g F + (k f + ls k F) * c
    rw [ls_add]
    grind
theorem ls_one {g : List R → R} {a : List R} : ∀ {F : List (List R)}, F.Nodup → a ∈ F → (∀ f ∈ F, f ≠ a → g f = 0) → ls g F = g a
  | [], _, h, _ => by cases h
  | f :: F, nd, h, z => by
    have nd := List.nodup_cons.mp nd
    show g f + ls g F = g a
    rcases List.mem_cons.mp h with rfl | h
    · rw [ls_zero fun e he => z e (List.mem_cons_of_mem _ he) fun q => nd.1 (q ▸ he)]
      grind
    · rw [ls_one nd.2 h fun e he ne => z e (List.mem_cons_of_mem _ he) ne, z f (by simp) fun q => nd.1 (q ▸ h)]
      grind
/-- what reduced rows span is told by the places of their heads -/
theorem Rf.sum (h : Rf n F) (hx : Spn n F x) : ∀ j, j < n → vc x j = ls (fun f => vc x (DD.hd f) * vc f j) F := by
  refine Spn.lin (P := fun x => ∀ j, j < n → vc x j = ls (fun f => vc x (DD.hd f) * vc f j) F) h.w ?_ ?_ hx
  · intro j hj
    rw [vc_rep, ls_zero fun f _ => by rw [vc_rep]; grind]
  · intro x a c lx ha ih j hj
    rw [axp_vc lx (h.w _ ha) hj, ih j hj, ls_congr (g := fun f => vc (axp x a c) (DD.hd f) * vc f j) (k := fun f => vc x (DD.hd f) * vc f j + (vc a (DD.hd f) * vc f j) * c) fun f hf => by
      rw [axp_vc lx (h.w _ ha) (h.hd f hf)]; grind]
    rw [ls_add, ls_one (g := fun f => vc a (DD.hd f) * vc f j) h.nd ha fun f hf ne => by rw [h.zero f hf a ha ne]; grind, h.one a ha]
    grind
theorem Rf.vanish (h : Rf n F) (hx : Spn n F x) (z : ∀ f ∈ F, vc x (DD.hd f) = 0) : ∀ j, j < n → vc x j = 0 := fun j hj => by
  rw [h.sum hx j hj, ls_zero fun f hf => by rw [z f hf]; grind]
/-- what they span begins where one of them does -/
theorem Rf.lead (h : Rf n F) (hx : Spn n F x) (hp : DD.hd x < n) : ∃ f ∈ F, DD.hd f = DD.hd x := by
  refine Classical.byContradiction fun no => ?_
  have lx := hx.len h.w
  have e := h.sum hx (DD.hd x) hp
  refine hd_ne (l := x) (by omega) (e.trans (ls_zero fun f hf => ?_))
  rcases Nat.lt_trichotomy (DD.hd f) (DD.hd x) with k | k | k
  · rw [hd_low k]; grind
  · exact absurd ⟨f, hf, k⟩ no
  · rw [hd_low (l := f) k]; grind
theorem Rf.sub (o : (1 : R) ≠ 0) (h : Rf n F) (k : Rf n G) (s1 : ∀ f ∈ F, Spn n G f) (s2 : ∀ g ∈ G, Spn n F g) : ∀ f ∈ F, f ∈ G := fun f hf => by
  obtain ⟨g, hg, e⟩ := k.lead (s1 f hf) (h.hd f hf)
  have lf := h.w f hf
  have lg := k.w g hg
  have hv := h.vanish ((Spn.mem h.w hf).ax h.w (s2 g hg) (-1)) fun f2 hf2 => by
    rw [axp_vc lf lg (h.hd f2 hf2)]
    by_cases q : f2 = f
    · subst q
      rw [h.one f2 hf2, ← e, k.one g hg]; grind
    · rw [h.zero f2 hf2 f hf q]
      obtain ⟨g2, hg2, e2⟩ := k.lead (s1 f2 hf2) (h.hd f2 hf2)
      have : g2 ≠ g := fun z => q (h.ne o hf2 hf (by rw [← e2, z, e]))
      rw [← e2, k.zero g2 hg2 g hg this]
      grind
  have : f = g := vc_ext (m := n) lf lg fun j hj => by
    have := hv j hj
    rw [axp_vc lf lg hj] at this
    grind
  rw [this]
  exact hg
theorem sorted_ext {α : Type} {key : α → Nat} : ∀ {l k : List α}, l.Pairwise (fun a b => key a < key b) → k.Pairwise (fun a b => key a < key b) → (∀ a, a ∈ l ↔ a ∈ k) → l = k
  | [], [], _, _, _ => rfl
  | [], b :: k, _, _, h => by have := (h b).mpr (by simp); cases this
  | a :: l, [], _, _, h => by have := (h a).mp (by simp); cases this
  | a :: l, b :: k, hl, hk, h => by
    have hl' := List.pairwise_cons.mp hl
    have hk' := List.pairwise_cons.mp hk
    have ab : a = b := by
      rcases List.mem_cons.mp ((h a).mp (by simp)) with e | e
      · exact e
      · rcases List.mem_cons.mp ((h b).mpr (by simp)) with e2 | e2
        · exact e2.symm
        · have h1 := hk'.1 a e
          have h2 := hl'.1 b e2
          omega
    subst ab
    rw [sorted_ext hl'.2 hk'.2 fun c => ?_]
    constructor
    · intro hc
      rcases List.mem_cons.mp ((h c).mp (List.mem_cons_of_mem _ hc)) with e | e
      · subst e; have := hl'.1 c hc; omega
      · exact e
    · intro hc
      rcases List.mem_cons.mp ((h c).mpr (List.mem_cons_of_mem _ hc)) with e | e
      · subst e; have := hk'.1 c hc; omega
      · exact e
def SortH (F : List (List R)) : Prop := F.Pairwise fun a b => hd a < hd b
/-- reduced rows in order are the only ones of what they span -/
theorem Rf.uniq (o : (1 : R) ≠ 0) (h : Rf n F) (k : Rf n G) (h1 : SortH F) (k1 : SortH G) (s1 : ∀ f ∈ F, Spn n G f) (s2 : ∀ g ∈ G, Spn n F g) : F = G :=
  sorted_ext h1 k1 fun a => ⟨fun ha => h.sub o k s1 s2 a ha, fun ha => k.sub o h s2 s1 a ha⟩
end
end DD

namespace DD
open PySem PySem.Spec L2
open PyProof.Rows hiding St
variable [LamN]
section
variable {R : Type} [Lean.Grind.CommRing R]
variable {n p : Nat} {x y z a r f : List R} {c d : R} {A B F G : List (List R)} {hs : List Nat}
/-- the rest of x by reduced rows with the heads hs -/
def rsd (F : List (List R)) (hs : List Nat) (x : List R) (j : Nat) : R := vc x j - sm hs.length fun l => vc x (hs.getD l 0) * tb F l j
/-- A the rows that were taken, F what they were reduced to, hs the heads -/
structure Rdc (n : Nat) (A F : List (List R)) (hs : List Nat) : Prop where
  lA : A.length = hs.length
  lF : F.length = hs.length
  wA : Wid n A
  wF : Wid n F
  hh : ∀ h ∈ hs, h < n
  one : ∀ i j, i < hs.length → j < hs.length → tb F i (hs.getD j 0) = if i = j then 1 else 0
  low : ∀ i c, i < hs.length → c < hs.getD i 0 → tb F i c = 0
  ex : ∀ a ∈ A, ∀ c, c < n → rsd F hs a c = 0
  dt : det hs.length (fun b a => tb A a (hs.getD b 0)) ≠ 0
  sA : ∀ f ∈ F, Spn n A f
theorem Rdc.nil (o : (1 : R) ≠ 0) : Rdc n ([] : List (List R)) [] [] where
  lA := rfl
  lF := rfl
  wA _ h := absurd h (by simp)
  wF _ h := absurd h (by simp)
  hh _ h := absurd h (by simp)
  one i _ h := absurd h (by simp)
  low i _ h := absurd h (by simp)
  ex _ h := absurd h (by simp)
  dt := o
  sA _ h := absurd h (by simp)
theorem getD_memN {hs : List Nat} {i : Nat} (h : i < hs.length) : hs.getD i 0 ∈ hs := by
  rw [List.getD_eq_getElem?_getD, List.getElem?_eq_getElem h]
  exact List.getElem_mem h
theorem Rdc.hlt (h : Rdc n A F hs) {i : Nat} (hi : i < hs.length) : hs.getD i 0 < n := h.hh _ (getD_memN hi)
theorem tb_rw {F : List (List R)} {i : Nat} (h : i < F.length) (j : Nat) : tb F i j = vc (F[i]) j := by
  unfold tb vc
  rw [List.getD_eq_getElem?_getD (l := F), List.getElem?_eq_getElem h]
  rfl
/-- the rest at a head is nought -/
theorem Rdc.rest (h : Rdc n A F hs) {j : Nat} (hj : j < hs.length) : rsd F hs x (hs.getD j 0) = 0 := by
  unfold rsd
  rw [sm_one (k := j) hj fun i hi ne => by rw [h.one i j hi hj, if_neg ne]; grind, h.one j j hj hj, if_pos rfl]
  grind
/-- one row more: r its rest over its first number, at the place p -/
structure Stp (n : Nat) (F : List (List R)) (hs : List Nat) (x r : List R) (p : Nat) (i : R) : Prop where
  lx : x.length = n
  lr : r.length = n
  hp : p < n
  ne : rsd F hs x p ≠ 0
  inv : rsd F hs x p * i = 1
  low : ∀ c, c < p → rsd F hs x c = 0
  rr : ∀ c, c < n → vc r c = rsd F hs x c * i
theorem Rdc.grow (D : ∀ p q : R, p ≠ 0 → q ≠ 0 → p * q ≠ 0) (h : Rdc n A F hs) {i : R} (k : Stp n F hs x r p i) (sx : Spn n (x :: A) r) : Rdc n (x :: A) (r :: F.map fun f => axp f r (-(vc f p))) (p :: hs) := by
  have l1 : (r :: F.map fun f => axp f r (-(vc f p))).length = hs.length + 1 := by simp [h.lF]
  have t0 : ∀ j, tb (r :: F.map fun f => axp f r (-(vc f p))) 0 j = vc r j := fun j => rfl
  have t1 : ∀ i j, i < hs.length → j < n → tb (r :: F.map fun f => axp f r (-(vc f p))) (i + 1) j = tb F i j - tb F i p * vc r j := fun i j hi hj => by
    have hiF : i < F.length := by rw [h.lF]; exact hi
    rw [tb_rw (by rw [l1]; omega), tb_rw hiF, tb_rw hiF]
    show vc ((F.map fun f => axp f r (-(vc f p)))[i]'(by simpa using hiF)) j = _
    rw [List.getElem_map, axp_vc (h.wF _ (List.getElem_mem hiF)) k.lr hj]
    grind
  have rp : vc r p = 1 := by rw [k.rr p k.hp, k.inv]
  have rh : ∀ j, j < hs.length → vc r (hs.getD j 0) = 0 := fun j hj => by rw [k.rr _ (h.hlt hj), h.rest hj]; grind
  have rl : ∀ c, c < p → vc r c = 0 := fun c hc => by
    have := k.hp
    rw [k.rr c (by omega), k.low c hc]; grind
  have rs : ∀ y : List R, ∀ c, c < n → rsd (r :: F.map fun f => axp f r (-(vc f p))) (p :: hs) y c = rsd F hs y c - rsd F hs y p * vc r c := fun y c hc => by
    unfold rsd
    have e1 : (sm (p :: hs).length fun l => vc y ((p :: hs).getD l 0) * tb (r :: F.map fun f => axp f r (-(vc f p))) l c) = vc y p * vc r c + sm hs.length fun l => vc y (hs.getD l 0) * tb F l c + (vc y (hs.getD l 0) * tb F l p) * (-(vc r c)) := by
      rw [List.length_cons, sm_head]
      congr 1
      refine sm_congr fun l hl => ?_
      show vc y (hs.getD l 0) * tb _ (l + 1) c = _
      rw [t1 l c hl hc]
      grind
    rw [e1, sm_add, sm_mulr]
    grind
  refine ⟨by simp [h.lA], by simp [h.lF], ?_, ?_, ?_, ?_, ?_, ?_, ?_, ?_⟩
  · intro a ha
    rcases List.mem_cons.mp ha with rfl | ha
    · exact k.lx
    · exact h.wA a ha
  · intro a ha
    rcases List.mem_cons.mp ha with rfl | ha
    · exact k.lr
    · obtain ⟨f, hf, rfl⟩ := List.mem_map.mp ha
      exact axp_len (h.wF f hf) k.lr
  · intro q hq
    rcases List.mem_cons.mp hq with rfl | hq
    · exact k.hp
    · exact h.hh q hq
  · intro i j hi hj
    rw [List.length_cons] at hi hj
    cases i with
    | zero =>
      cases j with
      | zero => rw [t0, if_pos rfl]; exact rp
      | succ j => rw [t0, if_neg (by omega)]; exact rh j (by omega)
    | succ i =>
      cases j with
      | zero =>
        show tb _ (i + 1) p = _
        rw [t1 i p (by omega) k.hp, rp, if_neg (by omega)]; grind
      | succ j =>
        show tb _ (i + 1) (hs.getD j 0) = _
        rw [t1 i _ (by omega) (h.hlt (by omega)), rh j (by omega), h.one i j (by omega) (by omega)]
        by_cases e : i = j
        · rw [if_pos e, if_pos (by omega)]; grind
        · rw [if_neg e, if_neg (by omega)]; grind
  · intro i c hi hc
    rw [List.length_cons] at hi
    cases i with
    | zero => exact rl c hc
    | succ i =>
      have hc : c < hs.getD i 0 := hc
      have hn := h.hlt (i := i) (by omega)
      rw [t1 i c (by omega) (by omega), h.low i c (by omega) hc]
      rcases Nat.lt_or_ge c p with q | q
      · rw [rl c q]; grind
      · rw [h.low i p (by omega) (by omega)]; grind
  · intro y hy c hc
    rw [rs y c hc]
    rcases List.mem_cons.mp hy with rfl | hy
    · rw [k.rr c hc]
      have := k.inv
      grind
    · rw [h.ex y hy c hc, h.ex y hy p k.hp]; grind
  · rw [List.length_cons, det_grow (V := fun b a => tb (x :: A) a ((p :: hs).getD b 0)) (r := rsd F hs x p) (w := fun l => tb F l p) ?_ fun a ha => ?_]
    · exact D _ _ k.ne h.dt
    · show vc x p = rsd F hs x p + sm hs.length fun l => vc x (hs.getD l 0) * tb F l p
      unfold rsd
      grind
    · show tb A a p = sm hs.length fun l => tb A a (hs.getD l 0) * tb F l p
      have haA : a < A.length := by rw [h.lA]; exact ha
      have := h.ex _ (List.getElem_mem haA) p k.hp
      unfold rsd at this
      have e : ∀ j, tb A a j = vc A[a] j := fun j => tb_rw haA j
      rw [e]
      have e2 : (fun l => tb A a (hs.getD l 0) * tb F l p) = fun l => vc A[a] (hs.getD l 0) * tb F l p := by funext l; rw [e]
      rw [e2]
      grind
  · have w : Wid n (x :: A) := fun a ha => by
      rcases List.mem_cons.mp ha with rfl | ha
      · exact k.lx
      · exact h.wA a ha
    intro f hf
    rcases List.mem_cons.mp hf with rfl | hf
    · exact sx
    · obtain ⟨f0, hf0, rfl⟩ := List.mem_map.mp hf
      exact ((h.sA f0 hf0).mono fun a ha => List.mem_cons_of_mem _ ha).ax w sx _
/-- as rows in any order -/
theorem Rdc.rf (o : (1 : R) ≠ 0) (h : Rdc n A F hs) : Rf n F := by
  have hdd : ∀ i (hi : i < F.length), hd F[i] = hs.getD i 0 := fun i hi => by
    have hi' : i < hs.length := by rw [← h.lF]; exact hi
    refine hd_eq (fun c hc => ?_) ?_
    · rw [← tb_rw hi]; exact h.low i c hi' hc
    · rw [← tb_rw hi, h.one i i hi' hi', if_pos rfl]; exact o
  have at_ : ∀ f ∈ F, ∃ i, ∃ hi : i < F.length, F[i] = f := fun f hf => by
    obtain ⟨i, hi, e⟩ := List.getElem_of_mem hf
    exact ⟨i, hi, e⟩
  refine ⟨h.wF, fun f hf => ?_, fun f hf => ?_, fun f hf g hg ne => ?_, ?_⟩
  · obtain ⟨i, hi, rfl⟩ := at_ f hf
    rw [hdd i hi]
    exact h.hlt (by rw [← h.lF]; exact hi)
  · obtain ⟨i, hi, rfl⟩ := at_ f hf
    have hi' : i < hs.length := by rw [← h.lF]; exact hi
    rw [hdd i hi, ← tb_rw hi, h.one i i hi' hi', if_pos rfl]
  · obtain ⟨i, hi, rfl⟩ := at_ f hf
    obtain ⟨j, hj, rfl⟩ := at_ g hg
    have hi' : i < hs.length := by rw [← h.lF]; exact hi
    have hj' : j < hs.length := by rw [← h.lF]; exact hj
    rw [hdd i hi, ← tb_rw hj, h.one j i hj' hi', if_neg fun z => ne (by subst z; rfl)]
  · refine List.pairwise_iff_getElem.mpr fun i j hi hj hij e => ?_
    have hi' : i < hs.length := by rw [← h.lF]; exact hi
    have hj' : j < hs.length := by rw [← h.lF]; exact hj
    have k1 := h.one i i hi' hi'
    have k2 := h.one j i hj' hi'
    rw [if_pos rfl, tb_rw hi] at k1
    rw [if_neg (by omega), tb_rw hj, ← e] at k2
    exact o (k1.symm.trans k2)
theorem Rdc.hd_at (o : (1 : R) ≠ 0) (h : Rdc n A F hs) {i : Nat} (hi : i < F.length) : hd F[i] = hs.getD i 0 := by
  have hi' : i < hs.length := by rw [← h.lF]; exact hi
  refine hd_eq (fun c hc => ?_) ?_
  · rw [← tb_rw hi]; exact h.low i c hi' hc
  · rw [← tb_rw hi, h.one i i hi' hi', if_pos rfl]; exact o
/-- without a rest: spanned -/
theorem Rdc.sp (h : Rdc n A F hs) (lx : x.length = n) (z : ∀ c, c < n → rsd F hs x c = 0) : Spn n F x := by
  have key : ∀ s, s ≤ hs.length → ∃ y, Spn n F y ∧ ∀ c, c < n → vc y c = sm s fun l => vc x (hs.getD l 0) * tb F l c := by
    intro s
    induction s with
    | zero => exact fun _ => ⟨_, .zero, fun c hc => vc_rep⟩
    | succ s ih =>
      intro hs'
      obtain ⟨y, hy, e⟩ := ih (by omega)
      have hsF : s < F.length := by rw [h.lF]; omega
      refine ⟨axp y F[s] (vc x (hs.getD s 0)), .step hy (List.getElem_mem hsF), fun c hc => ?_⟩
      rw [axp_vc (hy.len h.wF) (h.wF _ (List.getElem_mem hsF)) hc, e c hc, ← tb_rw hsF]
      show _ = sm s _ + vc x (hs.getD s 0) * tb F s c
      grind
  obtain ⟨y, hy, e⟩ := key _ (Nat.le_refl _)
  have : x = y := vc_ext (m := n) lx (hy.len h.wF) fun c hc => by
    rw [e c hc]
    have := z c hc
    unfold rsd at this
    grind
  rw [this]
  exact hy
/-- each number of a reduced row is a quotient of determinants -/
theorem Rdc.cram (h : Rdc n A F hs) {i c : Nat} (hi : i < hs.length) (hc : c < n) : det hs.length (cset (fun b a => tb A a (hs.getD b 0)) i fun a => tb A a c) = det hs.length (fun b a => tb A a (hs.getD b 0)) * tb F i c := by
  refine cramer (w := fun l => tb F l c) hi fun a ha => ?_
  have haA : a < A.length := by rw [h.lA]; exact ha
  have := h.ex _ (List.getElem_mem haA) c hc
  unfold rsd at this
  have e : ∀ j, tb A a j = vc A[a] j := fun j => tb_rw haA j
  rw [e]
  have e2 : (fun l => tb A a (hs.getD l 0) * tb F l c) = fun l => vc A[a] (hs.getD l 0) * tb F l c := by funext l; rw [e]
  rw [e2]
  grind
end
section
variable {g : Int} {R : Type} [Lean.Grind.CommRing R] {N : NumF g R} {L k n : Nat} {A F : List (List R)} {hs : List Nat}
theorem sm_Z {f : Nat → R} (L0 : 0 < L) (hb : Bd k (L : Int)) : ∀ {s : Nat}, (∀ i, i < s → Zn N L k (f i)) → Zn N L (k + s) (sm s f)
  | 0, _ => ⟨N.Szero _ _, L0, hb⟩
  | s + 1, h => ((sm_Z L0 hb fun i hi => h i (by omega)).add ((h s (by omega)).up (by omega)))
theorem sg_Z {i : Nat} : Zn N 1 1 (sg i : R) := by
  have : (sg i : R) = 1 ∨ (sg i : R) = -1 := by
    induction i with
    | zero => exact .inl rfl
    | succ i ih =>
      show -sg i = 1 ∨ -sg i = -1
      rcases ih with h | h <;> rw [h]
      · exact .inr rfl
      · exact .inl (by grind)
  rcases this with h | h <;> rw [h]
  · exact Zn.one
  · exact ⟨NumF.smone, by decide, Bd.one (by decide)⟩
/-- bits of a determinant -/
def dz (k : Nat) : Nat → Nat
  | 0 => 1
  | s + 1 => 1 + k + dz k s + (s + 1)
theorem det_Z : ∀ {s : Nat} {V : Nat → Nat → R}, (∀ b a, b < s → a < s → Zn N L k (V b a)) → Zn N (L ^ s) (dz k s) (det s V)
  | 0, _, _ => by rw [Nat.pow_zero]; exact Zn.one
  | s + 1, V, h => by
    have hV := h 0 0 (by omega) (by omega)
    have ih : ∀ i, i < s + 1 → Zn N (L ^ s) (dz k s) (det s fun j a => V (skp i j) (a + 1)) := fun i hi => det_Z fun b a hb ha => h _ _ (skp_lt hb) (by omega)
    have t : ∀ i, i < s + 1 → Zn N (L ^ (s + 1)) (1 + k + dz k s) (sg i * V i 0 * det s fun j a => V (skp i j) (a + 1)) := fun i hi => by
      have := (sg_Z (N := N) (i := i)).mul (h i 0 hi (by omega)) |>.mul (ih i hi)
      rw [Nat.one_mul, ← Nat.pow_succ'] at this
      exact this
    exact sm_Z (t 0 (by omega)).pos (t 0 (by omega)).bd t
/-- the sizes of reduced rows -/
theorem Rdc.size (h : Rdc n A F hs) (L0 : 0 < L) (hb : Bd k (L : Int)) (hA : ∀ a ∈ A, Rw N n L k a) : ∃ M : Nat, 0 < M ∧ Bd (dz k hs.length + 1) (M : Int) ∧ ∀ f ∈ F, Rw N n M (dz k hs.length + 1) f := by
  have hV : ∀ b a, b < hs.length → a < hs.length → Zn N L k (tb A a (hs.getD b 0)) := fun b a hb' ha => by
    have haA : a < A.length := by rw [h.lA]; exact ha
    rw [tb_rw haA]
    exact (hA _ (List.getElem_mem haA)).vc _
  have hD := det_Z (N := N) hV
  obtain ⟨M, m0, mb, q⟩ := hD.inv (n := dz k hs.length + 1) h.dt
  refine ⟨M, m0, mb, fun f hf => ?_⟩
  obtain ⟨i, hi, rfl⟩ := List.getElem_of_mem hf
  have hi' : i < hs.length := by rw [← h.lF]; exact hi
  have lf := h.wF _ (List.getElem_mem hi)
  refine ⟨lf, fun r hr => ?_, m0, mb⟩
  obtain ⟨c, hc, rfl⟩ := List.getElem_of_mem hr
  have hcn : c < n := by omega
  have e1 : F[i][c] = tb F i c := by
    rw [tb_rw hi]
    unfold vc
    rw [getD_at hc]
  have hN : Zn N (L ^ hs.length) (dz k hs.length) (det hs.length (cset (fun b a => tb A a (hs.getD b 0)) i fun a => tb A a c)) := det_Z fun b a hb' ha => by
    by_cases e : b = i
    · rw [e, cset_same]
      have haA : a < A.length := by rw [h.lA]; exact ha
      rw [tb_rw haA]
      exact (hA _ (List.getElem_mem haA)).vc _
    · rw [cset_ne e]
      exact hV b a hb' ha
  have := q _ (hN.up (by omega)) (Nat.le_refl _)
  rw [h.cram hi' hcn] at this
  have e2 : det hs.length (fun b a => tb A a (hs.getD b 0)) * tb F i c * N.inv (det hs.length fun b a => tb A a (hs.getD b 0)) = tb F i c := by
    have := N.mi _ h.dt
    grind
  rw [e2] at this
  rw [e1]
  exact this.s
end
end DD

namespace DD
open PySem PySem.Spec L2 FbM
open PyProof.Rows hiding St
section
variable {X : Cx} {pins : List (Addr × Obj)} {σ : L2.St} {a kS : Addr} {vs : List Value} {kz : List Int} {keys : Array Value} {e e1 : Nat} {P : PySem.Fin → Shared → Prop} {A : Around} {EE : Value → Shared → Prop} {H : Hp} {s : Shared}
theorem sk_tail {st : SortSt} (ra : Rec X pins a) (rk : Rec X pins kS) (hka : kS ≠ a) (I : Inv X ((kS, seqObj "list" keys e) :: (a, seqObj "list" #[] e1) :: pins) σ H s)
    (hk : IntsAre keys.toList kz) (hlen : kz.length = vs.length) (hZ : vs.length ≤ sizeLine) (hp : (arrOf st).Perm (keys.zip vs.toArray)) (hs : SortedTo (arrOf st) (arrOf st).size) (hfl : failedOf st = none)
    (h : ∀ s' out c, Inv X ((a, seqObj "list" out c) :: pins) σ H s' → KskOut false kz vs out.toList → P (.done (.ret .none)) s') :
    wpAny (model X.prog X.w) A (ksk_tail a false e1 (.ref kS) st) P EE s := by
  have hZ2 := hZ
  rw [sizeLine_eq] at hZ2
  obtain ⟨gk, uk, _⟩ := I.pin (kS, seqObj "list" keys e) (List.mem_append_right _ (.head _))
  obtain ⟨ga, ua, na, fa, ca⟩ := I.pin (a, seqObj "list" #[] e1) (List.mem_append_right _ (.tail _ (.head _)))
  have I0 : Inv X pins σ H s := ClX.unpin (ClX.unpin I)
  have hsz : keys.size = vs.length := by
    have h1 := hk.length
    rw [Array.length_toList] at h1
    omega
  have hsz2 : (arrOf st).size = vs.length := by rw [hp.size_eq, Array.size_zip, hsz, List.size_toArray, Nat.min_self]
  have hout : ((arrOf st).map (·.2)).size = vs.length := by simp only [Array.size_map]; exact hsz2
  have s1 := Heap.SameBut.update s.heap kS (Obj.mapSeq fun _ => (#[] : Array Value))
  have na1 : (s.heap.update kS (Obj.mapSeq fun _ => (#[] : Array Value))).get? a = some (seqObj "list" #[] e1) := (s1.2 a hka.symm).trans ga
  have s2 := Heap.SameBut.update (s.heap.update kS (Obj.mapSeq fun _ => (#[] : Array Value))) a (Obj.mapSeq fun _ => (arrOf st).map (·.2))
  obtain ⟨c2, hc2⟩ : ∃ c2, ((s.heap.update kS (Obj.mapSeq fun _ => (#[] : Array Value))).update a (Obj.mapSeq fun _ => (arrOf st).map (·.2))).get? a = some (seqObj "list" ((arrOf st).map (·.2)) c2) :=
    ⟨_, get?_update_seq na1 fun _ => (arrOf st).map (·.2)⟩
  have I1 := rk.turn (t' := s.toks) I0 uk (h' := s.heap.update kS (Obj.mapSeq fun _ => (#[] : Array Value))) fun c o hc q => (s1.2 c hc).trans q
  have I2 := ra.turn (t' := s.toks) I1 ua (h' := (s.heap.update kS (Obj.mapSeq fun _ => (#[] : Array Value))).update a (Obj.mapSeq fun _ => (arrOf st).map (·.2))) fun c o hc q => (s2.2 c hc).trans q
  unfold ksk_tail
  try dsimp only
  refine wpAny_bind (listUpdate_at gk rfl ?_ (by rw [hsz, sizeLine_eq]; omega) (Nat.zero_le _))
  refine wpAny_bind (wpAny_letGo ?_)
  refine wpAny_bind (seqEpoch_at na1 rfl ?_)
  refine wpAny_bind (listUpdate_at na1 rfl ?_ (Nat.zero_le _) (Nat.le_trans (Nat.le_of_eq hout) (by rw [sizeLine_eq]; omega)))
  rw [hfl]
  simp only [bne_self_eq_false, Bool.false_eq_true, if_false]
  have ho := ksk_out (b := false) hk hp hs
  simp only [Bool.false_eq_true, if_false] at ho
  refine wpAny_pure (h _ _ c2 (I2.pins_of fun p hp => ?_) ho)
  rcases List.mem_cons.mp hp with rfl | hp
  · exact ⟨hc2, ua, na, fa, fun v z => by cases z⟩
  · exact I2.pin p (List.mem_append_right _ hp)
theorem sk_end (ra : Rec X pins a) (rk : Rec X pins kS) (hka : kS ≠ a) (I : Inv X ((kS, seqObj "list" keys e) :: (a, seqObj "list" #[] e1) :: pins) σ H s)
    (hk : IntsAre keys.toList kz) (hlen : kz.length = vs.length) (hZ : vs.length ≤ sizeLine)
    (h : ∀ s' out c, Inv X ((a, seqObj "list" out c) :: pins) σ H s' → KskOut false kz vs out.toList → P (.done (.ret .none)) s') :
    wpAny (model X.prog X.w) A (ksk_end a false vs.toArray e1 (.ref kS) keys) P EE s := by
  have hZ2 := hZ
  rw [sizeLine_eq] at hZ2
  have hsz : keys.size = vs.length := by
    have h1 := hk.length
    rw [Array.length_toList] at h1
    omega
  have hzs : (keys.zip vs.toArray).size = vs.length := by rw [Array.size_zip, hsz, List.size_toArray, Nat.min_self]
  unfold ksk_end
  try dsimp only
  simp only [Bool.false_eq_true, if_false]
  by_cases h2 : vs.toArray.size < 2
  · rw [if_pos h2, if_pos h2]
    refine wpAny_bind (wpAny_pure ?_)
    rw [StateT.run_pure]
    refine wpAny_bind (wpAny_pure ?_)
    try dsimp only
    refine sk_tail (st := SortSt.mk' general' (keys.zip vs.toArray) #[] 7 none) ra rk hka I hk hlen hZ (Array.Perm.refl _) ?_ rfl h
    intro i j hij hj
    have hj2 : j < (keys.zip vs.toArray).size := hj
    rw [hzs] at hj2
    rw [List.size_toArray] at h2
    have : i = j := by omega
    subst this
    exact Int.le_refl _
  · rw [if_neg h2, if_neg h2]
    rw [List.size_toArray] at h2
    rw [ksk_kind hk (by rw [hsz]; omega)]
    refine wpAny_bind (wpAny_pure ?_)
    refine wpAny_bind (wpAny_mono (wpS_sortRunsAny (κ := intKind) (a₀ := keys.zip vs.toArray) (st := SortSt.mk' oneType' (keys.zip vs.toArray) #[] 7 none)
      (Q := fun _ st' => (arrOf st').Perm (keys.zip vs.toArray) ∧ failedOf st' = none ∧ SortedTo (arrOf st') (keys.zip vs.toArray).size)
      intKind_oneLt (ksk_keysOfInt (ksk_intKeys hk)) ⟨Array.Perm.refl _, rfl, rfl⟩ rfl (by rw [hzs]; omega) fun st' a1 a2 a3 => ⟨a1, a2, sortedTo_of_int a3⟩) ?_ fun _ _ e => e)
    rintro ⟨⟨⟩, st'⟩ s' ⟨rfl, hp, hf, hs⟩
    try dsimp only
    exact sk_tail ra rk hka I hk hlen hZ hp (by rw [hp.size_eq]; exact hs) hf h
/-- the keys, one call after another -/
theorem sk_rest {f : Value} (KK : Nat → List Int → Hp → Prop) (ra : Rec X pins a) (rk : Rec X pins kS) (hka : kS ≠ a) (I : Inv X ((kS, seqObj "list" #[] 0) :: (a, seqObj "list" #[] e1) :: pins) σ H s) (hZ : vs.length ≤ sizeLine) (K0 : KK 0 [] H)
    (turn : ∀ (i : Nat) (v : Value) (ks : List Int) (H : Hp) (s' : Shared) (ps : List (Addr × Obj)), vs[i]? = some v → KK i ks H → Inv X ps σ H s' →
      wpAny (model X.prog X.w) A (call f [v]) (fun u s'' => ∃ k t H', u = .int k t ∧ KK (i + 1) (ks ++ [k]) H' ∧ Inv X ps σ H' s'') (fun _ _ => False) s')
    (h : ∀ s' out c kz H', KK vs.length kz H' → kz.length = vs.length → Inv X ((a, seqObj "list" out c) :: pins) σ H' s' → KskOut false kz vs out.toList → P (.done (.ret .none)) s') :
    wpAny (model X.prog X.w) A (ksk_rest a f false vs.toArray e1 (.ref kS)) P EE s := by
  have hZ2 := hZ
  rw [sizeLine_eq] at hZ2
  unfold ksk_rest
  refine wpAny_bind (wpAny_rule ?_)
  first
    | rw [List.forIn_toArray]
    | (rw [← Array.forIn_toList]; simp only [List.toList_toArray])
    | rw [← Array.forIn_toList]
  refine wpAny_bind (ksk_fold (fun i s' => ∃ H' kA e ks, KK i ks H' ∧ Inv X ((kS, seqObj "list" kA e) :: (a, seqObj "list" #[] e1) :: pins) σ H' s' ∧ IntsAre kA.toList ks ∧ ks.length = i) vs 0 s
    ⟨H, #[], 0, [], K0, I, by simpa using IntsAre.nil, rfl⟩ ?step ?done)
  case step =>
    rintro j x s' hx ⟨H', kA, e, ks, K', I', hk, hl⟩
    simp only [Nat.zero_add] at K' hl ⊢
    have hj : j < vs.length := (List.getElem?_eq_some_iff.mp hx).1
    have hz : kA.size ≤ vs.length := by
      have h1 := hk.length
      rw [Array.length_toList] at h1
      omega
    refine wpAny_bind (wpAny_attempt (wpAny_mono (turn j x ks H' s' _ hx K' I') (fun v s'' he => ?_) fun _ _ hF => hF.elim))
    obtain ⟨k, t2, H2, rfl, K2, I2⟩ := he
    try dsimp only
    obtain ⟨gk, uk, nk, fk, ck⟩ := I2.pin (kS, seqObj "list" kA e) (List.mem_append_right _ (.head _))
    obtain ⟨ga, ua, na, fa, ca⟩ := I2.pin (a, seqObj "list" #[] e1) (List.mem_append_right _ (.tail _ (.head _)))
    have s1 := Heap.SameBut.update s''.heap kS (Obj.mapSeq (·.push (.int k t2)))
    obtain ⟨c2, hc2⟩ : ∃ c2, (s''.heap.update kS (Obj.mapSeq (·.push (.int k t2)))).get? kS = some (seqObj "list" (kA.push (.int k t2)) c2) := ⟨_, get?_update_seq gk (·.push (.int k t2))⟩
    have ea : (kA.push (Value.int k t2)).toList = kA.toList ++ [Value.int k t2] := by simp
    have I0 : Inv X pins σ H2 s'' := ClX.unpin (ClX.unpin I2)
    have I3 := rk.turn (t' := s''.toks) I0 uk (h' := s''.heap.update kS (Obj.mapSeq (·.push (.int k t2)))) fun c o hc q => (s1.2 c hc).trans q
    refine wpAny_bind (listUpdate_at gk rfl ?_ (by rw [sizeLine_eq]; omega) (Nat.le_trans (Nat.le_of_eq (Array.size_push ..)) (by rw [sizeLine_eq]; omega)))
    refine wpAny_pure ⟨rfl, H2, kA.push (.int k t2), c2, ks ++ [k], K2, I3.pins_of fun p hp => ?_, by rw [ea]; exact ksk_snoc hk, by simp [hl]⟩
    rcases List.mem_cons.mp hp with rfl | hp
    · exact ⟨hc2, uk, nk, fk, fun v z => by cases z⟩
    · rcases List.mem_cons.mp hp with rfl | hp
      · exact ⟨(s1.2 a hka.symm).trans ga, ua, na, fa, fun v z => by cases z⟩
      · exact I3.pin p (List.mem_append_right _ hp)
  case done =>
    rintro s' ⟨H', kA, e, ks, K', I', hk, hl⟩
    simp only [Nat.zero_add] at K' hl
    obtain ⟨gk, _⟩ := I'.pin (kS, seqObj "list" kA e) (List.mem_append_right _ (.head _))
    try dsimp only
    refine wpAny_bind (listItems_at gk rfl ?_)
    exact sk_end ra rk hka I' hk hl hZ fun s2 out c I2 k2 => h s2 out c ks H' K' hl I2 k2
theorem sk_sort {f : Value} {n : Nat} (KK : Nat → List Int → Hp → Prop) (ra : Rec X pins a) (I : Inv X ((a, seqObj "list" vs.toArray n) :: pins) σ H s) (hZ : vs.length ≤ sizeLine) (K0 : KK 0 [] H)
    (turn : ∀ (i : Nat) (v : Value) (ks : List Int) (H : Hp) (s' : Shared) (ps : List (Addr × Obj)), vs[i]? = some v → KK i ks H → Inv X ps σ H s' →
      wpAny (model X.prog X.w) A (call f [v]) (fun u s'' => ∃ k t H', u = .int k t ∧ KK (i + 1) (ks ++ [k]) H' ∧ Inv X ps σ H' s'') (fun _ _ => False) s')
    (h : ∀ s' out c kz H', KK vs.length kz H' → kz.length = vs.length → Inv X ((a, seqObj "list" out c) :: pins) σ H' s' → KskOut false kz vs out.toList → P (.done (.ret .none)) s') :
    wpAny (model X.prog X.w) A (ksk_tree a f false) P EE s := by
  have hZ2 := hZ
  rw [sizeLine_eq] at hZ2
  obtain ⟨ga, ua, na, fa, ca⟩ := I.pin (a, seqObj "list" vs.toArray n) (List.mem_append_right _ (.head _))
  have I0 : Inv X pins σ H s := ClX.unpin I
  have ha : a < s.heap.objs.size := Heap.lt_size ga
  have s1 := Heap.SameBut.update s.heap a (Obj.mapSeq fun _ => (#[] : Array Value))
  obtain ⟨e1, ho1⟩ : ∃ e1, (s.heap.update a (Obj.mapSeq fun _ => (#[] : Array Value))).get? a = some (seqObj "list" #[] e1) := ⟨_, get?_update_seq ga fun _ => #[]⟩
  have I1 := ra.turn (t' := s.toks) I0 ua (h' := s.heap.update a (Obj.mapSeq fun _ => (#[] : Array Value))) fun c o hc q => (s1.2 c hc).trans q
  have hkS : ((s.heap.update a (Obj.mapSeq fun _ => (#[] : Array Value))).push (seqObj "tuple" vs.toArray 0)).objs.size = s.heap.objs.size + 1 := by rw [size_push', Heap.size_update]
  have I2 := I1.kept (t' := s.toks) (h' := ((s.heap.update a (Obj.mapSeq fun _ => (#[] : Array Value))).push (seqObj "tuple" vs.toArray 0)).push (seqObj "list" #[] 0)) fun b u q => Heap.get?_push_of_some _ (Heap.get?_push_of_some _ q)
  have ge : (s.heap.update a (Obj.mapSeq fun _ => (#[] : Array Value))).objs.size ≤ ((s.heap.update a (Obj.mapSeq fun _ => (#[] : Array Value))).push (seqObj "tuple" vs.toArray 0)).objs.size := by rw [hkS, Heap.size_update]; omega
  have rk : Rec X pins ((s.heap.update a (Obj.mapSeq fun _ => (#[] : Array Value))).push (seqObj "tuple" vs.toArray 0)).objs.size := rec_new I1 ge
  have hka : ((s.heap.update a (Obj.mapSeq fun _ => (#[] : Array Value))).push (seqObj "tuple" vs.toArray 0)).objs.size ≠ a := by rw [hkS]; exact Nat.ne_of_gt (Nat.lt_succ_of_lt ha)
  have uk := I1.hok.fresh ge
  unfold ksk_tree
  refine wpAny_bind (listItems_at ga rfl ?_)
  refine wpAny_bind (listUpdate_at ga rfl ?_ (by rw [List.size_toArray, sizeLine_eq]; omega) (Nat.zero_le _))
  refine wpAny_bind (seqEpoch_at ho1 rfl ?_)
  refine wpAny_bind (wpAny_newTuple ?_ (by show vs.length ≤ _; rw [sizeLine_eq]; omega))
  refine wpAny_bind (wpAny_newList ?_ (Nat.zero_le _))
  refine wpAny_holding ?_
  refine sk_rest (s := { s with heap := ((s.heap.update a (Obj.mapSeq fun _ => (#[] : Array Value))).push (seqObj "tuple" vs.toArray 0)).push (seqObj "list" #[] 0) }) (e1 := e1) KK ra rk hka (I2.pins_of fun p hp => ?_) hZ K0 turn h
  rcases List.mem_cons.mp hp with rfl | hp
  · exact ⟨Heap.get?_push_size _ rfl, uk, rk.nl, I1.nofs ge, fun v z => by cases z⟩
  · rcases List.mem_cons.mp hp with rfl | hp
    · exact ⟨Heap.get?_push_of_some _ (Heap.get?_push_of_some _ ho1), ua, na, fa, fun v z => by cases z⟩
    · exact I2.pin p (List.mem_append_right _ hp)
end
section
variable {X : Cx} {pins : List (Addr × Obj)} {σ : L2.St} {l : Addr} {vs : List Value} {Q : Value → Shared → Prop} {EE : Value → Shared → Prop} {H : Hp} {s : Shared} {A : Around}
/-- sorted(l, key=f), f a def -/
theorem sk_sorted {f : Addr} (KK : Nat → List Int → Hp → Prop) (I : Inv X pins σ H s) (hl : s.heap.IsList l vs.toArray) (hZ : vs.length ≤ sizeLine) (K0 : KK 0 [] H)
    (turn : ∀ (i : Nat) (v : Value) (ks : List Int) (H : Hp) (s' : Shared) (ps : List (Addr × Obj)), vs[i]? = some v → KK i ks H → Inv X ps σ H s' →
      wpAny (model X.prog X.w) A.in1.in1 (call (.ref f) [v]) (fun u s'' => ∃ k t H', u = .int k t ∧ KK (i + 1) (ks ++ [k]) H' ∧ Inv X ps σ H' s'') (fun _ _ => False) s')
    (h : ∀ s' D out c kz H', Rec X pins D → KK vs.length kz H' → kz.length = vs.length → Inv X ((D, seqObj "list" out c) :: pins) σ H' s' → KskOut false kz vs out.toList → Q (.ref D) s') :
    wpAny (model X.prog X.w) A (call (.builtin "sorted") [.ref l] [(Str.ofString "key", .ref f)]) Q EE s := by
  have hZ2 := hZ
  rw [sizeLine_eq] at hZ2
  refine call_function_entry_kw kind_sorted plain_sorted entry_sorted (ksk_s1 _ _) ?_
  unfold Builtin.«sorted»
  refine wpAny_bind (m := checkCount "sorted" 1 1 _) (wpAny_pure ?_)
  refine wpAny_bind (collect_list hl ?_ (by rw [sizeLine_eq]; omega))
  refine wpAny_bind (wpAny_newList ?_ (by rw [sizeLine_eq]; omega))
  have hsz : ((s.heap.push (seqObj "list" #[] 0)).update s.heap.objs.size (Obj.mapSeq (· ++ vs.toArray))).objs.size = s.heap.objs.size + 1 := by
    rw [Heap.size_update, size_push']
  have hoL : (((s.heap.push (seqObj "list" #[] 0)).update s.heap.objs.size (Obj.mapSeq (· ++ vs.toArray))).push (seqObj "list" vs.toArray 0)).get? (s.heap.objs.size + 1) = some (seqObj "list" vs.toArray 0) := by
    rw [← hsz]; exact Heap.get?_push_size _ rfl
  have keep : ∀ b o, s.heap.get? b = some o → (((s.heap.push (seqObj "list" #[] 0)).update s.heap.objs.size (Obj.mapSeq (· ++ vs.toArray))).push (seqObj "list" vs.toArray 0)).get? b = some o := fun b o q => by
    have hlt : b < s.heap.objs.size := Heap.lt_size q
    rw [Heap.get?_push_ne _ _ _ (by rw [hsz]; exact Nat.ne_of_lt (Nat.lt_succ_of_lt hlt)), Heap.get?_update_ne _ _ _ _ (Nat.ne_of_lt hlt), Heap.get?_push_ne _ _ _ (Nat.ne_of_lt hlt)]
    exact q
  have I1 := I.kept (t' := s.toks) keep
  have rD : Rec X pins (s.heap.objs.size + 1) := rec_new I (Nat.le_succ _)
  have uD := I.hok.fresh (a := s.heap.objs.size + 1) (Nat.le_succ _)
  have J : Inv X ((s.heap.objs.size + 1, seqObj "list" vs.toArray 0) :: pins) σ H { s with heap := ((s.heap.push (seqObj "list" #[] 0)).update s.heap.objs.size (Obj.mapSeq (· ++ vs.toArray))).push (seqObj "list" vs.toArray 0) } := I1.pins_of fun p hp => by
    rcases List.mem_cons.mp hp with rfl | hp
    · exact ⟨hoL, uD, rD.nl, I.nofs (Nat.le_succ _), fun v z => by cases z⟩
    · exact I1.pin p (List.mem_append_right _ hp)
  show wpAny _ _ _ _ _ { s with heap := ((s.heap.push (seqObj "list" #[] 0)).update s.heap.objs.size (Obj.mapSeq (· ++ vs.toArray))).push (seqObj "list" vs.toArray 0) }
  rw [hsz]
  refine wpAny_bind (wpAny_holding (wpAny_call_entry_kw slot_list_sort ⟨_, hoL, rfl⟩ entry_list_sort ?body (ksk_l1 _ _)))
  case body =>
    have ht' := ksk_t1 f (s.heap.objs.size + 1)
    show wpAny (model X.prog X.w) A.in1.in1 (Builtin.«list.sort» ⟨[.ref (s.heap.objs.size + 1)], [(Str.ofString "key", .ref f)]⟩) _ _ _
    rw [ht']
    refine sk_sort (s := { s with heap := ((s.heap.push (seqObj "list" #[] 0)).update s.heap.objs.size (Obj.mapSeq (· ++ vs.toArray))).push (seqObj "list" vs.toArray 0) }) KK rD J hZ K0 turn fun s' out c kz H' K' hl' I' k' => ⟨_, rfl, ?_⟩
    exact wpAny_pure ⟨_, rfl, h s' _ out c kz H' rD K' hl' I' k'⟩
end
end DD

namespace DD
open PySem PySem.Spec L2 FbM
open PyProof.Rows hiding St
section
variable {α β : Type}
def insK (p : Int × α) : List (Int × α) → List (Int × α)
  | [] => [p]
  | q :: l => if p.1 ≤ q.1 then p :: q :: l else q :: insK p l
def sortP : List (Int × α) → List (Int × α)
  | [] => []
  | p :: l => insK p (sortP l)
theorem insK_perm {p : Int × α} : ∀ {l : List (Int × α)}, (insK p l).Perm (p :: l)
  | [] => List.Perm.refl _
  | q :: l => by
    unfold insK
    split
    · exact List.Perm.refl _
    · exact (List.Perm.cons q insK_perm).trans (List.Perm.swap p q l)
theorem sortP_perm : ∀ {l : List (Int × α)}, (sortP l).Perm l
  | [] => List.Perm.refl _
  | p :: l => insK_perm.trans (List.Perm.cons p sortP_perm)
abbrev SrtK (l : List (Int × α)) : Prop := l.Pairwise fun p q => p.1 ≤ q.1
theorem insK_srt {p : Int × α} : ∀ {l : List (Int × α)}, SrtK l → SrtK (insK p l)
  | [], _ => List.pairwise_singleton _ _
  | q :: l, h => by
    have h' := List.pairwise_cons.mp h
    unfold insK
    split
    · rename_i hle
      refine List.pairwise_cons.mpr ⟨fun r hr => ?_, h⟩
      rcases List.mem_cons.mp hr with rfl | hr
      · exact hle
      · exact Int.le_trans hle (h'.1 r hr)
    · rename_i hle
      refine List.pairwise_cons.mpr ⟨fun r hr => ?_, insK_srt h'.2⟩
      rcases List.mem_cons.mp ((insK_perm (p := p)).mem_iff.mp hr) with rfl | hr
      · omega
      · exact h'.1 r hr
theorem sortP_srt : ∀ {l : List (Int × α)}, SrtK (sortP l)
  | [] => List.Pairwise.nil
  | p :: l => insK_srt sortP_srt
theorem insK_map {f : α → β} {p : Int × α} : ∀ {l : List (Int × α)}, (insK p l).map (fun q => (q.1, f q.2)) = insK (p.1, f p.2) (l.map fun q => (q.1, f q.2))
  | [] => rfl
  | q :: l => by
    show (if p.1 ≤ q.1 then p :: q :: l else q :: insK p l).map (fun q => (q.1, f q.2)) = if p.1 ≤ q.1 then (p.1, f p.2) :: (q.1, f q.2) :: l.map (fun q => (q.1, f q.2)) else (q.1, f q.2) :: insK (p.1, f p.2) (l.map fun q => (q.1, f q.2))
    by_cases h : p.1 ≤ q.1
    · rw [if_pos h, if_pos h]; rfl
    · rw [if_neg h, if_neg h, List.map_cons, insK_map]
theorem sortP_map {f : α → β} : ∀ {l : List (Int × α)}, (sortP l).map (fun q => (q.1, f q.2)) = sortP (l.map fun q => (q.1, f q.2))
  | [] => rfl
  | p :: l => by
    show (insK p (sortP l)).map _ = insK (p.1, f p.2) (sortP (l.map fun q => (q.1, f q.2)))
    rw [insK_map, sortP_map]
theorem srt_uniq : ∀ {l m : List (Int × α)}, SrtK l → SrtK m → l.Perm m → (l.map (·.1)).Nodup → l = m
  | [], m, _, _, h, _ => (List.Perm.eq_nil h.symm).symm
  | a :: l, [], _, _, h, _ => absurd h.length_eq (by simp)
  | a :: l, b :: m, hl, hm, h, nd => by
    have hl' := List.pairwise_cons.mp hl
    have hm' := List.pairwise_cons.mp hm
    rw [List.map_cons] at nd
    have nd' := List.nodup_cons.mp nd
    have ab : a = b := by
      rcases List.mem_cons.mp (h.mem_iff.mp (List.mem_cons_self (a := a) (l := l))) with e | ha
      · exact e
      rcases List.mem_cons.mp (h.mem_iff.mpr (List.mem_cons_self (a := b) (l := m))) with e | hb
      · exact e.symm
      have h1 := hm'.1 a ha
      have h2 := hl'.1 b hb
      have e : a.1 = b.1 := by omega
      exact absurd (List.mem_map.mpr ⟨b, hb, e.symm⟩) nd'.1
    subst ab
    rw [srt_uniq hl'.2 hm'.2 h.cons_inv nd'.2]
end
variable [LamN]
section
variable {K : PySem.W.Frag} {mg : Str → Option Value}
theorem repDs_pairs {α : Type} {Z : Hp} {f : α → V} {g : α → D} : ∀ {l : List α}, (∀ p ∈ l, RepD K mg Z (f p) (g p)) → RepDs K mg Z (l.map f) (l.map g)
  | [], _ => .nil
  | p :: l, h => .cons (h p (by simp)) (repDs_pairs fun q hq => h q (List.mem_cons_of_mem _ hq))
theorem repDs_zip {Z : Hp} : ∀ {xs : List V} {ds : List D}, RepDs K mg Z xs ds → ∀ p ∈ xs.zip ds, RepD K mg Z p.1 p.2
  | [], [], _, p, hp => by simp at hp
  | x :: xs, d :: ds, h, p, hp => by
    cases h with
    | cons h1 h2 =>
      rw [List.zip_cons_cons] at hp
      rcases List.mem_cons.mp hp with rfl | hp
      · exact h1
      · exact repDs_zip h2 p hp
theorem zip3a {α β γ : Type} : ∀ {ks : List γ} {xs : List α} {ds : List β}, xs.length = ds.length → (ks.zip (xs.zip ds)).map (fun q => (q.1, q.2.1)) = ks.zip xs
  | [], _, _, _ => by simp
  | _ :: _, [], _, _ => by simp
  | k :: ks, x :: xs, [], h => by simp at h
  | k :: ks, x :: xs, d :: ds, h => by
    rw [List.zip_cons_cons, List.zip_cons_cons, List.map_cons, zip3a (by simpa using h), List.zip_cons_cons]
theorem zip3b {α β γ : Type} : ∀ {ks : List γ} {xs : List α} {ds : List β}, xs.length = ds.length → (ks.zip (xs.zip ds)).map (fun q => (q.1, q.2.2)) = ks.zip ds
  | [], _, _, _ => by simp
  | _ :: _, [], [], _ => by simp
  | _ :: _, [], _ :: _, h => by simp at h
  | k :: ks, x :: xs, [], h => by simp at h
  | k :: ks, x :: xs, d :: ds, h => by
    rw [List.zip_cons_cons, List.zip_cons_cons, List.map_cons, zip3b (by simpa using h), List.zip_cons_cons]
theorem repDs_sort {Z : Hp} {xs : List V} {ds : List D} {ks : List Int} (h : RepDs K mg Z xs ds) : RepDs K mg Z ((sortP (ks.zip xs)).map (·.2)) ((sortP (ks.zip ds)).map (·.2)) := by
  have e1 := zip3a (ks := ks) h.length
  have e2 := zip3b (ks := ks) h.length
  rw [← e1, ← e2, ← sortP_map (f := fun q : V × D => q.1), ← sortP_map (f := fun q : V × D => q.2), List.map_map, List.map_map]
  refine repDs_pairs (f := fun q : Int × (V × D) => q.2.1) (g := fun q => q.2.2) fun p hp => ?_
  have := sortP_perm.mem_iff.mp hp
  exact repDs_zip h p.2 (List.of_mem_zip this).2
theorem Sta.tops {b : Base} {Z H : Hp} {σ : L2.St} {ρ : DEnv} {vs : List V} {as : List A} : ∀ {xs : List V} {ds : List D}, xs.length = ds.length → Sta K mg b Z H σ ρ (xs ++ vs) (ds.map A.v ++ as) → RepDs K mg Z xs ds
  | [], [], _, _ => .nil
  | [], _ :: _, h, _ => by simp at h
  | _ :: _, [], h, _ => by simp at h
  | x :: xs, d :: ds, h, S => .cons S.top (Sta.tops (by simpa using h) S.pop)
end
def rKeys (sp : L2.Sp) : List V → Hp → (List Int → Hp → Prop) → Prop
  | [], H, Q => Q [] H
  | x :: r, H, Q => sp [x] H (fun v H' => ∃ n, v = .int n ∧ rKeys sp r H' fun ns H'' => Q (n :: ns) H'') fun _ _ _ => False
def keysD (F : Fn) : List D → Option (List Int)
  | [] => some []
  | d :: ds => match F [.v d] with
    | .ok (.v (.int k)) _ => (keysD F ds).map (k :: ·)
    | _ => none
theorem keysD_len {F : Fn} : ∀ {ds : List D} {ks : List Int}, keysD F ds = some ks → ks.length = ds.length
  | [], ks, h => by cases h; rfl
  | d :: ds, ks, h => by
    unfold keysD at h
    split at h
    · cases e : keysD F ds with
      | none => rw [e] at h; cases h
      | some l =>
        rw [e] at h
        cases h
        simp [keysD_len e]
    · cases h
theorem back_val {a : A} {l : List A} {ρ : DEnv} : back [.val a] l ρ = ρ := by cases l <;> rfl
theorem keys_go {C : SC} (hW : C.W = fun _ _ _ _ => False) {F : Fn} {b : Base} {σ : L2.St} {ρ : DEnv} {vs : List V} {as : List A} (hb : C.Of b) : ∀ {ds : List D} {xs : List V} {ks : List Int} {Z H : Hp} {Q : List Int → Hp → Prop}, keysD F ds = some ks → xs.length = ds.length →
    Sta C.K C.mg b Z H σ ρ (xs ++ vs) (ds.map A.v ++ as) → (∀ Z' H', Sta C.K C.mg b Z' H' σ ρ vs as → Q ks H') → rKeys (fun vs H Q _ => spD C.K C.mg F vs H Q fun _ _ _ => False) xs H Q
  | [], [], ks, Z, H, Q, e, _, S, k => by cases e; exact k Z H S
  | [], _ :: _, _, _, _, _, _, h, _, _ => by simp at h
  | _ :: _, [], _, _, _, _, _, h, _, _ => by simp at h
  | d :: ds, x :: xs, ks, Z, H, Q, e, hl, S, k => by
    unfold keysD at e
    split at e
    · rename_i n l' eF
      cases e2 : keysD F ds with
      | none => rw [e2] at e; cases e
      | some ks' =>
        rw [e2] at e
        cases e
        show spD C.K C.mg F ([x] ++ []) H _ _
        refine go_call (C := C) (ds := []) (ys := []) (σ := σ) (pv := [x]) (pa := [.v d]) (l := [.val (.v d)]) (fun _ => .nil) (.val .nil) (fun _ _ _ z => z.elim) (fun _ _ _ z => by rw [hW] at z; exact z) ?_
        refine ⟨b, Z, ρ, xs ++ vs, ds.map A.v ++ as, hb, rfl, S, ?_⟩
        have eg : gath [AV.val (A.v d)] ρ = some ([.v d], ρ) := rfl
        dsimp only
        rw [eg]
        dsimp only
        rw [List.map_nil, List.append_nil, eF]
        dsimp only
        rw [back_val]
        intro Z' H' v S'
        have t := S'.top
        cases t
        exact ⟨n, rfl, keys_go hW hb e2 (by simpa using hl) S'.pop fun Z2 H2 S2 => k Z2 H2 S2⟩
    · cases e
open Classical in
noncomputable def dSortK (e : M A) (F : Fn) : M A := e.bind fun a ρ => match lstD a.frz with
  | some ds => match keysD F ds with
    | some ks => if ks.Nodup then .ok (.m (((sortP (ks.zip ds)).map (·.2)).map A.v)) ρ else .bad
    | none => .bad
  | none => .bad
def rSortF (K : PySem.W.Frag) (sp : L2.Sp) (f : Addr) : List V → List V → Hp → VK → Prop := fun vs zs H Q => ∃ (a : Addr) (xs : List V), vs = [V.ref a] ∧ zs = [V.ref f] ∧ SqL K H a xs ∧ rKeys sp xs H fun ks H' => ks.Nodup ∧ ks.length = xs.length ∧ ∀ p, H' p = none → Q (.ref p) (upd H' p (.lst ((sortP (ks.zip xs)).map (·.2))))
section
variable {X : Cx}
theorem cr_sortF {k : Nat} {f : Addr} {fd : FuncData} {ps : List Str} {us : List Value} {ys : List V} {sp : L2.Sp} (F : FnOk X.prog X.w X.K X.mg X.base CX0 k f fd ps sp) (hr : Room (k + 1) X.A) (hb : Binds X.K fd ps us) (hd : Vals ys us) (hy : ys = []) :
    CallRK X (.builtin "sorted") [Str.ofString "key"] (rSortF X.K sp f) := by
  subst hy
  cases hd
  intro pins s σ H vs zs us ws Q I r rz h
  obtain ⟨a, xs, rfl, rfl, hs, q⟩ := h
  obtain rfl := Vals.ref1 r
  obtain ⟨w1, rfl, e1⟩ := vals1 rz
  obtain rfl : w1 = Value.ref f := e1
  obtain ⟨its, rv, hl, hz⟩ := I.list hs
  have hr2 : Room k X.A.in1.in1 := ⟨hr.hd, by have := hr.dp; show X.A.depth + 3 * k + 5 < _; omega, by have := hr.un; show X.A.units + 1 + 1 + 16 * k + 200 < _; omega⟩
  refine sk_sorted (f := f) (KK := fun i ks H' => ks.length = i ∧ rKeys sp (xs.drop i) H' fun ns H2 => (ks ++ ns).Nodup ∧ (ks ++ ns).length = xs.length ∧ ∀ p, H2 p = none → Q (.ref p) (upd H2 p (.lst ((sortP ((ks ++ ns).zip xs)).map (·.2))))) I hl.isList (by rw [← rv.length]; exact hz) ⟨rfl, by simpa using q⟩ ?_ ?_
  · intro i v ks H1 s1 ps1 hv ⟨hki, hk⟩ I1
    obtain ⟨x, hx, rx⟩ : ∃ x, xs[i]? = some x ∧ RelV x v := by
      have hi : i < its.length := (List.getElem?_eq_some_iff.mp hv).1
      have hi2 : i < xs.length := by rw [rv.length]; exact hi
      obtain ⟨u, hu, rx⟩ := rv.get (List.getElem?_eq_getElem hi2)
      rw [hv] at hu
      cases hu
      exact ⟨_, List.getElem?_eq_getElem hi2, rx⟩
    have hi2 : i < xs.length := (List.getElem?_eq_some_iff.mp hx).1
    have hdrop : xs.drop i = x :: xs.drop (i + 1) := by
      rw [List.drop_eq_getElem_cons hi2]
      congr 1
      have := List.getElem?_eq_some_iff.mp hx
      exact this.2
    rw [hdrop] at hk
    have r2 : Vals [x] [v] := .cons rx .nil
    have hlp : ([v] : List Value).length = ps.length := by
      have := F.len _ _ _ _ hk
      simpa using this
    have env := I1.env0
    have env2 : Env0 X.prog X.w X.K X.mg X.base X.A.in1.in1 X.stack s1 H1 := env.in1.in1
    refine wpAny_call (codeAny_mono (F.run X.A.in1.in1 X.stack s1 H1 ⟨[v], []⟩ [v] [x] _ _ hr2 env2 (by have := hb s1 [v] I1.kIn (by simpa using hlp); simpa using this) r2 hk) fun rr s2 hq => ?_)
    cases rr with
    | error e => exact False.elim hq
    | ok fl =>
      cases fl with
      | ret u =>
        obtain ⟨v2, H2, I2, rv2, n, en, hk2⟩ := I1.after hq
        subst en
        obtain ⟨t, rfl⟩ := rv2
        exact ⟨n, t, H2, rfl, ⟨by simp [hki], by simpa [List.append_assoc] using hk2⟩, I2⟩
      | next => exact False.elim hq
      | brk => exact False.elim hq
      | cont => exact False.elim hq
  · intro s1 D out c kz H1 rD ⟨_, hk⟩ hkl I1 ko
    rw [← rv.length, List.drop_length] at hk
    obtain ⟨nd, hlen, qf⟩ := hk
    rw [List.append_nil] at nd hlen qf
    obtain ⟨gD, uD, nD, fD, cD⟩ := I1.pin (D, seqObj "list" out c) (List.mem_append_right _ (.head _))
    have I0 : Inv X pins σ H1 s1 := ClX.unpin I1
    obtain ⟨pz, hp, ho, hsrt⟩ := ko
    simp only [Bool.false_eq_true, if_false] at hsrt
    have epz : pz = sortP (kz.zip its) := srt_uniq hsrt sortP_srt (hp.trans sortP_perm.symm) (by
      refine (hp.map _).nodup_iff.mpr ?_
      rw [List.map_fst_zip (by rw [hkl]; exact Nat.le_refl _)]
      exact nd)
    have rout : Vals ((sortP (kz.zip xs)).map (·.2)) out.toList := by
      rw [ho, epz]
      have e1 := zip3a (ks := kz) rv.length
      have e2 := zip3b (ks := kz) rv.length
      rw [← e1, ← e2, ← sortP_map (f := fun q : V × Value => q.1), ← sortP_map (f := fun q : V × Value => q.2), List.map_map, List.map_map]
      have all : ∀ p ∈ sortP (kz.zip (xs.zip its)), RelV p.2.1 p.2.2 := fun p hp => by
        have := (List.of_mem_zip (sortP_perm.mem_iff.mp hp)).2
        obtain ⟨i, hi, e⟩ := List.getElem_of_mem this
        rw [List.getElem_zip] at e
        have hix : i < xs.length := by rw [List.length_zip] at hi; omega
        have hii : i < its.length := by rw [List.length_zip] at hi; omega
        obtain ⟨u, hu, rx⟩ := rv.get (List.getElem?_eq_getElem hix)
        rw [List.getElem?_eq_getElem hii] at hu
        cases hu
        rw [← e]
        exact rx
      generalize sortP (kz.zip (xs.zip its)) = T at all
      clear e1 e2
      induction T with
      | nil => exact .nil
      | cons p T ih => exact .cons (all p (by simp)) (ih fun q hq => all q (List.mem_cons_of_mem _ hq))
    have new : ObjOk X.prog X.w (upd H1 D (.lst ((sortP (kz.zip xs)).map (·.2)))) s1.heap D (.lst ((sortP (kz.zip xs)).map (·.2))) := ⟨by rw [List.length_map, sortP_perm.length_eq, List.length_zip]; omega, out.toList, c, rout, by rw [Array.toArray_toList]; exact gD⟩
    refine ⟨.ref D, _, I0.step (g' := s1.gens) (d' := s1.drawn) (t' := s1.toks) (h' := s1.heap) (ch := [D]) (fun b hb => ?_) (fun b o _ _ _ e _ => e) (fun b o _ _ _ e _ => ⟨o.slots, e⟩) (fun b o hb e n => ?_) (fun b o _ e => ⟨o, e⟩) (fun b ys e => ?_) (fun b o u e => ?_) (fun b ps e => ?_) (fun m hm => hm) (fun b u e => ?_) I0.bare, rfl, qf D uD⟩
    · have e : b = D := by simpa using hb
      subst e
      exact ⟨.inr rD.ge, rD.nl, rD.ce, rD.pn⟩
    · rw [upd_ne (fun z => hb (by simp [z]))]; exact n
    · rw [upd_ne (ne_of_none e uD)]; exact e
    · rw [upd_ne (ne_of_none e uD)]; exact e
    · exact ⟨#[], by rw [upd_ne (ne_of_none e uD), e]; simp⟩
    · by_cases hbD : b = D
      · subst hbD
        rw [L2.upd_same] at e
        cases e
        exact new
      · rw [upd_ne hbD] at e
        exact (I0.hok b u e).stay (fun _ _ _ q => q) (fun c q => by rw [upd_ne (ne_of_none q uD)]; exact q) fun c ys q => by rw [upd_ne (ne_of_none q uD)]; exact q
end
section
variable {X : Cx} {C : SC} {x : Str} {p p2 kp pos : Pos} {e : Expr} {g : M A} {F : Fn} {k : Nat}
theorem de_sortK (c : CalD X.prog X.w X.K X.mg X.base k x F []) (hr : Room (k + 1) X.A) (hg : Gl X x) (hs : Gl X "sorted") (hms : X.mg "sorted" = none) (hK : X.K = C.K) (hM : X.mg = C.mg) (hW : C.W = fun _ _ _ _ => False) (he : PE X e (tE C g)) (hdb : (x == ("__debug__" : Str)) = false := by decide)
    (hst : backTo pos (starEach [e] X.env) = (false, eval e X.env) :: backTo pos (starEach [] X.env) := by rfl) (hst2 : starEach [e] X.env = (false, eval e X.env) :: starEach [] X.env := by rfl) (hpl : (backTo pos (starEach [e] X.env)).any (·.1) = false := by rfl)
    (hall : (backToKw pos (keywordEach [⟨some "key", .Name x p2, kp⟩] X.env)).all (·.1.isSome) = true := by rfl) (hnone : (backToKw pos (keywordEach [⟨some "key", .Name x p2, kp⟩] X.env)).any (·.1.isNone) = false := by rfl) (hks : (backToKw pos (keywordEach [⟨some "key", .Name x p2, kp⟩] X.env)).filterMap (·.1) = [Str.ofString "key"] := by rfl) :
    PE X (.Call (.Name "sorted" p) [e] [⟨some "key", .Name x p2, kp⟩] pos) (tE C (dSortK g F)) := by
  obtain ⟨f, fd, ps, us, ys, F', h1, h2, h3, h4, h5⟩ := c.ex
  have hy : ys = [] := by
    have := (h5 (fun _ => none)).length
    exact List.length_eq_zero_iff.mp this
  refine PE.w (pe_callBK (id := "sorted") (cr_sortF F' hr h3 h4 hy) hs hms rfl (pa_cons he pa_nil hst2) (pk_cons (pe_glob (v := V.ref f) hg h1 rfl hdb) pk_nil) (by decide) (by decide) hst hpl hall hnone hks) fun σ H Q q => ?_
  unfold dSortK at q
  show tE C g σ H fun x H1 => rSortF X.K _ f [x] [.ref f] H1 Q
  have q2 : Go C (finE C σ Q) [] [] (g.bind fun a ρ => match lstD a.frz with
    | some ds => match keysD F ds with
      | some ks => if ks.Nodup then .ok (.m (((sortP (ks.zip ds)).map (·.2)).map A.v)) ρ else .bad
      | none => .bad
    | none => .bad) σ H := q
  refine (Go.bindE q2).mono fun x H1 ⟨a, k⟩ => ?_
  obtain ⟨b, Z, ρ, vs, as, hb, hl, S, k⟩ := k
  obtain ⟨Z', zz, S'⟩ := Sta.freeze (x := x) (a := a) (vs := vs) (as := as) S
  dsimp only at k
  cases ed : lstD a.frz with
  | none => rw [ed] at k; exact k.elim
  | some ds =>
    rw [ed] at k
    dsimp only at k
    cases ek : keysD F ds with
    | none => rw [ek] at k; exact k.elim
    | some ks =>
      rw [ek] at k
      dsimp only at k
      by_cases nd : ks.Nodup
      · rw [if_pos nd] at k
        obtain ⟨p, xs, rfl, hsq, r⟩ := RepD.lsq S'.top S'.zh ed
        refine ⟨p, xs, rfl, rfl, by rw [hK]; exact hsq, ?_⟩
        have S2 : Sta C.K C.mg b Z' H1 σ ρ (xs ++ (xs ++ vs)) (ds.map A.v ++ (ds.map A.v ++ as)) := (S'.pop.pushes r).pushes r
        rw [hK, hM]
        refine keys_go hW hb ek r.length S2 fun Z2 H2 S3 => ⟨nd, by rw [keysD_len ek, r.length], fun p2 hp2 => ?_⟩
        have r2 := S3.tops r.length
        have S4 := S3.pops (by rw [List.length_map]; exact r.length)
        have r3 := repDs_sort (ks := ks) r2
        have S5 := S4.pushes r3
        exact k Z2 _ _ (S5.newM (r3.length.trans (List.length_map ..).symm) hp2)
      · rw [if_neg nd] at k
        exact k.elim
end
section
variable {ρ : DEnv} {E : Ex → DEnv → Prop} {Q : A → DEnv → Prop} {e : M A} {F : Fn}
theorem keysD_of {α : Type} {f : α → D} {kf : α → Int} : ∀ {l : List α}, (∀ x ∈ l, ∃ l', F [.v (f x)] = .ok (.v (.int (kf x))) l') → keysD F (l.map f) = some (l.map kf)
  | [], _ => rfl
  | x :: l, h => by
    obtain ⟨l', e⟩ := h x (by simp)
    rw [List.map_cons]
    unfold keysD
    rw [e]
    dsimp only
    rw [keysD_of fun y hy => h y (List.mem_cons_of_mem _ hy)]
    rfl
theorem w_sortK (k : Wp (e ρ) (fun a ρ1 => ∃ ds ks, lstD a.frz = some ds ∧ keysD F ds = some ks ∧ ks.Nodup ∧ Q (.m (((sortP (ks.zip ds)).map (·.2)).map A.v)) ρ1) E) : Wp (dSortK e F ρ) Q E := by
  unfold dSortK
  refine wp_bind (wp_mono k (fun a ρ1 ⟨ds, ks, e1, e2, nd, q⟩ => ?_) fun _ _ z => z)
  refine Wp.mk ?_
  rw [e1]
  dsimp only
  rw [e2]
  dsimp only
  rw [if_pos nd]
  exact q
end
end DD

namespace DD
open PySem PySem.Spec L2
open PyProof.Rows hiding St
variable [LamN]
section
variable {X : Cx}
end
section
variable {X : Cx} {C : SC} {a : Expr} {p p2 q pos : Pos} {g : M A}
end
section
variable {ρ : DEnv} {E : Ex → DEnv → Prop} {Q : A → DEnv → Prop} {e : M A}
end
end DD

namespace DD
open PySem PySem.Spec L2
open PyProof.Rows hiding St
variable [LamN]
section
variable {R : Type} [Lean.Grind.CommRing R]
variable {n p : Nat} {x y z a r f : List R} {c d : R} {A B F G T rows : List (List R)} {hs : List Nat}
theorem ls_app {g : List R → R} : ∀ {F G : List (List R)}, ls g (F ++ G) = ls g F + ls g G
  | [], G => by show ls g G = 0 + ls g G; grind
  | f :: F, G => by
    show g f + ls g (F ++ G) = g f + ls g F + ls g G
    rw [ls_app]; grind
theorem ls_rev {g : List R → R} : ∀ {F : List (List R)}, ls g F.reverse = ls g F
  | [] => rfl
  | f :: F => by
    rw [List.reverse_cons, ls_app, ls_rev]
    show ls g F + (g f + 0) = g f + ls g F
    grind
theorem ls_sm {g : List R → R} : ∀ {F : List (List R)}, ls g F = sm F.length fun l => g (F.getD l [])
  | [] => rfl
  | f :: F => by
    rw [List.length_cons, sm_head]
    show g f + ls g F = g f + _
    rw [ls_sm]
    rfl
/-- what remains of a row by the rows T, each told by its head -/
noncomputable def rem (T : List (List R)) (a : List R) (j : Nat) : R := vc a j - ls (fun f => vc a (hd f) * vc f j) T
theorem Rdc.rsd_rem (o : (1 : R) ≠ 0) (h : Rdc n A F hs) {j : Nat} : rsd F hs a j = rem F a j := by
  unfold rsd rem
  rw [ls_sm, h.lF]
  congr 1
  refine sm_congr fun l hl => ?_
  have hl' : l < F.length := by rw [h.lF]; exact hl
  have e : F.getD l [] = F[l] := by rw [List.getD_eq_getElem?_getD, List.getElem?_eq_getElem hl']; rfl
  rw [e, h.hd_at o hl', ← tb_rw hl']
theorem rem_rev {j : Nat} : rem F.reverse a j = rem F a j := by unfold rem; rw [ls_rev]
/-- taken off one after another -/
noncomputable def redF (T : List (List R)) (a : List R) : List R := T.foldl (fun r f => axp r f (-(vc r (hd f)))) a
theorem red_gen (h : Rf n F) : ∀ {T : List (List R)} {x : List R}, (∀ f ∈ T, f ∈ F) → T.Nodup → x.length = n → (∀ f ∈ T, vc x (hd f) = vc a (hd f)) → (redF T x).length = n ∧ ∀ j, j < n → vc (redF T x) j = vc x j - ls (fun f => vc a (hd f) * vc f j) T
  | [], x, _, _, lx, _ => ⟨lx, fun j _ => by show vc x j = vc x j - 0; grind⟩
  | f :: T, x, hT, nd, lx, hx => by
    have hf := hT f (by simp)
    have lf := h.w f hf
    have nd' := List.nodup_cons.mp nd
    have lx' := axp_len (c := -(vc x (hd f))) lx lf
    obtain ⟨h1, h2⟩ := red_gen h (T := T) (x := axp x f (-(vc x (hd f)))) (fun g hg => hT g (List.mem_cons_of_mem _ hg)) nd'.2 lx' fun g hg => by
      have hgF := hT g (List.mem_cons_of_mem _ hg)
      rw [axp_vc lx lf (h.hd g hgF), h.zero g hgF f hf fun e => nd'.1 (e ▸ hg), hx g (List.mem_cons_of_mem _ hg)]
      grind
    refine ⟨h1, fun j hj => ?_⟩
    show vc (redF T (axp x f (-(vc x (hd f))))) j = _
    rw [h2 j hj, axp_vc lx lf hj, hx f (by simp)]
    show _ = vc x j - (vc a (hd f) * vc f j + ls _ T)
    grind
theorem red_vc (h : Rf n F) (hT : ∀ f ∈ T, f ∈ F) (nd : T.Nodup) (la : a.length = n) : (redF T a).length = n ∧ ∀ j, j < n → vc (redF T a) j = rem T a j := red_gen h hT nd la fun _ _ => rfl
theorem redF_snoc : redF (T ++ [f]) a = axp (redF T a) f (-(vc (redF T a) (hd f))) := by
  unfold redF
  rw [List.foldl_append]
  rfl
theorem redF_sp (w : Wid n (a :: A)) : ∀ {T : List (List R)} {x : List R}, (∀ f ∈ T, Spn n A f) → Spn n (a :: A) x → Spn n (a :: A) (redF T x)
  | [], _, _, hx => hx
  | f :: T, x, hT, hx => by
    have h1 : ∀ g ∈ T, Spn n A g := fun g hg => hT g (List.mem_cons_of_mem _ hg)
    have h2 : Spn n (a :: A) f := (hT f (by simp)).mono fun b hb => List.mem_cons_of_mem _ hb
    have h3 := redF_sp w h1 (hx.ax w h2 (-(vc x (hd f))))
    exact h3
theorem Spn.scale (w : Wid n A) (h : Spn n A x) (c : R) : Spn n A (x.map (· * c)) := by
  have lx := h.len w
  have e : x.map (· * c) = axp (List.replicate n 0) x c := vc_ext (m := n) (by simp [lx]) (axp_len (by simp) lx) fun j hj => by
    rw [axp_vc (by simp) lx hj, vc_rep]
    unfold vc
    rw [getD_at (by simp [lx]; exact hj), getD_at (by omega), List.getElem_map]
    grind
  rw [e]
  exact (Spn.zero).ax w h c
theorem vc_scale {j : Nat} : vc (x.map (· * c)) j = vc x j * c := by
  unfold vc
  by_cases hj : j < x.length
  · rw [getD_at (by simp; exact hj), getD_at hj, List.getElem_map]
  · rw [List.getD_eq_getElem?_getD, List.getD_eq_getElem?_getD, List.getElem?_eq_none (by simp; omega), List.getElem?_eq_none (by omega)]
    show (0 : R) = 0 * c
    grind
theorem Rf.perm (h : Rf n F) (p : G.Perm F) : Rf n G :=
  ⟨fun g hg => h.w g (p.mem_iff.mp hg), fun g hg => h.hd g (p.mem_iff.mp hg), fun g hg => h.one g (p.mem_iff.mp hg), fun f hf g hg ne => h.zero f (p.mem_iff.mp hf) g (p.mem_iff.mp hg) ne, p.nodup_iff.mpr h.nd⟩
/-- rows in the order of their heads -/
noncomputable def srtH (F : List (List R)) : List (List R) := (sortP (F.map fun f => ((hd f : Int), f))).map (·.2)
theorem srtH_perm : (srtH F).Perm F := by
  have := (sortP_perm (l := F.map fun f => ((hd f : Int), f))).map (·.2)
  rw [List.map_map] at this
  have e : F.map ((fun q : Int × List R => q.2) ∘ fun f => ((hd f : Int), f)) = F := List.map_id' F
  rw [e] at this
  exact this
theorem srtH_sort (o : (1 : R) ≠ 0) (h : Rf n F) : SortH (srtH F) := by
  have hs := sortP_srt (l := F.map fun f => ((hd f : Int), f))
  have key : ∀ q ∈ sortP (F.map fun f => ((hd f : Int), f)), q.1 = (hd q.2 : Int) := fun q hq => by
    obtain ⟨f, _, rfl⟩ := List.mem_map.mp (sortP_perm.mem_iff.mp hq)
    rfl
  have nd := (h.perm (srtH_perm (F := F))).nd
  unfold SortH srtH at *
  rw [List.pairwise_map]
  rw [List.Nodup, List.pairwise_map] at nd
  have hm : ∀ q ∈ sortP (F.map fun f => ((hd f : Int), f)), q.2 ∈ F := fun q hq => by
    obtain ⟨f, hf, rfl⟩ := List.mem_map.mp (sortP_perm.mem_iff.mp hq)
    exact hf
  refine List.Pairwise.imp_of_mem ?_ (hs.and nd)
  intro p q hp hq ⟨h1, h2⟩
  have e1 := key p hp
  have e2 := key q hq
  have ne : hd p.2 ≠ hd q.2 := fun z => h2 (h.ne o (hm p hp) (hm q hq) z)
  omega
/-- the least rows of rows -/
structure Lst (n : Nat) (rows G : List (List R)) : Prop where
  rf : Rf n G
  so : SortH G
  sp : ∀ g ∈ G, Spn n rows g
  sr : ∀ a ∈ rows, Spn n G a
theorem Lst.uniq (o : (1 : R) ≠ 0) (w : Wid n A) (w' : Wid n B) (h : Lst n A F) (k : Lst n B G) (s1 : ∀ a ∈ A, Spn n B a) (s2 : ∀ b ∈ B, Spn n A b) : F = G :=
  h.rf.uniq o k.rf h.so k.so (fun f hf => ((h.sp f hf).trans w' s1).trans k.rf.w k.sr) fun g hg => ((k.sp g hg).trans w s2).trans h.rf.w h.sr
end
section
variable {g : Int} {R : Type} [Lean.Grind.CommRing R] {N : NumF g R} {L k n M e : Nat} {A F T : List (List R)} {hs : List Nat} {a x : List R}
theorem Rw.of_vc (hl : x.length = n) (L0 : 0 < L) (hb : Bd k (L : Int)) (h : ∀ j, j < n → Zn N L k (DD.vc x j)) : Rw N n L k x := ⟨hl, fun r hr => by
  obtain ⟨i, hi, rfl⟩ := List.getElem_of_mem hr
  have := h i (by omega)
  have e : DD.vc x i = x[i] := getD_at hi
  exact (e ▸ this).s, L0, hb⟩
theorem ls_Z {f : List R → R} (L0 : 0 < L) (hb : Bd k (L : Int)) : ∀ {T : List (List R)}, (∀ t ∈ T, Zn N L k (f t)) → Zn N L (k + T.length) (ls f T)
  | [], _ => ⟨N.Szero _ _, L0, hb⟩
  | t :: T, h => by
    have h1 := ls_Z L0 hb fun s hs => h s (List.mem_cons_of_mem _ hs)
    have := ((h t (by simp)).up (n := k + T.length) (by omega)).add h1
    rw [List.length_cons, ← Nat.add_assoc]
    exact this
theorem rem_Z (ha : Rw N n L k a) (M0 : 0 < M) (mb : Bd e (M : Int)) (hT : ∀ f ∈ T, Rw N n M e f) (j : Nat) : Zn N (L * M) (k + e + 2 + T.length) (rem T a j) := by
  have h1 : Zn N (L * M) (k + e + T.length) (ls (fun f => vc a (hd f) * vc f j) T) := ls_Z (Nat.mul_pos ha.pos M0) (bdm ha.bd mb) fun f hf => (ha.vc _).mul ((hT f hf).vc _)
  have h2 : Zn N (L * M) (k + e) (vc a j) := (ha.vc j).scale M0 mb
  have := (h2.up (n := k + e + T.length + 1) (by omega)).add h1.neg
  have e0 : rem T a j = vc a j + -ls (fun f => vc a (hd f) * vc f j) T := by unfold rem; grind
  rw [e0]
  exact this.up (by omega)
end
end DD

namespace ET
open PySem
open PySem.Sem (wp)
open AutoSeq1 (wpAny_loadPart')
theorem meets_enumerate_newT (l : Addr) (items : Array Value) (n : Nat) (dct : Option Addr) (sl : Array (Option Value)) :
    Meets (Builtin.«enumerate.__new__» ⟨[.type "enumerate", .ref l], []⟩) (fun _ R s => s.heap.get? l = some { cls := .type "tuple", dict := dct, data := .seq items n, slots := sl } ∧
      R (.ok (.ret (.ref (s.heap.push { cls := .type "tuple_iterator", data := .fields #[.ref l, .int 0 0] }).objs.size)))
        { s with heap := (s.heap.push { cls := .type "tuple_iterator", data := .fields #[.ref l, .int 0 0] }).push { cls := .type "enumerate", data := .fields #[.none, .bool false, .ref s.heap.objs.size, rawInt 0, .none, .none] } }) :=
  .of_wp fun prog w A R s h => by
    obtain ⟨hp, g, d, tk, os⟩ := s; obtain ⟨hl, h⟩ := h
    have hsub := sub_enumerate
    have hL : Heap.IsTuple (Shared.heap ⟨hp, g, d, tk, os⟩) l items := ⟨_, hl, rfl, n, rfl⟩
    wp_walk using wpAny_loadPart' hl
    refine wpAny_stack_any fun st => wpAny_pure ?_
    split
    · rename_i c _ _ _ _ _
      cases (c == Value.type "enumerate")
      · wp_walk using wpAny_loadPart' hl, wpAny_pyIter_tuple hL
        exact ⟨_, rfl, h⟩
      · wp_walk using wpAny_loadPart' hl, wpAny_pyIter_tuple hL
        exact ⟨_, rfl, h⟩
    · wp_walk using wpAny_loadPart' hl, wpAny_pyIter_tuple hL
      exact ⟨_, rfl, h⟩
section
variable {prog : Program} {w : World} {A : Around} {E : Value → Shared → Prop} {s : Shared}
theorem call_enumerate_tuple {l : Addr} {items : Array Value} {Q : Value → Shared → Prop} (hL : s.heap.IsTuple l items)
    (h : ∀ h', IsEnum h' (s.heap.objs.size + 1) s.heap.objs.size 0 .none → h'.IsTupleIter s.heap.objs.size l 0 → h'.objs.size = s.heap.objs.size + 2 →
      (∀ b o, s.heap.get? b = some o → h'.get? b = some o) → Q (.ref (s.heap.objs.size + 1)) { s with heap := h' }) :
    wpAny (model prog w) A (call (.type "enumerate") [.ref l]) Q E s := by
  obtain ⟨⟨c, dct, dt, sl⟩, hl, hc, n, hd⟩ := hL
  replace hc : c = .type "tuple" := hc
  replace hd : dt = .seq items n := hd
  subst hc hd
  refine callType_new F.called_enumerate (by decide) (F.typeCall_enumerate_1 _) (F.newCall_enumerate_1 _) (fun obj => F.args_object_init_2 obj _) F.entry_enumerate_new
    (meets_enumerate_newT l items n dct sl) ⟨hl, ?_⟩
  have hz : (s.heap.push { cls := .type "tuple_iterator", data := .fields #[.ref l, .int 0 0] }).objs.size = s.heap.objs.size + 1 := Heap.size_push ..
  show _ ∧ _
  rw [hz]
  have he : IsEnum ((s.heap.push { cls := .type "tuple_iterator", data := .fields #[.ref l, .int 0 0] }).push
      { cls := .type "enumerate", data := .fields #[.none, .bool false, .ref s.heap.objs.size, rawInt 0, .none, .none] }) (s.heap.objs.size + 1) s.heap.objs.size 0 .none := by
    have := Heap.get?_push_size (s.heap.push { cls := .type "tuple_iterator", data := .fields #[.ref l, .int 0 0] })
      (o := { cls := .type "enumerate", data := .fields #[.none, .bool false, .ref s.heap.objs.size, rawInt 0, .none, .none] }) rfl
    rw [hz] at this; exact this
  refine ⟨⟨_, he, rfl⟩, h _ he ⟨_, Heap.get?_push_of_some _ (Heap.get?_push_size _ rfl), rfl, rfl⟩ (by rw [Heap.size_push, hz]) fun b o x => Heap.get?_push_of_some _ (Heap.get?_push_of_some _ x)⟩
end
end ET
namespace DD
open PySem PySem.Spec L2
open PyProof.Rows hiding St
variable [LamN]
/-- the tuple at a, each item in a new pair -/
def Itet (K : PySem.W.Frag) (a : Addr) : It :=
  ⟨fun i H => ∃ (xs : List V) (x : V), SqT K H a xs ∧ xs[i]? = some x, fun i H v H' => ∃ T x, v = .ref T ∧ H T = none ∧ H' = L2.upd H T (.tup [.int (i : Nat), x]) ∧ ∀ xs, SqT K H a xs → xs[i]? = some x, fun i H => ∃ xs : List V, SqT K H a xs ∧ xs.length = i⟩
theorem tuple_inj {X : Cx} {pins : List (Addr × Obj)} {σ : L2.St} {H : Hp} {s : Shared} {a : Addr} {xs ys : List V} (I : Inv X pins σ H s) (h : SqT X.K H a xs) (h' : SqT X.K H a ys) : xs = ys := by
  obtain ⟨its, r, p, _⟩ := I.tuple h
  obtain ⟨its', r', p', _⟩ := I.tuple h'
  obtain ⟨o, e, _, n, d⟩ := p
  obtain ⟨o', e', _, n', d'⟩ := p'
  rw [e] at e'; cases e'
  rw [d] at d'
  cases d'
  exact Vals.inj r r'
theorem turn_enumT {P : Program} {w : World} {K : PySem.W.Frag} {elts : List Expr} {kk : Nat} {tpos : Pos} (a e it : Addr) :
    Turn P w K (.Tuple elts kk tpos) (Itet K a) [e, it] e (fun i h => (∃ old, IsEnum h e it ((i : Nat) : Int) old) ∧ h.IsTupleIter it a i ∧ e ≠ it ∧ a ≠ it ∧ a ≠ e) where
  mem := by simp
  obj := fun i h st b hb => by
    obtain ⟨⟨old, he⟩, ⟨o, ho, hc, hd⟩, _⟩ := st
    have e' : b = e ∨ b = it := by simpa using hb
    rcases e' with z | z
    · rw [z]; exact ⟨_, he, fun v q => nomatch q⟩
    · rw [z]; exact ⟨o, ho, fun v q => by rw [hd] at q; cases q⟩
  keep := fun i h h' st k => let ⟨⟨old, he⟩, hi, hne⟩ := st; ⟨⟨old, k e (by simp) _ he⟩, hi.at fun o q => k it (by simp) o q, hne⟩
  item := by
    intro X hP hw hK hc i pins s σ H E I hf st hg
    subst hP hw hK
    obtain ⟨⟨old, he⟩, hit, hne, hai, hae⟩ := st
    obtain ⟨xs, x, hq, hx⟩ := hg
    obtain ⟨its, rv, p, hz⟩ := I.tuple hq
    obtain ⟨u, hu, ru⟩ := rv.get hx
    have hel : e < s.heap.objs.size := Heap.lt_size he
    have hil : it < s.heap.objs.size := by obtain ⟨_, q, _⟩ := hit; exact Heap.lt_size q
    have hi : i < its.toArray.size := by
      rw [List.size_toArray]
      exact (List.getElem?_eq_some_iff.mp hu).1
    refine wpAny_pyNext_enum_itemD (Draws.tuple (prog := X.prog) (w := X.w) (A := X.A.in1) (I.ok.hd hc) it a hai its.toArray) he ⟨hit, p⟩ hi hne (by simp; exact ⟨hne, fun z => hae z.symm⟩) fun x' h' tk hP ho hst' hT hsz hk => ?_
    obtain ⟨hit', _⟩ := hst'
    have hxu : x' = u := by
      have : its.toArray[i]? = some u := by simpa using hu
      rw [this] at hP
      cases hP
      rfl
    subst hxu
    refine ⟨_, rfl, wpAny_letOwnedTupleGo_enum (s := { s with heap := h', toks := tk + 1 }) ho fun h'' he' sb => ?_⟩
    have hT2 : h''.get? s.heap.objs.size = some { cls := .type "tuple", data := .seq #[.int i tk, x'] } := (sb.2 _ (Nat.ne_of_gt hel)).trans hT
    have new : ObjOk X.prog X.w (L2.upd H s.heap.objs.size (.tup [.int (i : Nat), x])) h'' s.heap.objs.size (.tup [.int (i : Nat), x]) :=
      ⟨by show 2 ≤ sizeLine; decide, [.int i tk, x'], .cons ⟨_, rfl⟩ (.cons ru .nil), ⟨_, hT2, rfl, _, rfl⟩⟩
    have I1 : Inv X pins σ (L2.upd H s.heap.objs.size (.tup [.int (i : Nat), x])) { s with heap := h'', toks := tk + 1 } :=
      L2.Inv.turnedNew (ch := [e, it]) I (fun b ob hb q => (sb.2 b (fun z => hb (by simp [z]))).trans (hk b ob (fun z => hb (by simp [z])) (fun z => hb (by simp [z])) q)) hf (Nat.le_refl _) new
    refine ⟨.ref s.heap.objs.size, _, I1, rfl, ⟨_, x, rfl, I.hok.fresh (Nat.le_refl _), rfl, fun ys hy => by rw [tuple_inj I hy hq]; exact hx⟩, ⟨⟨x', ?_⟩, hit'.at fun o q => (sb.2 it (Ne.symm hne)).trans q, hne, hai, hae⟩, fun b hb => ?_⟩
    · have e1 : ((i + 1 : Nat) : Int) = (i : Int) + 1 := by omega
      rw [e1]; exact he'
    · have hb' : b < s.heap.objs.size := by
        have e' : b = e ∨ b = it := by simpa using hb
        rcases e' with z | z
        · rw [z]; exact hel
        · rw [z]; exact hil
      rw [upd_ne (Nat.ne_of_lt hb')]
      exact (hf b hb).1
  done := by
    intro X hP hw hK hc i pins s σ H E I hf st hg
    subst hP hw hK
    obtain ⟨⟨old, he⟩, hit, hne, hai, hae⟩ := st
    obtain ⟨xs, hq, hx⟩ := hg
    obtain ⟨its, rv, p, hz⟩ := I.tuple hq
    obtain ⟨f0, f1, f2, f3, f4, f5⟩ := hf it (by simp)
    have hl := rv.length
    have hsz : its.toArray.size = i := by rw [List.size_toArray, ← hl, hx]
    refine wpAny_pyNext_enum_endD (Draws.tuple (prog := X.prog) (w := X.w) (A := X.A.in1) (I.ok.hd hc) it a hai its.toArray) he ⟨by rw [hsz]; exact hit, p⟩ fun h' eb => ⟨rfl, I.turned (t' := s.toks) (fun b o hb q => eb b o hb q) f0 f1 f3 f4 f5⟩
  self := fun A i s Q E st h => let ⟨⟨_, he⟩, _⟩ := st; wpAny_pyIter_enum he h
def iEnumT (K : PySem.W.Frag) (ta : TA) : TI := fun σ H R => ta σ H fun vs H1 => ∃ a xs, vs = [.ref a] ∧ SqT K H1 a xs ∧ R (Itet K a) H1
theorem pi_enumT {X : Cx} {e : Expr} {ta : TA} {p pos tpos : Pos} {elts : List Expr} {kk : Nat} (hg : Gl X "enumerate") (hm : X.mg "enumerate" = none) (ha : PA X [e] ta) (hs : starEach [e] X.env = [(false, eval e X.env)] := by rfl) :
    PI X (.Tuple elts kk tpos) (.Call (.Name "enumerate" p) [e] [] pos) (iEnumT X.K ta) := by
  refine ⟨fun pins s σ H R I h => ?_⟩
  refine Call_ (ld_blt I hg hm boot_enumerate (PyProof.Rows.callWith_type1 (thn (ha.run pos pins s σ H _ I h) fun us s1 ⟨vs, H1, I1, r1, q1⟩ => ?_) hs rfl))
  obtain ⟨a, xs, ex, hq, q⟩ := q1
  subst ex
  cases r1 with
  | cons r rr =>
    cases rr
    cases r
    obtain ⟨its, rv, p', hz⟩ := I1.tuple hq
    have hal : a < s1.heap.objs.size := by obtain ⟨_, q, _⟩ := p'; exact Heap.lt_size q
    refine ET.call_enumerate_tuple p' fun h' he hit hsz hk => wpAny_pyIter_enum he ?_
    have I2 : Inv X pins σ H1 { s1 with heap := h' } := I1.kept (t' := s1.toks) hk
    refine ⟨s1.heap.objs.size + 1, [s1.heap.objs.size + 1, s1.heap.objs.size], _, _, H1, rfl, I2, turn_enumT a (s1.heap.objs.size + 1) s1.heap.objs.size, ⟨⟨.none, he⟩, hit, Nat.succ_ne_self _, Nat.ne_of_lt hal, Nat.ne_of_lt (Nat.lt_succ_of_lt hal)⟩, fun b hb => ?_, q⟩
    have e' : b = s1.heap.objs.size + 1 ∨ b = s1.heap.objs.size := by simpa using hb
    have hle : s1.heap.objs.size ≤ b := by
      rcases e' with z | z
      · rw [z]; exact Nat.le_add_right _ _
      · rw [z]; exact Nat.le_refl _
    exact I1.fpOk hle (I1.hok.fresh hle)
def dEnumT (f : M A) : M (List D) := f.bind fun a => ofO ((tupD a.frz).map enumD)
section
variable {X : Cx} {C : SC} {e : Expr} {f : M A} {p pos tpos : Pos} {elts : List Expr} {kk : Nat}
theorem RepD.tsq {K : PySem.W.Frag} {mg : Str → Option Value} {Z H : Hp} {x : V} {d : D} {ds : List D} (h : RepD K mg Z x d) (z : Same Z H) (e : tupD d = some ds) : ∃ p xs, x = .ref p ∧ SqT K H p xs ∧ RepDs K mg Z xs ds := by
  cases h with
  | tup h1 h2 => cases e; exact ⟨_, _, rfl, sameT z h1, h2⟩
  | _ => cases e
theorem isIt_enumT {a : Addr} {d : D} {l : List D} (hd : tupD d = some l) : IsIt C (Itet C.K a) [.ref a] [.v d] (enumD l) := by
  intro b Z H σ ρ vs as S
  obtain ⟨q, xs, e, hs, r⟩ := (Sta.top S).tsq S.zh hd
  cases e
  refine ⟨fun i d hi => ?_, xs, hs, ?_⟩
  · obtain ⟨u, hu, rfl⟩ := enumD_get hi
    obtain ⟨x, hx, rx⟩ := r.get hu
    refine ⟨⟨xs, x, hs, hx⟩, fun z H' ⟨T, x', e1, hT, e2, f1⟩ => ?_⟩
    subst e1 e2
    have q1 := f1 xs hs
    rw [hx] at q1
    cases q1
    exact ⟨_, S.newF (o := .tup [.int (i : Nat), x]) hT (.tup (SqT.of upd_same) (RepDs.mono (same_upd (S.zh.free hT)) _ _ (.cons (.int _) (.cons rx .nil))))⟩
  · unfold enumD
    rw [List.length_map, List.length_zipIdx, r.length]
theorem di_enumT (hK : X.K = C.K) (hg : Gl X "enumerate") (hm : X.mg "enumerate" = none) (ha : PE X e (tE C f)) (hs : starEach [e] X.env = [(false, eval e X.env)] := by rfl) (hs' : starEach (e :: []) X.env = (false, eval e X.env) :: starEach [] X.env := by rfl) :
    PI X (.Tuple elts kk tpos) (.Call (.Name "enumerate" p) [e] [] pos) (tI C (dEnumT f)) := by
  refine PI.w (pi_enumT hg hm (pa_cons ha pa_nil hs') hs) fun σ H R k => ?_
  refine (Go.bindE k).mono fun x H1 ⟨a, k1⟩ => ?_
  obtain ⟨ds, e1, b, Z, ρ, vs, as, hb, _, S, k3⟩ := go_ofO k1
  rw [hK]
  obtain ⟨Z', _, S'⟩ := Sta.freeze (vs := vs) (as := as) S
  cases h1 : tupD a.frz with
  | none => rw [h1] at e1; cases e1
  | some l =>
    rw [h1] at e1
    cases e1
    obtain ⟨q, xs, rfl, hs, r⟩ := (Sta.top S').tsq S'.zh h1
    exact ⟨q, xs, rfl, hs, k3 _ _ [.ref q] [.v _] _ rfl S' (isIt_enumT h1)⟩
end
section
variable {ρ : DEnv} {E : Ex → DEnv → Prop} {QD : List D → DEnv → Prop} {f : M A}
theorem w_enumT (k : Wp (f ρ) (fun a ρ1 => Wo (tupD a.frz) fun ds => QD (enumD ds) ρ1) E) : Wp (dEnumT f ρ) QD E := wp_bind (wp_mono k (fun _ _ ⟨ds, e, k⟩ => by rw [e]; exact wp_ofO ⟨_, rfl, k⟩) fun _ _ z => z)
end
end DD

namespace DD
variable [LamN]
section
variable {R : Type} [Lean.Grind.CommRing R]
variable {n w h i j : Nat} {x y z a r f : List R} {A B F G X Y : List (List R)}
/-- table A with the rows of one behind -/
def bthL (A : List (List R)) : List (List R) := List.zipWith (· ++ ·) A (onesL A.length)
theorem bth_len : (bthL A).length = A.length := by simp [bthL, onesL]
theorem bth_at (hi : i < A.length) : (bthL A)[i]'(by rw [bth_len]; exact hi) = A[i] ++ eL A.length i := by
  unfold bthL onesL
  rw [List.getElem_zipWith, List.getElem_map, List.getElem_range]
theorem bth_mem (ha : a ∈ bthL A) : ∃ i, ∃ hi : i < A.length, a = A[i] ++ eL A.length i := by
  obtain ⟨i, hi, rfl⟩ := List.getElem_of_mem ha
  exact ⟨i, by rw [bth_len] at hi; exact hi, bth_at _⟩
theorem bth_wid (wA : Wid w A) : Wid (w + A.length) (bthL A) := fun a ha => by
  obtain ⟨i, hi, rfl⟩ := bth_mem ha
  rw [List.length_append, wA _ (List.getElem_mem hi), eL_len]
theorem vc_appL (h : j < x.length) : vc (x ++ y) j = vc x j := by
  unfold vc
  rw [List.getD_eq_getElem?_getD, List.getD_eq_getElem?_getD, List.getElem?_append_left h]
theorem vc_appR : vc (x ++ y) (x.length + j) = vc y j := by
  unfold vc
  rw [List.getD_eq_getElem?_getD, List.getD_eq_getElem?_getD, List.getElem?_append_right (by omega), Nat.add_sub_cancel_left]
theorem vc_take (h : j < w) : vc (x.take w) j = vc x j := by
  unfold vc
  rw [List.getD_eq_getElem?_getD, List.getD_eq_getElem?_getD, List.getElem?_take_of_lt h]
theorem sm_pick {f : Nat → R} {i : Nat} (hi : i < n) : sm n (fun k => (if i = k then 1 else 0) * f k) = f i := by
  rw [sm_one (k := i) hi fun k hk ne => by rw [if_neg (fun z => ne z.symm)]; grind]
  rw [if_pos rfl]; grind
theorem take_axp {c : R} : (axp x y c).take w = axp (x.take w) (y.take w) c := by
  unfold axp
  rw [List.take_zipWith, List.map_take]
theorem Spn.take (wX : Wid n X) (wY : Wid w Y) (hw : w ≤ n) (hX : ∀ a ∈ X, Spn w Y (a.take w)) (hx : Spn n X x) : Spn w Y (x.take w) := by
  induction hx with
  | zero =>
    rw [List.take_replicate, Nat.min_eq_left hw]
    exact .zero
  | step _ ha ih =>
    rw [take_axp]
    exact ih.ax wY (hX _ ha) _
theorem take_zero (h : w ≤ DD.hd f) (lf : w ≤ f.length) : f.take w = List.replicate w 0 :=
  vc_ext (m := w) (by rw [List.length_take]; omega) (by simp) fun j hj => by
    rw [vc_take hj, vc_rep]
    exact hd_low (by omega)
end
end DD

namespace DD
open PySem PySem.Spec L2
open PyProof.Rows hiding St
variable [LamN]
section
variable {K : PySem.W.Frag} {mg : Str → Option Value} {b : Base} {Z H : Hp} {σ : St} {ρ : DEnv} {vs ws : List V} {as l : List A} {i k : Nat} {p : Addr} {x : V} {d : D} {l2 : List A} {ds : List D}
end
section
variable {C : SC} {X : Cx} {es : List Expr} {fs : M (List A)} {pos : Pos}
end
section
variable {X : Cx} {C : SC} {i j k : Nat} {x y : Str} {p apos cpos ipos ipos2 ypos : Pos} {kn : Option String}
end
section
variable {ρ : DEnv} {E : Ex → DEnv → Prop} {Q : A → DEnv → Prop} {i j k : Nat} {fs : M (List A)} {l l2 : List A} {d : D} {ds : List D} {P : A → Prop}
end
end DD

namespace DD
open PySem PySem.Spec L2
open PyProof.Rows hiding St
variable [LamN]
section
variable {C : SC} {X : Cx} {e e2 : Expr} {f gi : M A} {i : Nat} {x : Str} {op : Operator} {p pos tpos : Pos} {cd : Int → Int → Prop} {g : Int → Int → Int}
end
section
variable {ρ : DEnv} {E : Ex → DEnv → Prop} {QF : Flow → DEnv → Prop} {i : Nat} {f gi : M A}
end
section
variable {C : SC} {F : Fn} {σ : St} {H : Hp} {Q : VK} {x : V} {a : A}
end
section
variable {X : Cx} {C : SC} {c : Str} {F : Fn} {g : M A} {o : Expr} {p0 pos : Pos} {k : Nat}
end
section
variable {ρ : DEnv} {E : Ex → DEnv → Prop} {Q : A → DEnv → Prop} {c : Str} {F : Fn} {e : M A}
end
end DD

namespace DD
open PySem PySem.Spec L2
open PyProof.Rows hiding St
variable [LamN]
section
variable {C : SC} {X : Cx}
variable {op : Str → Str → Option A} {r : V → List V → Hp → VK → Prop} {f g : M A} {o e : Expr} {name id : String} {apos cpos : Pos}
end
end DD

namespace DD
open PySem PySem.Spec L2
open PyProof.Rows hiding St
variable [LamN]
def signs (x : Str) : List D := x.cps.toList.map fun c => .str ⟨#[c]⟩
section
variable {C : SC} {X : Cx} {e tg : Expr} {f : M A}
end
section
variable {ρ : DEnv} {E : Ex → DEnv → Prop} {f : M A} {QD : List D → DEnv → Prop}
end
end DD

namespace DD
open PySem PySem.Spec L2
open PyProof.Rows hiding St
variable [LamN]
section
variable {C : SC} {F : Fn} {σ : St} {H : Hp} {Q : VK} {x : V} {a : A}
end
section
variable {X : Cx} {C : SC} {c m : Str} {F : Fn} {g : M A} {o : Expr} {p0 pos : Pos} {k : Nat}
end
section
variable {ρ : DEnv} {E : Ex → DEnv → Prop} {Q : A → DEnv → Prop} {c m : Str} {F : Fn} {e : M A}
end
end DD

namespace DD
open PySem PySem.Spec L2
open PyProof.Rows hiding St
variable [LamN]
section
variable {X : Cx} {C : SC} {c m : Str} {F : Fn} {g : M A} {o : Expr} {p0 pos : Pos} {k : Nat}
end
end DD

namespace DD
open PySem PySem.Spec L2
open PyProof.Rows hiding St
variable [LamN]
/-- what an own == tells; neg: the contrary -/
def eqF (F : Fn) (neg : Bool) (a b : A) : M A := fun ρ => match F [a, b] with
  | .ok (.v (.bl y)) _ => .ok (.v (.bl (y != neg))) ρ
  | _ => .bad
def insB (c : Str) : A → A → Option Unit
  | .v (.ins c' _ _), .v (.ins c'' _ _) => if c' = c ∧ c'' = c then some () else none
  | _, _ => none
def dEqO (c : Str) (F : Fn) (neg : Bool) (f g : M A) : M A := f.bind fun a => g.bind fun b => (ofO (insB c a b)).bind fun _ => eqF F neg a b
/-- an own class with object's != -/
def NeC (K : PySem.W.Frag) (mg : Str → Option Value) (c : Str) : Prop := ∃ C0, mg c = some (.ref C0) ∧ PySem.W.findIn K (.ref C0) "__ne__" = some (some (.builtin "object.__ne__")) ∧ PySem.W.mroIn K C0 (.type "object") = some true
section
variable {C : SC} {F : Fn} {σ : St} {H : Hp} {Q : VK} {x y : V} {a d : A} {neg : Bool} {c : Str}
theorem go_eqF (k : Go C (finE C σ Q) [y, x] [d, a] ((ofO (insB c a d)).bind fun _ => eqF F neg a d) σ H) : (∃ p q C0 dx dy ws wt, x = .ref p ∧ y = .ref q ∧ C.mg c = some (.ref C0) ∧ H p = some (.ins C0 dx ws) ∧ H q = some (.ins C0 dy wt)) ∧ spD C.K C.mg F [x, y] H (fun v H' => ∃ t, v = .bl t ∧ Q (.bl (t != neg)) H') (fun _ _ _ => False) := by
  obtain ⟨b, Z, ρ, vs, as, hb, hl, S, k⟩ := k
  cases ei : insB c a d with
  | none =>
    unfold M.bind at k
    rw [ei] at k
    exact k.elim
  | some u =>
  unfold M.bind at k
  rw [ei] at k
  replace k : (eqF F neg a d ρ).sat (finE C σ Q b vs as) (XPost C b vs as) := k
  have S1 := Sta.rot (ws := [y]) (l := [d]) (x := x) (a := a) (vs := vs) (as := as) S rfl
  refine ⟨?_, ?_⟩
  · unfold insB at ei
    split at ei
    · rename_i c1 ks ds c2 ks2 ds2
      split at ei
      · rename_i q
        obtain ⟨rfl, rfl⟩ := q
        have t := Sta.top S1
        have t2 := Sta.top (vs := x :: vs) (as := _ :: as) S
        cases t with
        | @ins p C' dx _ ws _ m' hz rd =>
        cases t2 with
        | @ins p2 C2 dx2 _ ws2 _ m2 hz2 rd2 =>
        have : C' = C2 := by
          have h1 : C.mg c2 = some (.ref C') := by assumption
          have h2 : C.mg c2 = some (.ref C2) := by assumption
          rw [h1] at h2
          injection h2 with h2
          injection h2
        subst this
        exact ⟨p, p2, C', dx, dx2, ws, ws2, rfl, rfl, by assumption, S.zh _ _ hz, S.zh _ _ hz2⟩
      · cases ei
    · cases ei
  have eg : gath [.val a, .val d] ρ = some ([a, d], ρ) := rfl
  have r : ArgR σ [x, y] [.val a, .val d] [x, y] [a, d] := .val (.val .nil)
  obtain ⟨fs, r1, c1, z1, fin⟩ := Sta.called (Z2 := Z) (H2 := H) (l' := []) (ys := []) (ds := []) S1 r eg .nil
  refine ⟨Z, _, fs, ⟨S.zh, S.sd.tabs, S.sd.nt⟩, r1, c1, z1, ?_⟩
  rw [show ([a, d] ++ List.map A.v ([] : List D)) = [a, d] from rfl]
  unfold eqF at k
  cases eF : F [a, d] with
  | bad => rw [eF] at k; exact k.elim
  | exc e l' => rw [eF] at k; exact k.elim
  | ok u l' =>
    rw [eF] at k
    split at k
    · rename_i n lx ex
      cases ex
      intro Z' H' v fr fs' af hr rl cr zr nr own
      obtain ⟨a', d', l'', rfl⟩ : ∃ a' d' l'', l' = a' :: d' :: l'' := by
        cases rl with
        | cons _ rl => cases rl with
          | cons _ rl => exact ⟨_, _, _, rfl⟩
      refine ⟨n, ?_, k Z' H' (.bl (n != neg)) ?_⟩
      · cases hr with
        | v rd => cases rd; rfl
      · have S2 := fin (ps := [v]) (qa := [.v (.bl n)]) (fr := fr ++ []) af rl own (.cons hr .nil) (by simpa using cr) (by simpa using zr) (by simpa using nr)
        exact (Sta.pop S2).push (.bl _)
    · exact k.elim
end
section
variable {X : Cx} {C : SC} {c m : Str} {F : Fn} {f g : M A} {o o2 : Expr} {p0 pos : Pos} {k : Nat} {neg : Bool}
/-- a method of one argument more, run from within a builtin -/
theorem met_run2 {pins : List (Addr × Obj)} {s : Shared} {σ : St} {H : Hp} {Q : VK} {B : Around} {a b C0 dx : Addr} {ws : List (Str × V)} (c0 : MetX X.prog X.w X.K X.mg X.base k c m F []) (hr : Room k B) (I : Inv X pins σ H s) (e0 : Env0 X.prog X.w X.K X.mg X.base B X.stack s H)
    (e : X.mg c = some (.ref C0)) (ea : H a = some (.ins C0 dx ws)) (sp : spD X.K X.mg F [.ref a, .ref b] H Q (fun _ _ _ => False)) {EE : Value → Shared → Prop} :
    ∃ f od, PySem.W.findIn X.K (.ref C0) m = some (some (.ref f)) ∧ PySem.W.isFn X.K (.ref f) = true ∧ PySem.W.InstAt s.heap a (PySem.W.instObj C0 dx) C0 (some od) ∧ wpAny (model X.prog X.w) B (call (.ref f) [.ref a, .ref b]) (EP X pins σ Q) EE s := by
  obtain ⟨C1, f, fd, ps, us, ys, F', e1, cl, mt, bs, vy, hz⟩ := c0.ex
  rw [e1] at e
  cases e
  have hy : ys = [] := by
    have := hz fun _ => none
    cases this
    rfl
  subst hy
  cases vy
  obtain ⟨mA, J, _⟩ := ins_get I.hok ea
  obtain ⟨od, J, _⟩ := J.look
  have r2 : Vals [V.ref a, V.ref b] [Value.ref a, Value.ref b] := .cons rfl (.cons rfl .nil)
  have hl := F'.len _ _ _ _ sp
  refine ⟨f, od, mt.at_, mt.fn, J, wpAny_call (codeAny_mono (F'.run B X.stack s H ⟨[.ref a, .ref b], []⟩ [.ref a, .ref b] [.ref a, .ref b] _ _ hr e0 (by
    have := bs s [.ref a, .ref b] I.kIn (by simpa using hl)
    simpa using this) r2 sp) fun r s' hq => ?_)⟩
  cases r with
  | error e => exact (let ⟨_, _, _, _, _, _, _, _, _, _, _, _, z⟩ := hq; z.elim)
  | ok fl =>
    cases fl with
    | next => exact False.elim hq
    | brk => exact False.elim hq
    | cont => exact False.elim hq
    | ret u => exact I.after hq
def rEqI (X : Cx) (c : Str) (F : Fn) (neg : Bool) : R2 := fun x y H Q => (∃ p q C0 dx dy ws wt, x = .ref p ∧ y = .ref q ∧ X.mg c = some (.ref C0) ∧ H p = some (.ins C0 dx ws) ∧ H q = some (.ins C0 dy wt)) ∧ spD X.K X.mg F [x, y] H (fun v H' => ∃ t, v = .bl t ∧ Q (.bl (t != neg)) H') (fun _ _ _ => False)
theorem op_eqI (c0 : MetX X.prog X.w X.K X.mg X.base k c "__eq__" F []) (hr : Room k X.A) : OpR X (compareOp .Eq) (rEqI X c F false) := by
  intro pins s σ H x y v u Q I rx ry h
  obtain ⟨⟨p, q, C0, dx, dy, ws, wt, rfl, rfl, e, hp, hq⟩, sp⟩ := h
  cases (show v = Value.ref p from rx)
  cases (show u = Value.ref q from ry)
  obtain ⟨f, od, h1, h2, J, run⟩ := met_run2 (EE := X.xe) c0 hr I I.env0 e hp sp
  obtain ⟨mB, J', _⟩ := ins_get I.hok hq
  obtain ⟨odB, J', _⟩ := J'.look
  obtain ⟨m, hF⟩ := I.fr
  refine PySem.W.cmp_K (op := .Eq) (tb := .ref C0) hr.units0 hF I.ok.mod.kin J J'.type (by simp [PySem.W.notFirst]) h1 h2 ?_
  refine wpAny_mono run (fun w s' z => ?_) fun _ _ z => z
  obtain ⟨z', H', I', rz, t, et, qz⟩ := z
  subst et
  cases rz
  have qz' : Q (.bl t) H' := by simpa using qz
  exact ⟨.bl t, H', I', rfl, qz'⟩
theorem ifBound_B {M : Model} {A : Around} {E : Value → Shared → Prop} {s : Shared} {K : PySem.W.Frag} {x C : Addr} {ox : Obj} {od : Option Obj} {name : Str} {id : String} {args : List Value} {Q : Option Value → Shared → Prop} (X : K.In s.heap) (I : PySem.W.InstAt s.heap x ox C od) (hs : PySem.W.findIn K (.ref C) name = some (some (.builtin id)))
    (hb : ∀ self, bindSpecial (.builtin id) self = pure (.builtin id, [self])) (h : wpAny M A (call (.builtin id) (.ref x :: args)) (fun v => Q (some v)) E s) : wpAny M A (callSpecialIfBound? (.ref x) name args) Q E s := by
  simp only [callSpecialIfBound?, bindSpecialIfBound?]
  refine wpAny_holding (wpAny_bind (wpAny_bind (wpAny_bind (I.type.here ((PySem.W.looks_findIn X hs).here ?_)))))
  refine wpAny_bind (wpAny_askSetting (wpAny_ite ?_))
  have fin : wpAny M A (call (.builtin id) ([.ref x] ++ args) >>= fun v => pure (some v)) Q E s := wpAny_bind (wpAny_mono h (fun v s' h' => wpAny_pure h') fun _ _ h' => h')
  split
  · exact wpAny_bind ((PySem.W.Looks.of_pure (hb _)).here (wpAny_pure (by exact fin)))
  · exact wpAny_tryCatch (wpAny_bind ((PySem.W.Looks.of_pure (hb _)).here (wpAny_pure (by exact fin))))
open Builtin in
theorem op_neI (c0 : MetX X.prog X.w X.K X.mg X.base k c "__eq__" F []) (hn : NeC X.K X.mg c) (hr : Room (k + 1) X.A) : OpR X (compareOp .NotEq) (rEqI X c F true) := by
  intro pins s σ H x y v u Q I rx ry h
  obtain ⟨⟨p, q, C0, dx, dy, ws, wt, rfl, rfl, e, hp, hq⟩, sp⟩ := h
  cases (show v = Value.ref p from rx)
  cases (show u = Value.ref q from ry)
  obtain ⟨f, od, h1, h2, J, run⟩ := met_run2 (EE := X.xe) c0 hr.in1 I I.env0.in1 e hp sp
  obtain ⟨mB, J', _⟩ := ins_get I.hok hq
  obtain ⟨odB, J', _⟩ := J'.look
  obtain ⟨C1, e1, hne, hm⟩ := hn
  rw [e1] at e
  cases e
  have XI := I.kIn
  have one : wpAny (model X.prog X.w) X.A (tryCompare (.ref p) "__ne__" (.ref q)) (fun r s' => ∃ v, r = some v ∧ EP X pins σ Q v s') X.xe s := by
    unfold tryCompare
    refine wpAny_bind (ifBound_B XI J hne PySem.F.cmp_object.ne.bind (wpAny_call (codeAny_call_builtin PySem.F.cmp_object.ne.plain PySem.F.cmpEntry_ne (PySem.W.check_slot (i := "object.__ne__") (owner := "object") (n := "__ne__") PySem.F.cmpKind_ne PySem.F.cmpSplit_ne (J.type.andThen (PySem.W.looks_mroIn XI hm)) (PySem.F.cmpArgs_ne _ _) ?_))))
    unfold Builtin.«object.__ne__»
    refine wpAny_bind (m := slotArgs "__ne__" 1 _) (wpAny_pure ?_)
    refine wpAny_bind (m := cRoomFor _ _) (wpAny_cRoomFor hr.in1.units0 ?_)
    refine wpAny_bind (m := callSpecialIfBound? (.ref p) (Str.ofString "__eq__") _) (PySem.W.ifBound_K XI J h1 h2 (wpAny_mono run (fun r s' z => ?_) fun _ _ y => y))
    obtain ⟨z', H', I', rz, t, et, qz⟩ := z
    subst et
    cases rz
    have qz' : Q (.bl (!t)) H' := by simpa using qz
    refine wpAny_bind (wpAny_truthy_bool ?_)
    refine wpAny_pure ?_
    exact wpAny_pure ⟨_, rfl, .bl (!t), H', I', rfl, qz'⟩
  show wpAny _ _ (richCompare .NotEq (.ref p) (.ref q)) _ _ _
  unfold richCompare
  simp only [oneThing_ref]
  refine wpAny_holding (wpAny_bind (wpAny_cRoomFor hr.units0 ?_))
  refine wpAny_bind (J.type.here (wpAny_bind (J'.type.here ?_)))
  split
  · rename_i q
    simp at q
  · refine wpAny_bind (wpAny_pure ?_)
    simp only [Bool.false_eq_true, if_false]
    refine wpAny_bind (wpAny_mono one (fun r s' z => ?_) fun _ _ e => e)
    obtain ⟨v, rfl, hq⟩ := z
    exact wpAny_pure hq
theorem de_eqI (c0 : MetX X.prog X.w X.K X.mg X.base k c "__eq__" F []) (hr : Room k X.A) (hK : X.K = C.K) (hM : X.mg = C.mg) (ha : PE X o (tE C f)) (hb : PE X o2 (tE C g)) (hm : behindInMarks .Eq o2 = false) : PE X (.Compare o [.Eq] [o2] pos) (tE C (dEqO c F false f g)) := by
  refine PE.w (pe_cmpR (op_eqI c0 hr) ha hb hm) fun σ H Q k => ?_
  refine (Go.bindE k).mono fun x H1 ⟨u, k1⟩ => (Go.bindE k1).mono fun y H2 ⟨w, k2⟩ => ?_
  unfold rEqI
  rw [hK, hM]
  exact go_eqF k2
theorem dt_neI (c0 : MetX X.prog X.w X.K X.mg X.base k c "__eq__" F []) (hn : NeC X.K X.mg c) (hr : Room (k + 1) X.A) (hK : X.K = C.K) (hM : X.mg = C.mg) (ha : PE X o (tE C f)) (hb : PE X o2 (tE C g)) (hm : behindInMarks .NotEq o2 = false) : PT X (.Compare o [.NotEq] [o2] pos) (tT C (dTest (dEqO c F true f g))) := by
  refine PT.w (pt_cmpR (op_neI c0 hn hr) ha hb hm) fun σ H Q k => ?_
  have k' := go_test k
  refine (Go.bindE k').mono fun x H1 ⟨u, k1⟩ => (Go.bindE k1).mono fun y H2 ⟨w, k2⟩ => ?_
  unfold rEqI
  rw [hK, hM]
  exact go_eqF k2
end
section
variable {ρ : DEnv} {E : Ex → DEnv → Prop} {Q : A → DEnv → Prop} {c m : Str} {F : Fn} {f g : M A} {neg : Bool}
theorem w_eqO (k : Wp (f ρ) (fun a ρ1 => Wp (g ρ1) (fun b ρ2 => ∃ ks ds ks2 ds2, a = .v (.ins c ks ds) ∧ b = .v (.ins c ks2 ds2) ∧ Wc (F [.v (.ins c ks ds), .v (.ins c ks2 ds2)]) (fun r _ => ∃ y, r = .v (.bl y) ∧ Q (.v (.bl (y != neg))) ρ2) (fun _ _ => False)) E) E) : Wp (dEqO c F neg f g ρ) Q E := by
  unfold dEqO
  refine wp_bind (wp_mono k (fun a ρ1 k => ?_) fun _ _ z => z)
  refine wp_bind (wp_mono k (fun b ρ2 k => ?_) fun _ _ z => z)
  obtain ⟨ks, ds, ks2, ds2, rfl, rfl, k⟩ := k
  refine wp_bind (wp_ofO ⟨(), if_pos ⟨rfl, rfl⟩, ?_⟩)
  unfold eqF
  obtain ⟨r, l, e2, y, rfl, q⟩ := ex_wc k
  rw [e2]
  exact Wp.mk q
end
end DD

namespace DD
open PySem PySem.Spec L2
open PyProof.Rows hiding St
variable [LamN]
section
variable {X : Cx} {C : SC} {body : List Stmt} {h₀ : ExceptHandler} {hs : List ExceptHandler} {b : M Flow} {pos : Pos}
end
theorem ne_of {K : PySem.W.Frag} {h : Heap} {mg : Str → Option Value} {x : Str} {a : Addr} (X : K.In h) (G : h.Ns mainGlobals mg) (e : PySem.W.nsIn K mainGlobals x = some (some (.ref a))) (q1 : PySem.W.findIn K (.ref a) "__ne__" = some (some (.builtin "object.__ne__"))) (q2 : PySem.W.mroIn K a (.type "object") = some true) : NeC K mg x :=
  ⟨a, PySem.W.mg_of X G e, q1, q2⟩
section
variable {X : Cx} {C : SC} {f g : M A} {o e : Expr} {apos cpos : Pos}
end
end DD

namespace DD
open PySem PySem.Spec L2 TL
open PyProof.Rows hiding St
end DD

namespace DD
open PySem PySem.Spec L2
open PyProof.Rows hiding St
variable [LamN]
section
variable {P : Program} {w : World} {K : PySem.W.Frag} {mg : Str → Option Value} {base : Heap}
theorem MkC.mono {j k : Nat} {c : Str} {F : Fn} {ds : List DD.D} (c0 : MkC P w K mg base j c F ds) (h : j ≤ k) : MkC P w K mg base k c F ds :=
  let ⟨C, f, fd, ps, us, ys, M0, G, r⟩ := c0.ex
  ⟨C, f, fd, ps, us, ys, M0, G.mono h, r⟩
/-- what stands of a class and its __init__ without defaults -/
def Ini0 (K : PySem.W.Frag) (mg : Str → Option Value) (c qual : Str) (st : Stmt) (ps : List Str) : Prop :=
  ∃ (C f : Addr) (fd : FuncData), mg c = some (.ref C) ∧ Mk K C f ∧ Fun K "__init__" qual st f fd ∧ ∀ us : List Value, us.length = ps.length → bindArgs fd ⟨us, []⟩ = pure (ps.zip us)
theorem ini0_def {k n N : Nat} {c qual : Str} {st : Stmt} {Ns ps : List Str} {pn : List Nat} {body : M Flow} {F : Fn} (h0 : Ini0 K mg c qual st ps) (S : FnScope Ns ps (defScope st))
    (hF : F = dFn n N pn body) (hn : ps.length = n) (hN : Ns.length = N)
    (hb : ∀ (f : Addr) (cdv : Value) (A : Around) (outer : List PySem.Env) (s : Shared) (H : Hp) (E : XK), Room k (A.deeper (envOfC qual (defScope st) s.heap.objs.size f cdv)) →
      L2N.Takes (cxOf (L2N.CX P w) P w K mg base Ns qual (defScope st) f cdv A outer s H E) (fun cls d _ H => E cls d H) →
      PSs (cxOf (L2N.CX P w) P w K mg base Ns qual (defScope st) f cdv A outer s H E) (defBody st) (tS ⟨K, mg, fun cls d _ H => E cls d H, pn, []⟩ body)) : MkC P w K mg base (k + 1) c F [] := by
  subst hF hn hN
  obtain ⟨C, f, fd, e, M0, FD, hb0⟩ := h0
  have hn : ps.length ≤ Ns.length := by have := congrArg List.length S.pre; rw [List.length_take] at this; omega
  refine ⟨C, f, fd, ps, [], [], M0, ?_, e, .all hb0, .nil, fun _ => .nil⟩
  obtain ⟨oc, od, kV, doc, pm, an, cdv, ct, osl, rfl, lk, hcd⟩ := FD.ex
  refine fn_of lk hcd S (fun vs H Q E q => (body_ok (W := fun cls d _ H' => E cls d H') (fun _ _ => rfl) (fun _ _ _ _ z => z) q hn).1) fun A outer s H vs Q E hr q => ?_
  obtain ⟨hl, ht⟩ := body_ok (W := fun cls d _ H' => E cls d H') (fun _ _ => rfl) (fun _ _ _ _ z => z) q hn
  refine ⟨_, hb f cdv A outer s H E hr (L2N.takes_of rfl rfl rfl rfl), ?_⟩
  unfold L2.start
  rw [hl]
  exact ht
theorem CalD.alias {k : Nat} {x y : Str} {F : Fn} {ds : List DD.D} (c0 : CalD P w K mg base k x F ds) (h : mg y = mg x) : CalD P w K mg base k y F ds :=
  let ⟨f, fd, ps, us, ys, G, m, r⟩ := c0.ex
  ⟨f, fd, ps, us, ys, G, h.trans m, r⟩
theorem CalX.alias {k : Nat} {x y : Str} {F : Fn} {ds : List DD.D} (c0 : CalX P w K mg base k x F ds) (h : mg y = mg x) : CalX P w K mg base k y F ds :=
  let ⟨f, fd, ps, us, ys, G, m, r⟩ := c0.ex
  ⟨f, fd, ps, us, ys, G, h.trans m, r⟩
end
section
variable {K : PySem.W.Frag} {h : Heap} {mg : Str → Option Value} (X : K.In h) (G : h.Ns mainGlobals mg)
include X G
theorem alias_of {x y : Str} {f : Addr} (e : PySem.W.nsIn K mainGlobals x = some (some (.ref f))) (e2 : PySem.W.nsIn K mainGlobals y = some (some (.ref f))) : mg y = mg x :=
  (PySem.W.mg_of X G e2).trans (PySem.W.mg_of X G e).symm
theorem ini0_of {c qual : Str} {st : Stmt} {D0 f : Addr} {oc kV dc pm cd ct : Value} {od an : Option Addr} {osl : Array (Option Value)} {ps : List Str} (e : PySem.W.nsIn K mainGlobals c = some (some (.ref D0))) (m1 : PySem.W.makesIn K D0 = true) (m2 : PySem.W.findIn K (.ref D0) "__init__" = some (some (.ref f)))
    (m3 : PySem.W.isFn K (.ref f) = true) (m4 : PySem.W.keepIn K (.ref D0) = true) (l : K.lookup f = some ⟨oc, od, .func (PySem.W.fnOf "__init__" qual (defArgs st) (defBody st) (defScope st) .none kV dc pm an cd ct), osl⟩) (c1 : PySem.W.codeIn K cd qual = true) (k : PySem.W.keepIn K (.ref f) = true)
    (b : ∀ (kV doc pm : Value) (an : Option Addr) (cdv ct : Value) (us : List Value), us.length = ps.length → bindArgs (PySem.W.fnOf "__init__" qual (defArgs st) (defBody st) (defScope st) .none kV doc pm an cdv ct) ⟨us, []⟩ = pure (ps.zip us)) : Ini0 K mg c qual st ps :=
  ⟨D0, f, _, PySem.W.mg_of X G e, ⟨m1, m2, m3, m4⟩, fun_mk l c1 k, b _ _ _ _ _ _⟩
end
/-- frozen in passing -/
def dFz (f : M A) : M A := f.bind fun a => M.pure (.v a.frz)
section
variable {X : Cx} {C : SC} {e : Expr} {f : M A}
theorem de_fz (he : PE X e (tE C f)) : PE X e (tE C (dFz f)) := PE.w he fun σ H Q k => (Go.bindE k).mono fun x H1 ⟨a, b, Z, ρ, vs, as, hb, hl, S, k2⟩ => by
  obtain ⟨Z', _, S'⟩ := Sta.freeze (vs := vs) (as := as) S
  exact k2 Z' H1 x S'
end
section
variable {ρ : DEnv} {E : Ex → DEnv → Prop} {Q : A → DEnv → Prop} {f : M A}
theorem w_fz (k : Wp (f ρ) (fun a ρ1 => Q (.v a.frz) ρ1) E) : Wp (dFz f ρ) Q E := wp_bind (wp_mono k (fun _ _ q => wp_pure q) fun _ _ z => z)
end
end DD

namespace DD
section
variable {R : Type} [Lean.Grind.CommRing R] {s n p q : Nat} {V W X Y : Nat → Nat → R} {x y z r : Nat → R} {c : R}
/-- a row's multiple is added to another -/
theorem det_add (hp : p < s) (hq : q < s) (ne : p ≠ q) : det s (cset V q fun a => V q a + V p a * c) = det s V := by
  have z : det s (cset V q (V p)) = 0 := det_two (p := p) (q := q) hp hq ne fun a => by rw [cset_ne ne, cset_same]
  rw [det_lin (x := V q) (y := V p) hq, cset_id, z]
  grind
/-- rows below k are changed already -/
def wipe (V : Nat → Nat → R) (p : Nat) (z : Nat → R) (k : Nat) : Nat → Nat → R := fun b a => if b < k ∧ b ≠ p then V b a + V p a * z b else V b a
theorem det_wipe (hp : p < s) : ∀ {k : Nat}, k ≤ s → det s (wipe V p z k) = det s V
  | 0, _ => by
    refine det_congr fun b a _ _ => ?_
    unfold wipe
    rw [if_neg (by omega)]
  | k + 1, hk => by
    rw [← det_wipe (k := k) hp (by omega)]
    by_cases e : k = p
    · subst e
      congr 1
      funext b a
      unfold wipe
      by_cases h : b < k ∧ b ≠ k
      · rw [if_pos h, if_pos ⟨by omega, h.2⟩]
      · rw [if_neg h, if_neg (by omega)]
    · rw [← det_add (V := wipe V p z k) (p := p) (q := k) (c := z k) hp (by omega) (fun h => e h.symm)]
      congr 1
      funext b a
      by_cases h : b = k
      · subst h
        rw [cset_same]
        unfold wipe
        rw [if_pos ⟨by omega, e⟩, if_neg (by omega), if_neg (by omega)]
      · rw [cset_ne h]
        unfold wipe
        by_cases h2 : b < k ∧ b ≠ p
        · rw [if_pos h2, if_pos ⟨by omega, h2.2⟩]
        · rw [if_neg h2, if_neg (by omega)]
/-- the step of the elimination -/
theorem det_step (hp : p < s + 1) (h0 : ∀ i, i < s + 1 → i ≠ p → V i 0 + V p 0 * z i = 0) : det (s + 1) V = sg p * V p 0 * det s fun j a => V (skp p j) (a + 1) + V p (a + 1) * z (skp p j) := by
  rw [← det_wipe (V := V) (z := z) hp (Nat.le_refl (s + 1))]
  show sm (s + 1) _ = _
  have hw : ∀ i a, i < s + 1 → i ≠ p → wipe V p z (s + 1) i a = V i a + V p a * z i := fun i a hi ne => by unfold wipe; rw [if_pos ⟨hi, ne⟩]
  have hw0 : ∀ a, wipe V p z (s + 1) p a = V p a := fun a => by unfold wipe; rw [if_neg (fun z => z.2 rfl)]
  rw [sm_one (k := p) hp fun i hi ne => by rw [hw i 0 hi ne, h0 i hi ne]; grind, hw0]
  congr 1
  refine det_congr fun b a hb ha => ?_
  rw [hw _ _ (skp_lt hb) (by unfold skp; split <;> omega)]
end
end DD

namespace DD.K41
open PySem PySem.Spec L2
open PyProof.Rows hiding St
instance : LamN := ⟨[]⟩
def topS (i : Nat) : Stmt := PySem.Challenge.pw_fewmirrors_k41_double_turns.main.body.getD i (.Pass ⟨0, 0, 0, 0⟩)
abbrev s_wall : Stmt := topS 0
theorem sc_wall : FnScope ["k"] ["k"] (defScope s_wall) := ⟨rfl, rfl, rfl, by decide +kernel, rfl, by decide +kernel, by decide +kernel⟩
abbrev s_is_whole : Stmt := topS 16
theorem sc_is_whole : FnScope ["thing"] ["thing"] (defScope s_is_whole) := ⟨rfl, rfl, rfl, by decide +kernel, rfl, by decide +kernel, by decide +kernel⟩
abbrev s_shared : Stmt := topS 19
theorem sc_shared : FnScope ["one", "other"] ["one", "other"] (defScope s_shared) := ⟨rfl, rfl, rfl, by decide +kernel, rfl, by decide +kernel, by decide +kernel⟩
abbrev s_contrary_on : Stmt := topS 21
theorem sc_contrary_on : FnScope ["wheel", "rest", "one"] ["wheel", "rest"] (defScope s_contrary_on) := ⟨rfl, rfl, rfl, by decide +kernel, rfl, by decide +kernel, by decide +kernel⟩
abbrev s_ones : Stmt := topS 35
theorem sc_ones : FnScope ["many", "i", "j"] ["many"] (defScope s_ones) := ⟨rfl, rfl, rfl, by decide +kernel, rfl, by decide +kernel, by decide +kernel⟩
abbrev s_turned : Stmt := topS 38
theorem sc_turned : FnScope ["table", "k", "row"] ["table"] (defScope s_turned) := ⟨rfl, rfl, rfl, by decide +kernel, rfl, by decide +kernel, by decide +kernel⟩
abbrev s_headed : Stmt := topS 39
theorem sc_headed : FnScope ["row", "places", "k", "x"] ["row"] (defScope s_headed) := ⟨rfl, rfl, rfl, by decide +kernel, rfl, by decide +kernel, by decide +kernel⟩
abbrev s_look_form : Stmt := topS 53
theorem sc_look_form : FnScope ["thing"] ["thing"] (defScope s_look_form) := ⟨rfl, rfl, rfl, by decide +kernel, rfl, by decide +kernel, by decide +kernel⟩
abbrev s_l_bag : Stmt := topS 72
theorem sc_l_bag : FnScope ["_law_script", "_law_at", "_law_cell", "_law_great", "_law_primes", "_law_mixed_here"] ["_law_script", "_law_at"] (defScope s_l_bag) := ⟨rfl, rfl, rfl, by decide +kernel, rfl, by decide +kernel, by decide +kernel⟩
abbrev s_l_take : Stmt := topS 73
theorem sc_l_take : FnScope ["_law_bag_here", "_law_many", "_law_digit"] ["_law_bag_here", "_law_many"] (defScope s_l_take) := ⟨rfl, rfl, rfl, by decide +kernel, rfl, by decide +kernel, by decide +kernel⟩
abbrev s_l_shared : Stmt := topS 75
theorem sc_l_shared : FnScope ["_law_one", "_law_other"] ["_law_one", "_law_other"] (defScope s_l_shared) := ⟨rfl, rfl, rfl, by decide +kernel, rfl, by decide +kernel, by decide +kernel⟩
abbrev s_l_ones : Stmt := topS 83
theorem sc_l_ones : FnScope ["_law_many", "_law_i", "_law_j"] ["_law_many"] (defScope s_l_ones) := ⟨rfl, rfl, rfl, by decide +kernel, rfl, by decide +kernel, by decide +kernel⟩
abbrev s_Form_eq : Stmt := inCls (topS 51) 1
theorem sc_Form_eq : FnScope ["self", "other"] ["self", "other"] (defScope s_Form_eq) := ⟨rfl, rfl, rfl, by decide +kernel, rfl, by decide +kernel, by decide +kernel⟩
abbrev s_is_ground : Stmt := topS 17
theorem sc_is_ground : FnScope ["thing"] ["thing"] (defScope s_is_ground) := ⟨rfl, rfl, rfl, by decide +kernel, rfl, by decide +kernel, by decide +kernel⟩
abbrev s_is_number : Stmt := topS 20
theorem sc_is_number : FnScope ["ground", "thing", "top", "bottom", "part"] ["ground", "thing"] (defScope s_is_number) := ⟨rfl, rfl, rfl, by decide +kernel, rfl, by decide +kernel, by decide +kernel⟩
abbrev s_lowest : Stmt := topS 22
theorem sc_lowest : FnScope ["ground", "top", "bottom", "common"] ["ground", "top", "bottom"] (defScope s_lowest) := ⟨rfl, rfl, rfl, by decide +kernel, rfl, by decide +kernel, by decide +kernel⟩
abbrev s_l_mixed : Stmt := topS 74
theorem sc_l_mixed : FnScope ["_law_bag_here", "_law_row_here", "_law_rest", "_law_thing"] ["_law_bag_here", "_law_row_here"] (defScope s_l_mixed) := ⟨rfl, rfl, rfl, by decide +kernel, rfl, by decide +kernel, by decide +kernel⟩
abbrev s_l_low : Stmt := topS 76
theorem sc_l_low : FnScope ["_law_g", "_law_up", "_law_down", "_law_one", "_law_common"] ["_law_g", "_law_up", "_law_down"] (defScope s_l_low) := ⟨rfl, rfl, rfl, by decide +kernel, rfl, by decide +kernel, by decide +kernel⟩
abbrev s_l_ground : Stmt := topS 84
theorem sc_l_ground : FnScope ["_law_bag_here"] ["_law_bag_here"] (defScope s_l_ground) := ⟨rfl, rfl, rfl, by decide +kernel, rfl, by decide +kernel, by decide +kernel⟩
abbrev s_Keeper_eq : Stmt := inCls (topS 61) 1
theorem sc_Keeper_eq : FnScope ["self", "other"] ["self", "other"] (defScope s_Keeper_eq) := ⟨rfl, rfl, rfl, by decide +kernel, rfl, by decide +kernel, by decide +kernel⟩
abbrev s_look_ground : Stmt := topS 18
theorem sc_look_ground : FnScope ["thing"] ["thing"] (defScope s_look_ground) := ⟨rfl, rfl, rfl, by decide +kernel, rfl, by decide +kernel, by decide +kernel⟩
abbrev s_plus : Stmt := topS 23
theorem sc_plus : FnScope ["ground", "x", "y"] ["ground", "x", "y"] (defScope s_plus) := ⟨rfl, rfl, rfl, by decide +kernel, rfl, by decide +kernel, by decide +kernel⟩
abbrev s_minus : Stmt := topS 24
theorem sc_minus : FnScope ["ground", "x"] ["ground", "x"] (defScope s_minus) := ⟨rfl, rfl, rfl, by decide +kernel, rfl, by decide +kernel, by decide +kernel⟩
abbrev s_times : Stmt := topS 26
theorem sc_times : FnScope ["ground", "x", "y"] ["ground", "x", "y"] (defScope s_times) := ⟨rfl, rfl, rfl, by decide +kernel, rfl, by decide +kernel, by decide +kernel⟩
abbrev s_over : Stmt := topS 27
theorem sc_over : FnScope ["ground", "x", "y"] ["ground", "x", "y"] (defScope s_over) := ⟨rfl, rfl, rfl, by decide +kernel, rfl, by decide +kernel, by decide +kernel⟩
abbrev s_is_row : Stmt := topS 30
theorem sc_is_row : FnScope ["ground", "thing", "many", "one"] ["ground", "thing", "many"] (defScope s_is_row) := ⟨rfl, rfl, rfl, by decide +kernel, rfl, by decide +kernel, by decide +kernel⟩
abbrev s_l_plus : Stmt := topS 77
theorem sc_l_plus : FnScope ["_law_g", "_law_x", "_law_y"] ["_law_g", "_law_x", "_law_y"] (defScope s_l_plus) := ⟨rfl, rfl, rfl, by decide +kernel, rfl, by decide +kernel, by decide +kernel⟩
abbrev s_l_times : Stmt := topS 78
theorem sc_l_times : FnScope ["_law_g", "_law_x", "_law_y"] ["_law_g", "_law_x", "_law_y"] (defScope s_l_times) := ⟨rfl, rfl, rfl, by decide +kernel, rfl, by decide +kernel, by decide +kernel⟩
abbrev s_l_minus : Stmt := topS 79
theorem sc_l_minus : FnScope ["_law_g", "_law_x"] ["_law_g", "_law_x"] (defScope s_l_minus) := ⟨rfl, rfl, rfl, by decide +kernel, rfl, by decide +kernel, by decide +kernel⟩
abbrev s_l_over : Stmt := topS 80
theorem sc_l_over : FnScope ["_law_g", "_law_x", "_law_y"] ["_law_g", "_law_x", "_law_y"] (defScope s_l_over) := ⟨rfl, rfl, rfl, by decide +kernel, rfl, by decide +kernel, by decide +kernel⟩
abbrev s_l_number : Stmt := topS 85
theorem sc_l_number : FnScope ["_law_bag_here", "_law_g", "_law_wide", "_law_down"] ["_law_bag_here", "_law_g"] (defScope s_l_number) := ⟨rfl, rfl, rfl, by decide +kernel, rfl, by decide +kernel, by decide +kernel⟩
abbrev s_less : Stmt := topS 25
theorem sc_less : FnScope ["ground", "x", "y"] ["ground", "x", "y"] (defScope s_less) := ⟨rfl, rfl, rfl, by decide +kernel, rfl, by decide +kernel, by decide +kernel⟩
abbrev s_is_table : Stmt := topS 31
theorem sc_is_table : FnScope ["ground", "thing", "high", "wide", "row"] ["ground", "thing", "high", "wide"] (defScope s_is_table) := ⟨rfl, rfl, rfl, by decide +kernel, rfl, by decide +kernel, by decide +kernel⟩
abbrev s_scaled : Stmt := topS 32
theorem sc_scaled : FnScope ["ground", "row", "x", "one"] ["ground", "row", "x"] (defScope s_scaled) := ⟨rfl, rfl, rfl, by decide +kernel, rfl, by decide +kernel, by decide +kernel⟩
abbrev s_added : Stmt := topS 33
theorem sc_added : FnScope ["ground", "row", "other", "one", "two"] ["ground", "row", "other"] (defScope s_added) := ⟨rfl, rfl, rfl, by decide +kernel, rfl, by decide +kernel, by decide +kernel⟩
abbrev s_look_row : Stmt := topS 52
theorem sc_look_row : FnScope ["form", "thing"] ["form", "thing"] (defScope s_look_row) := ⟨rfl, rfl, rfl, by decide +kernel, rfl, by decide +kernel, by decide +kernel⟩
abbrev s_norm_of : Stmt := topS 66
theorem sc_norm_of : FnScope ["ground", "four", "found", "x"] ["ground", "four"] (defScope s_norm_of) := ⟨rfl, rfl, rfl, by decide +kernel, rfl, by decide +kernel, by decide +kernel⟩
abbrev s_l_sum : Stmt := topS 81
theorem sc_l_sum : FnScope ["_law_g", "_law_some", "_law_found", "_law_one"] ["_law_g", "_law_some"] (defScope s_l_sum) := ⟨rfl, rfl, rfl, by decide +kernel, rfl, by decide +kernel, by decide +kernel⟩
abbrev s_l_scaled : Stmt := topS 82
theorem sc_l_scaled : FnScope ["_law_g", "_law_row_here", "_law_x", "_law_one"] ["_law_g", "_law_row_here", "_law_x"] (defScope s_l_scaled) := ⟨rfl, rfl, rfl, by decide +kernel, rfl, by decide +kernel, by decide +kernel⟩
abbrev s_l_row : Stmt := topS 86
theorem sc_l_row : FnScope ["_law_bag_here", "_law_g", "_law_many", "_law_k"] ["_law_bag_here", "_law_g", "_law_many"] (defScope s_l_row) := ⟨rfl, rfl, rfl, by decide +kernel, rfl, by decide +kernel, by decide +kernel⟩
abbrev s_l_turned_four : Stmt := topS 89
theorem sc_l_turned_four : FnScope ["_law_g", "_law_four_here", "_law_x"] ["_law_g", "_law_four_here"] (defScope s_l_turned_four) := ⟨rfl, rfl, rfl, by decide +kernel, rfl, by decide +kernel, by decide +kernel⟩
abbrev s_taken_off : Stmt := topS 34
theorem sc_taken_off : FnScope ["ground", "row", "other", "x"] ["ground", "row", "other", "x"] (defScope s_taken_off) := ⟨rfl, rfl, rfl, by decide +kernel, rfl, by decide +kernel, by decide +kernel⟩
abbrev s_through : Stmt := topS 36
theorem sc_through : FnScope ["ground", "row", "table", "found", "x", "other"] ["ground", "row", "table"] (defScope s_through) := ⟨rfl, rfl, rfl, by decide +kernel, rfl, by decide +kernel, by decide +kernel⟩
abbrev s_four_times : Stmt := topS 65
theorem sc_four_times : FnScope ["ground", "one", "other", "found", "line", "x", "place", "sign", "y", "part"] ["ground", "one", "other"] (defScope s_four_times) := ⟨rfl, rfl, rfl, by decide +kernel, rfl, by decide +kernel, by decide +kernel⟩
abbrev s_look_four : Stmt := topS 67
theorem sc_look_four : FnScope ["ground", "thing"] ["ground", "thing"] (defScope s_look_four) := ⟨rfl, rfl, rfl, by decide +kernel, rfl, by decide +kernel, by decide +kernel⟩
abbrev s_l_norm : Stmt := topS 88
theorem sc_l_norm : FnScope ["_law_g", "_law_four_here", "_law_x"] ["_law_g", "_law_four_here"] (defScope s_l_norm) := ⟨rfl, rfl, rfl, by decide +kernel, rfl, by decide +kernel, by decide +kernel⟩
abbrev s_l_four_times : Stmt := topS 90
theorem sc_l_four_times : FnScope ["_law_g", "_law_one", "_law_two", "_law_a", "_law_b", "_law_c", "_law_d", "_law_e", "_law_f", "_law_h", "_law_k", "_law_rows", "_law_found", "_law_row_here", "_law_some", "_law_x", "_law_y", "_law_sign"] ["_law_g", "_law_one", "_law_two"] (defScope s_l_four_times) := ⟨rfl, rfl, rfl, by decide +kernel, rfl, by decide +kernel, by decide +kernel⟩
abbrev s_product : Stmt := topS 37
theorem sc_product : FnScope ["ground", "one", "other", "row"] ["ground", "one", "other"] (defScope s_product) := ⟨rfl, rfl, rfl, by decide +kernel, rfl, by decide +kernel, by decide +kernel⟩
abbrev s_least_rows : Stmt := topS 40
theorem sc_least_rows : FnScope ["ground", "rows", "found", "row", "head", "place"] ["ground", "rows"] (defScope s_least_rows) := ⟨rfl, rfl, rfl, by decide +kernel, rfl, by decide +kernel, by decide +kernel⟩
abbrev s_determinant : Stmt := topS 41
theorem sc_determinant : FnScope ["ground", "table", "left", "found", "some", "head", "j", "row"] ["ground", "table"] (defScope s_determinant) := ⟨rfl, rfl, rfl, by decide +kernel, rfl, by decide +kernel, by decide +kernel⟩
abbrev s_paired : Stmt := topS 54
theorem sc_paired : FnScope ["ground", "table", "row", "other", "found", "x", "y"] ["ground", "table", "row", "other"] (defScope s_paired) := ⟨rfl, rfl, rfl, by decide +kernel, rfl, by decide +kernel, by decide +kernel⟩
abbrev s_between : Stmt := topS 69
theorem sc_between : FnScope ["ground", "one", "other", "part", "unit"] ["ground", "one", "other"] (defScope s_between) := ⟨rfl, rfl, rfl, by decide +kernel, rfl, by decide +kernel, by decide +kernel⟩
abbrev s_l_four : Stmt := topS 87
theorem sc_l_four : FnScope ["_law_bag_here", "_law_g", "_law_found"] ["_law_bag_here", "_law_g"] (defScope s_l_four) := ⟨rfl, rfl, rfl, by decide +kernel, rfl, by decide +kernel, by decide +kernel⟩
abbrev s_l_between : Stmt := topS 91
theorem sc_l_between : FnScope ["_law_g", "_law_one", "_law_two", "_law_part", "_law_found", "_law_unit"] ["_law_g", "_law_one", "_law_two"] (defScope s_l_between) := ⟨rfl, rfl, rfl, by decide +kernel, rfl, by decide +kernel, by decide +kernel⟩
abbrev s_Keeper_of : Stmt := inCls (topS 61) 5
theorem sc_Keeper_of : FnScope ["self", "row"] ["self", "row"] (defScope s_Keeper_of) := ⟨rfl, rfl, rfl, by decide +kernel, rfl, by decide +kernel, by decide +kernel⟩
abbrev s_rank_of : Stmt := topS 42
theorem sc_rank_of : FnScope ["ground", "rows"] ["ground", "rows"] (defScope s_rank_of) := ⟨rfl, rfl, rfl, by decide +kernel, rfl, by decide +kernel, by decide +kernel⟩
abbrev s_is_form_table : Stmt := topS 49
theorem sc_is_form_table : FnScope ["ground", "thing"] ["ground", "thing"] (defScope s_is_form_table) := ⟨rfl, rfl, rfl, by decide +kernel, rfl, by decide +kernel, by decide +kernel⟩
abbrev s_first_changed : Stmt := topS 57
theorem sc_first_changed : FnScope ["form", "table", "one", "other"] ["form", "table"] (defScope s_first_changed) := ⟨rfl, rfl, rfl, by decide +kernel, rfl, by decide +kernel, by decide +kernel⟩
abbrev s_l_like : Stmt := topS 92
theorem sc_l_like : FnScope ["_law_bag_here", "_law_g", "_law_four_here", "_law_found", "_law_one", "_law_part", "_law_x"] ["_law_bag_here", "_law_g", "_law_four_here"] (defScope s_l_like) := ⟨rfl, rfl, rfl, by decide +kernel, rfl, by decide +kernel, by decide +kernel⟩
abbrev s_Keeper_hand : Stmt := inCls (topS 61) 8
theorem sc_Keeper_hand : FnScope ["self"] ["self"] (defScope s_Keeper_hand) := ⟨rfl, rfl, rfl, by decide +kernel, rfl, by decide +kernel, by decide +kernel⟩
abbrev s_back : Stmt := topS 43
theorem sc_back : FnScope ["ground", "table", "many", "rank", "both", "row", "one"] ["ground", "table"] (defScope s_back) := ⟨rfl, rfl, rfl, by decide +kernel, rfl, by decide +kernel, by decide +kernel⟩
abbrev s_Form_init : Stmt := inCls (topS 51) 0
theorem sc_Form_init : FnScope ["self", "table", "ground"] ["self", "table", "ground"] (defScope s_Form_init) := ⟨rfl, rfl, rfl, by decide +kernel, rfl, by decide +kernel, by decide +kernel⟩
abbrev s_Keeper_init : Stmt := inCls (topS 61) 0
theorem sc_Keeper_init : FnScope ["self", "form", "table", "changed"] ["self", "form", "table"] (defScope s_Keeper_init) := ⟨rfl, rfl, rfl, by decide +kernel, rfl, by decide +kernel, by decide +kernel⟩
abbrev s_squares : Stmt := topS 68
theorem sc_squares : FnScope ["ground", "many"] ["ground", "many"] (defScope s_squares) := ⟨rfl, rfl, rfl, by decide +kernel, rfl, by decide +kernel, by decide +kernel⟩
abbrev s_l_is_double : Stmt := topS 93
theorem sc_l_is_double : FnScope ["_law_g", "_law_one", "_law_two", "_law_keeper", "_law_row_here", "_law_part", "_law_due"] ["_law_g", "_law_one", "_law_two", "_law_keeper", "_law_row_here"] (defScope s_l_is_double) := ⟨rfl, rfl, rfl, by decide +kernel, rfl, by decide +kernel, by decide +kernel⟩
abbrev s_Keeper_back : Stmt := inCls (topS 61) 7
theorem sc_Keeper_back : FnScope ["self"] ["self"] (defScope s_Keeper_back) := ⟨rfl, rfl, rfl, by decide +kernel, rfl, by decide +kernel, by decide +kernel⟩
abbrev s_Keeper_then : Stmt := inCls (topS 61) 6
theorem sc_Keeper_then : FnScope ["self", "other"] ["self", "other"] (defScope s_Keeper_then) := ⟨rfl, rfl, rfl, by decide +kernel, rfl, by decide +kernel, by decide +kernel⟩
abbrev s_double_turn : Stmt := topS 70
theorem sc_double_turn : FnScope ["ground", "one", "other"] ["ground", "one", "other"] (defScope s_double_turn) := ⟨rfl, rfl, rfl, by decide +kernel, rfl, by decide +kernel, by decide +kernel⟩
abbrev s_law : Stmt := topS 94
theorem sc_law : FnScope ["_law_script", "_law_k", "_law_bag_here", "_law_g", "_law_one", "_law_four_here", "_law_row_here", "_law_two", "_law_more", "_law_here", "_law_there", "_law_signs"] ["_law_script"] (defScope s_law) := ⟨rfl, rfl, rfl, by decide +kernel, rfl, by decide +kernel, by decide +kernel⟩
abbrev c_GROUNDS : D := .tup [.int 0, .int 3, .int 5, .int 7, .int 11, .int 13]
abbrev c_MOST_LETTERS : D := .int 5
abbrev c_NOUGHT : D := .tup [.int 0, .int 1]
abbrev c_ONE : D := .tup [.int 1, .int 1]
abbrev c_PARTS : D := .int 4
abbrev c_PRODUCTS : D := .tup [.tup [.tup [.int 0, .int 1], .tup [.int 1, .int 1], .tup [.int 2, .int 1], .tup [.int 3, .int 1]], .tup [.tup [.int 1, .int 1], .tup [.int 0, .int (-1)], .tup [.int 3, .int 1], .tup [.int 2, .int (-1)]], .tup [.tup [.int 2, .int 1], .tup [.int 3, .int (-1)], .tup [.int 0, .int (-1)], .tup [.int 1, .int 1]], .tup [.tup [.int 3, .int 1], .tup [.int 2, .int 1], .tup [.int 1, .int (-1)], .tup [.int 0, .int (-1)]]]
noncomputable def b_wall_1 : M Flow := dSkip
noncomputable def b_wall : M Flow := dWhile (dTest (dC (.bl true)))
  (b_wall_1)
noncomputable def n_wall : Fn := dFn 1 1 [] b_wall
noncomputable def b_is_whole : M Flow := dRet (dAndV (dIsi "int" (dVar 0)) (dNotV (dIsi "bool" (dVar 0))))
noncomputable def n_is_whole : Fn := dFn 1 1 [] b_is_whole
noncomputable def b_shared_1 : M Flow := dPar false false 0 1 (dVar 1) (dOp2 opMod (dVar 0) (dVar 1))
noncomputable def b_shared : M Flow := dSeq (dPar false false 0 1 (dBlt opAbs (dCons (dVar 0) (dNil))) (dBlt opAbs (dCons (dVar 1) (dNil))))
  (dSeq (dWhile (dTest (dOp2 (opGt) (dVar 1) (dC (.int 0))))
  (b_shared_1))
  (dRet (dVar 0)))
noncomputable def n_shared : Fn := dFn 2 2 [] b_shared
noncomputable def b_contrary_on : M Flow := dRet (dOp2 opIx (dComp [2] (dRng1 (dVar 0)) (gSet 2) (dTest (dOp2 (opEq) (dOp2 opMod (dOp2 opMul (dVar 2) (dVar 1)) (dVar 0)) (dC (.int 1)))) (dVar 2)) (dC (.int 0)))
noncomputable def n_contrary_on : Fn := dFn 2 3 [] b_contrary_on
noncomputable def b_ones : M Flow := dRet (dBlt opTuple (dCons (dComp [1] (dRng1 (dVar 0)) (gSet 1) (M.pure true) (dBlt opTuple (dCons (dComp [2] (dRng1 (dVar 0)) (gSet 2) (M.pure true) (dIf (dTest (dOp2 (opEq) (dVar 1) (dVar 2))) (dC c_ONE) (dC c_NOUGHT))) (dNil)))) (dNil)))
noncomputable def n_ones : Fn := dFn 1 3 [] b_ones
noncomputable def b_turned : M Flow := dRet (dBlt opTuple (dCons (dComp [1] (dRng1 (dBlt opLen (dCons (dOp2 opIx (dVar 0) (dC (.int 0))) (dNil)))) (gSet 1) (M.pure true) (dBlt opTuple (dCons (dComp [2] (dItems (dVar 0)) (gSet 2) (M.pure true) (dOp2 opIx (dVar 2) (dVar 1))) (dNil)))) (dNil)))
noncomputable def n_turned : Fn := dFn 1 3 [] b_turned
noncomputable def b_headed : M Flow := dSeq (dSet false 1 (dComp [2, 3] (dEnumT (dVar 0)) (gTupD 2 (gConsD (gSet 2) (gConsD (gSet 3) (gNilD)))) (dTest (dOp2 (opNe) (dVar 3) (dC c_NOUGHT))) (dVar 2)))
  (dRet (dIf (dTest (dOp2 (opNe) (dVar 1) (dLst (dNil)))) (dOp2 opIx (dVar 1) (dC (.int 0))) (dBlt opLen (dCons (dVar 0) (dNil)))))
noncomputable def n_headed : Fn := dFn 1 4 [] b_headed
noncomputable def b_look_form : M Flow := dIfS (dNotT (dTest (dIsOwn "Form" (dVar 0))))
  (dBad)
  (dSkip)
noncomputable def n_look_form : Fn := dFn 1 1 [] b_look_form
noncomputable def b_l_bag : M Flow := dSeq (dSet false 2 (dC (.int 0)))
  (dSeq (dIfS (dTest (dOp2 (opLt) (dVar 1) (dBlt opLen (dCons (dVar 0) (dNil)))))
  (dSet false 2 (dOp2 opIx (dVar 0) (dVar 1)))
  (dSkip))
  (dSeq (dSet false 3 (dC (.int 0)))
  (dSeq (dIfS (dTest (dOp2 (opGe) (dBlt opAbs (dCons (dVar 2) (dNil))) (dOp2 opPow (dC (.int 10)) (dC (.int 18)))))
  (dSet false 3 (dBlt opAbs (dCons (dVar 2) (dNil))))
  (dSkip))
  (dSeq (dSet false 4 (dLst (dCons (dC (.int 2147483647)) (dCons (dC (.int 2147483629)) (dCons (dC (.int 2147483587)) (dCons (dC (.int 2147483579)) (dCons (dC (.int 2147483563)) (dCons (dC (.int 2147483549)) (dCons (dC (.int 2147483543)) (dCons (dC (.int 2147483497)) (dNil)))))))))))
  (dSeq (dSet false 5 (dOp2 opAdd (dOp2 opAdd (dOp2 opAdd (dOp2 opMul (dOp2 opMod (dVar 2) (dC (.int 2147483647))) (dC (.int 69623))) (dOp2 opMul (dOp2 opMul (dC (.int 104729)) (dVar 1)) (dVar 1))) (dOp2 opMul (dC (.int 7919)) (dVar 1))) (dC (.int 12345))))
  (dRet (dLst (dCons (dVar 3) (dCons (dOp2 opMod (dVar 5) (dOp2 opIx (dVar 4) (dOp2 opMod (dVar 1) (dC (.int 8))))) (dNil))))))))))
noncomputable def n_l_bag : Fn := dFn 2 6 [] b_l_bag
noncomputable def b_l_take : M Flow := dSeq (dIfS (dTest (dOp2 (opGt) (dIxOwn 0 (dC (.int 0))) (dC (.int 0))))
  (dSeq (dSet false 2 (dOp2 opMod (dIxOwn 0 (dC (.int 0))) (dVar 1)))
  (dSeq (dSetItem 0 false (dOp2 opDiv (dIxOwn 0 (dC (.int 0))) (dVar 1)) (dC (.int 0)))
  (dRet (dVar 2))))
  (dSkip))
  (dSeq (dSetItem 0 false (dOp2 opMod (dOp2 opAdd (dOp2 opMul (dIxOwn 0 (dC (.int 1))) (dC (.int 48271))) (dC (.int 2531011))) (dC (.int 2147483647))) (dC (.int 1)))
  (dRet (dOp2 opMod (dOp2 opDiv (dOp2 opMod (dOp2 opPow (dIxOwn 0 (dC (.int 1))) (dC (.int 3))) (dC (.int 2147483629))) (dC (.int 64))) (dVar 1))))
noncomputable def n_l_take : Fn := dFn 2 3 [0] b_l_take
noncomputable def b_l_shared_1 : M Flow := dPar false false 0 1 (dVar 1) (dOp2 opMod (dVar 0) (dVar 1))
noncomputable def b_l_shared : M Flow := dSeq (dPar false false 0 1 (dBlt opAbs (dCons (dVar 0) (dNil))) (dBlt opAbs (dCons (dVar 1) (dNil))))
  (dSeq (dWhile (dTest (dOp2 (opGt) (dVar 1) (dC (.int 0))))
  (b_l_shared_1))
  (dRet (dVar 0)))
noncomputable def n_l_shared : Fn := dFn 2 2 [] b_l_shared
noncomputable def b_l_ones : M Flow := dRet (dBlt opTuple (dCons (dComp [1] (dRng1 (dVar 0)) (gSet 1) (M.pure true) (dBlt opTuple (dCons (dComp [2] (dRng1 (dVar 0)) (gSet 2) (M.pure true) (dTup (dCons (dBlt opInt (dCons (dOp2 (opEq) (dVar 1) (dVar 2)) (dNil))) (dCons (dC (.int 1)) (dNil))))) (dNil)))) (dNil)))
noncomputable def n_l_ones : Fn := dFn 1 3 [] b_l_ones
noncomputable def b_Form_eq : M Flow := dRet (dAndV (dIsOwn "Form" (dVar 1)) (dAndV (dOp2 (opEq) (dAttr "Form" "ground" (dVar 0)) (dAttr "Form" "ground" (dVar 1))) (dOp2 (opEq) (dAttr "Form" "table" (dVar 0)) (dAttr "Form" "table" (dVar 1)))))
noncomputable def n_Form_eq : Fn := dFn 2 2 [] b_Form_eq
noncomputable def b_is_ground : M Flow := dRet (dAndV (dCall n_is_whole (vVal false (dVar 0) (vNil)) []) (dOp2 (opIn fun k => if false then !k else k) (dVar 0) (dC c_GROUNDS)))
noncomputable def n_is_ground : Fn := dFn 1 1 [] b_is_ground
noncomputable def b_is_number : M Flow := dSeq (dIfS (dOrT (dNotT (dTest (dIsi "tuple" (dVar 1)))) (dOrT (dTest (dOp2 (opNe) (dBlt opLen (dCons (dVar 1) (dNil))) (dC (.int 2)))) (dNotT (dTest (dBlt opAll (dCons (dComp [4] (dItems (dVar 1)) (gSet 4) (M.pure true) (dCall n_is_whole (vVal false (dVar 4) (vNil)) [])) (dNil)))))))
  (dRet (dC (.bl false)))
  (dSkip))
  (dSeq (dAsg (dVar 1) (gTupD 2 (gConsD (gSet 2) (gConsD (gSet 3) (gNilD)))))
  (dSeq (dIfS (dTest (dOp2 (opGt) (dVar 0) (dC (.int 0))))
  (dRet (dAndV (dChain (fun i j => decide (i ≤ j)) (fun i j => decide (i < j)) (dC (.int 0)) (dVar 2) (dVar 0)) (dOp2 (opEq) (dVar 3) (dC (.int 1)))))
  (dSkip))
  (dRet (dAndV (dOp2 (opGe) (dVar 3) (dC (.int 1))) (dOp2 (opEq) (dCall n_shared (vVal false (dVar 2) (vVal false (dVar 3) (vNil))) []) (dC (.int 1)))))))
noncomputable def n_is_number : Fn := dFn 2 5 [] b_is_number
noncomputable def b_lowest : M Flow := dSeq (dIfS (dAndT (dTest (dOp2 (opGt) (dVar 0) (dC (.int 0)))) (dTest (dOp2 (opEq) (dVar 2) (dC (.int 1)))))
  (dRet (dTup (dCons (dOp2 opMod (dVar 1) (dVar 0)) (dCons (dC (.int 1)) (dNil)))))
  (dSkip))
  (dSeq (dIfS (dTest (dOp2 (opGt) (dVar 0) (dC (.int 0))))
  (dRet (dTup (dCons (dOp2 opMod (dOp2 opMul (dVar 1) (dCall n_contrary_on (vVal false (dVar 0) (vVal false (dOp2 opMod (dVar 2) (dVar 0)) (vNil))) [])) (dVar 0)) (dCons (dC (.int 1)) (dNil)))))
  (dSkip))
  (dSeq (dSet false 3 (dCall n_shared (vVal false (dVar 1) (vVal false (dVar 2) (vNil))) []))
  (dSeq (dIfS (dTest (dOp2 (opLt) (dVar 2) (dC (.int 0))))
  (dSet false 3 (dOp2 opSub (dC (.int 0)) (dVar 3)))
  (dSkip))
  (dRet (dTup (dCons (dOp2 opDiv (dVar 1) (dVar 3)) (dCons (dOp2 opDiv (dVar 2) (dVar 3)) (dNil))))))))
noncomputable def n_lowest : Fn := dFn 3 4 [] b_lowest
noncomputable def b_l_mixed : M Flow := dSeq (dSet true 2 (dBlt opList (dCons (dVar 1) (dNil))))
  (dRet (dComp [3] (dItems (dVar 1)) (gSet 3) (M.pure true) (dPopAt 2 (dCall n_l_take (vRef 0 (vVal false (dLenOwn 2) (vNil))) []))))
noncomputable def n_l_mixed : Fn := dFn 2 4 [0] b_l_mixed
noncomputable def b_l_low_1 : M Flow := dIfS (dTest (dOp2 (opEq) (dOp2 opMod (dOp2 opMul (dVar 3) (dVar 2)) (dVar 0)) (dOp2 opMod (dVar 1) (dVar 0))))
  (dRet (dTup (dCons (dVar 3) (dCons (dC (.int 1)) (dNil)))))
  (dSkip)
noncomputable def b_l_low : M Flow := dSeq (dIfS (dTest (dOp2 (opGt) (dVar 0) (dC (.int 0))))
  (dFor (dRng1 (dVar 0)) (gSet 3)
  (b_l_low_1))
  (dSkip))
  (dSeq (dSet false 4 (dOp2 opMul (dCall n_l_shared (vVal false (dVar 1) (vVal false (dVar 2) (vNil))) []) (dOp2 opIx (dLst (dCons (dC (.int 1)) (dCons (dOp1 opNeg (dC (.int 1))) (dNil)))) (dBlt opInt (dCons (dOp2 (opLt) (dVar 2) (dC (.int 0))) (dNil))))))
  (dRet (dTup (dCons (dOp2 opDiv (dVar 1) (dVar 4)) (dCons (dOp2 opDiv (dVar 2) (dVar 4)) (dNil))))))
noncomputable def n_l_low : Fn := dFn 3 5 [] b_l_low
noncomputable def b_l_ground : M Flow := dRet (dOp2 opIx (dLst (dCons (dC (.int 0)) (dCons (dC (.int 0)) (dCons (dC (.int 0)) (dCons (dC (.int 0)) (dCons (dC (.int 3)) (dCons (dC (.int 3)) (dCons (dC (.int 5)) (dCons (dOp2 opIx (dLst (dCons (dC (.int 7)) (dCons (dC (.int 11)) (dCons (dC (.int 13)) (dNil))))) (dCall n_l_take (vRef 0 (vVal false (dC (.int 3)) (vNil))) [])) (dNil)))))))))) (dCall n_l_take (vRef 0 (vVal false (dC (.int 8)) (vNil))) []))
noncomputable def n_l_ground : Fn := dFn 1 1 [0] b_l_ground
noncomputable def b_Keeper_eq : M Flow := dRet (dAndV (dIsOwn "Keeper" (dVar 1)) (dAndV (dEqO "Form" n_Form_eq false (dAttr "Keeper" "form" (dVar 0)) (dAttr "Keeper" "form" (dVar 1))) (dOp2 (opEq) (dAttr "Keeper" "table" (dVar 0)) (dAttr "Keeper" "table" (dVar 1)))))
noncomputable def n_Keeper_eq : Fn := dFn 2 2 [] b_Keeper_eq
noncomputable def b_look_ground : M Flow := dIfS (dNotT (dTest (dCall n_is_ground (vVal false (dVar 0) (vNil)) [])))
  (dBad)
  (dSkip)
noncomputable def n_look_ground : Fn := dFn 1 1 [] b_look_ground
noncomputable def b_plus : M Flow := dRet (dCall n_lowest (vVal false (dVar 0) (vVal false (dOp2 opAdd (dOp2 opMul (dOp2 opIx (dVar 1) (dC (.int 0))) (dOp2 opIx (dVar 2) (dC (.int 1)))) (dOp2 opMul (dOp2 opIx (dVar 2) (dC (.int 0))) (dOp2 opIx (dVar 1) (dC (.int 1))))) (vVal false (dOp2 opMul (dOp2 opIx (dVar 1) (dC (.int 1))) (dOp2 opIx (dVar 2) (dC (.int 1)))) (vNil)))) [])
noncomputable def n_plus : Fn := dFn 3 3 [] b_plus
noncomputable def b_minus : M Flow := dRet (dCall n_lowest (vVal false (dVar 0) (vVal false (dOp2 opSub (dC (.int 0)) (dOp2 opIx (dVar 1) (dC (.int 0)))) (vVal false (dOp2 opIx (dVar 1) (dC (.int 1))) (vNil)))) [])
noncomputable def n_minus : Fn := dFn 2 2 [] b_minus
noncomputable def b_times : M Flow := dRet (dCall n_lowest (vVal false (dVar 0) (vVal false (dOp2 opMul (dOp2 opIx (dVar 1) (dC (.int 0))) (dOp2 opIx (dVar 2) (dC (.int 0)))) (vVal false (dOp2 opMul (dOp2 opIx (dVar 1) (dC (.int 1))) (dOp2 opIx (dVar 2) (dC (.int 1)))) (vNil)))) [])
noncomputable def n_times : Fn := dFn 3 3 [] b_times
noncomputable def b_over : M Flow := dSeq (dIfS (dTest (dOp2 (opEq) (dVar 2) (dC c_NOUGHT)))
  (dBad)
  (dSkip))
  (dRet (dCall n_lowest (vVal false (dVar 0) (vVal false (dOp2 opMul (dOp2 opIx (dVar 1) (dC (.int 0))) (dOp2 opIx (dVar 2) (dC (.int 1)))) (vVal false (dOp2 opMul (dOp2 opIx (dVar 1) (dC (.int 1))) (dOp2 opIx (dVar 2) (dC (.int 0)))) (vNil)))) []))
noncomputable def n_over : Fn := dFn 3 3 [] b_over
noncomputable def b_is_row : M Flow := dRet (dAndV (dIsi "tuple" (dVar 1)) (dAndV (dOp2 (opEq) (dBlt opLen (dCons (dVar 1) (dNil))) (dVar 2)) (dBlt opAll (dCons (dComp [3] (dItems (dVar 1)) (gSet 3) (M.pure true) (dCall n_is_number (vVal false (dVar 0) (vVal false (dVar 3) (vNil))) [])) (dNil)))))
noncomputable def n_is_row : Fn := dFn 3 4 [] b_is_row
noncomputable def b_l_plus : M Flow := dRet (dCall n_l_low (vVal false (dVar 0) (vVal false (dOp2 opAdd (dOp2 opMul (dOp2 opIx (dVar 1) (dC (.int 0))) (dOp2 opIx (dVar 2) (dC (.int 1)))) (dOp2 opMul (dOp2 opIx (dVar 2) (dC (.int 0))) (dOp2 opIx (dVar 1) (dC (.int 1))))) (vVal false (dOp2 opMul (dOp2 opIx (dVar 1) (dC (.int 1))) (dOp2 opIx (dVar 2) (dC (.int 1)))) (vNil)))) [])
noncomputable def n_l_plus : Fn := dFn 3 3 [] b_l_plus
noncomputable def b_l_times : M Flow := dRet (dCall n_l_low (vVal false (dVar 0) (vVal false (dOp2 opMul (dOp2 opIx (dVar 1) (dC (.int 0))) (dOp2 opIx (dVar 2) (dC (.int 0)))) (vVal false (dOp2 opMul (dOp2 opIx (dVar 1) (dC (.int 1))) (dOp2 opIx (dVar 2) (dC (.int 1)))) (vNil)))) [])
noncomputable def n_l_times : Fn := dFn 3 3 [] b_l_times
noncomputable def b_l_minus : M Flow := dRet (dCall n_l_low (vVal false (dVar 0) (vVal false (dOp2 opSub (dC (.int 0)) (dOp2 opIx (dVar 1) (dC (.int 0)))) (vVal false (dOp2 opIx (dVar 1) (dC (.int 1))) (vNil)))) [])
noncomputable def n_l_minus : Fn := dFn 2 2 [] b_l_minus
noncomputable def b_l_over : M Flow := dRet (dCall n_l_low (vVal false (dVar 0) (vVal false (dOp2 opMul (dOp2 opIx (dVar 1) (dC (.int 0))) (dOp2 opIx (dVar 2) (dC (.int 1)))) (vVal false (dOp2 opMul (dOp2 opIx (dVar 1) (dC (.int 1))) (dOp2 opIx (dVar 2) (dC (.int 0)))) (vNil)))) [])
noncomputable def n_l_over : Fn := dFn 3 3 [] b_l_over
noncomputable def b_l_number : M Flow := dSeq (dIfS (dTest (dOp2 (opGt) (dVar 1) (dC (.int 0))))
  (dRet (dTup (dCons (dCall n_l_take (vRef 0 (vVal false (dVar 1) (vNil))) []) (dCons (dC (.int 1)) (dNil)))))
  (dSkip))
  (dSeq (dSet false 2 (dOp2 opIx (dLst (dCons (dC (.int 3)) (dCons (dC (.int 5)) (dCons (dC (.int 5)) (dCons (dC (.int 9)) (dCons (dC (.int 19)) (dCons (dC (.int 99)) (dNil)))))))) (dCall n_l_take (vRef 0 (vVal false (dC (.int 6)) (vNil))) [])))
  (dSeq (dSet false 3 (dOp2 opIx (dLst (dCons (dC (.int 1)) (dCons (dC (.int 1)) (dCons (dC (.int 1)) (dCons (dOp2 opAdd (dC (.int 2)) (dCall n_l_take (vRef 0 (vVal false (dC (.int 8)) (vNil))) [])) (dNil)))))) (dCall n_l_take (vRef 0 (vVal false (dC (.int 4)) (vNil))) [])))
  (dRet (dCall n_l_low (vVal false (dC (.int 0)) (vVal false (dOp2 opSub (dCall n_l_take (vRef 0 (vVal false (dVar 2) (vNil))) []) (dOp2 opDiv (dVar 2) (dC (.int 2)))) (vVal false (dVar 3) (vNil)))) []))))
noncomputable def n_l_number : Fn := dFn 2 4 [0] b_l_number
noncomputable def b_less : M Flow := dRet (dCall n_plus (vVal false (dVar 0) (vVal false (dVar 1) (vVal false (dCall n_minus (vVal false (dVar 0) (vVal false (dVar 2) (vNil))) []) (vNil)))) [])
noncomputable def n_less : Fn := dFn 3 3 [] b_less
noncomputable def b_is_table : M Flow := dRet (dAndV (dIsi "tuple" (dVar 1)) (dAndV (dOp2 (opEq) (dBlt opLen (dCons (dVar 1) (dNil))) (dVar 2)) (dBlt opAll (dCons (dComp [4] (dItems (dVar 1)) (gSet 4) (M.pure true) (dCall n_is_row (vVal false (dVar 0) (vVal false (dVar 4) (vVal false (dVar 3) (vNil)))) [])) (dNil)))))
noncomputable def n_is_table : Fn := dFn 4 5 [] b_is_table
noncomputable def b_scaled : M Flow := dRet (dBlt opTuple (dCons (dComp [3] (dItems (dVar 1)) (gSet 3) (M.pure true) (dCall n_times (vVal false (dVar 0) (vVal false (dVar 3) (vVal false (dVar 2) (vNil)))) [])) (dNil)))
noncomputable def n_scaled : Fn := dFn 3 4 [] b_scaled
noncomputable def b_added : M Flow := dRet (dBlt opTuple (dCons (dComp [3, 4] (dZipS (dVar 1) (dVar 2)) (gTupD 2 (gConsD (gSet 3) (gConsD (gSet 4) (gNilD)))) (M.pure true) (dCall n_plus (vVal false (dVar 0) (vVal false (dVar 3) (vVal false (dVar 4) (vNil)))) [])) (dNil)))
noncomputable def n_added : Fn := dFn 3 5 [] b_added
noncomputable def b_look_row : M Flow := dIfS (dNotT (dTest (dCall n_is_row (vVal false (dAttr "Form" "ground" (dVar 0)) (vVal false (dVar 1) (vVal false (dBlt opLen (dCons (dAttr "Form" "table" (dVar 0)) (dNil))) (vNil)))) [])))
  (dBad)
  (dSkip)
noncomputable def n_look_row : Fn := dFn 2 2 [] b_look_row
noncomputable def b_norm_of_1 : M Flow := dSet false 2 (dCall n_plus (vVal false (dVar 0) (vVal false (dVar 2) (vVal false (dCall n_times (vVal false (dVar 0) (vVal false (dVar 3) (vVal false (dVar 3) (vNil)))) []) (vNil)))) [])
noncomputable def b_norm_of : M Flow := dSeq (dSet false 2 (dC c_NOUGHT))
  (dSeq (dFor (dItems (dVar 1)) (gSet 3)
  (b_norm_of_1))
  (dRet (dVar 2)))
noncomputable def n_norm_of : Fn := dFn 2 4 [] b_norm_of
noncomputable def b_l_sum_1 : M Flow := dSet false 2 (dCall n_l_plus (vVal false (dVar 0) (vVal false (dVar 2) (vVal false (dVar 3) (vNil)))) [])
noncomputable def b_l_sum : M Flow := dSeq (dSet false 2 (dTup (dCons (dC (.int 0)) (dCons (dC (.int 1)) (dNil)))))
  (dSeq (dFor (dItems (dVar 1)) (gSet 3)
  (b_l_sum_1))
  (dRet (dVar 2)))
noncomputable def n_l_sum : Fn := dFn 2 4 [] b_l_sum
noncomputable def b_l_scaled : M Flow := dRet (dBlt opTuple (dCons (dComp [3] (dItems (dVar 1)) (gSet 3) (M.pure true) (dCall n_l_times (vVal false (dVar 0) (vVal false (dVar 3) (vVal false (dVar 2) (vNil)))) [])) (dNil)))
noncomputable def n_l_scaled : Fn := dFn 3 4 [] b_l_scaled
noncomputable def b_l_row : M Flow := dRet (dBlt opTuple (dCons (dComp [3] (dRng1 (dVar 2)) (gSet 3) (M.pure true) (dCall n_l_number (vRef 0 (vVal false (dVar 1) (vNil))) [])) (dNil)))
noncomputable def n_l_row : Fn := dFn 3 4 [0] b_l_row
noncomputable def b_l_turned_four : M Flow := dRet (dOp2 opAdd (dSl (dVar 1) (pNo) (pSo (dC (.int 1)))) (dBlt opTuple (dCons (dComp [2] (dItems (dSl (dVar 1) (pSo (dC (.int 1))) (pNo))) (gSet 2) (M.pure true) (dCall n_l_minus (vVal false (dVar 0) (vVal false (dVar 2) (vNil))) [])) (dNil))))
noncomputable def n_l_turned_four : Fn := dFn 2 3 [] b_l_turned_four
noncomputable def b_taken_off : M Flow := dRet (dCall n_added (vVal false (dVar 0) (vVal false (dVar 1) (vVal false (dCall n_scaled (vVal false (dVar 0) (vVal false (dVar 2) (vVal false (dCall n_minus (vVal false (dVar 0) (vVal false (dVar 3) (vNil))) []) (vNil)))) []) (vNil)))) [])
noncomputable def n_taken_off : Fn := dFn 4 4 [] b_taken_off
noncomputable def b_through_1 : M Flow := dIfS (dTest (dOp2 (opNe) (dVar 4) (dC c_NOUGHT)))
  (dSet false 3 (dCall n_added (vVal false (dVar 0) (vVal false (dVar 3) (vVal false (dCall n_scaled (vVal false (dVar 0) (vVal false (dVar 5) (vVal false (dVar 4) (vNil)))) []) (vNil)))) []))
  (dSkip)
noncomputable def b_through : M Flow := dSeq (dSet false 3 (dBlt opTuple (dCons (dOp2 opMul (dLst (dCons (dC c_NOUGHT) (dNil))) (dBlt opLen (dCons (dOp2 opIx (dVar 2) (dC (.int 0))) (dNil)))) (dNil))))
  (dSeq (dFor (dZipS (dVar 1) (dVar 2)) (gTupD 2 (gConsD (gSet 4) (gConsD (gSet 5) (gNilD))))
  (b_through_1))
  (dRet (dVar 3)))
noncomputable def n_through : Fn := dFn 3 6 [] b_through
noncomputable def b_four_times_1 : M Flow := dSeq (dSet false 9 (dCall n_times (vVal false (dVar 0) (vVal false (dVar 5) (vVal false (dVar 8) (vNil)))) []))
  (dSetItem 3 false (dIf (dTest (dOp2 (opGt) (dVar 7) (dC (.int 0)))) (dCall n_plus (vVal false (dVar 0) (vVal false (dIxOwn 3 (dVar 6)) (vVal false (dVar 9) (vNil)))) []) (dCall n_less (vVal false (dVar 0) (vVal false (dIxOwn 3 (dVar 6)) (vVal false (dVar 9) (vNil)))) [])) (dVar 6))
noncomputable def b_four_times_2 : M Flow := dFor (dZip (dVar 4) (dVar 2)) (gTupD 2 (gConsD (gTupD 2 (gConsD (gSet 6) (gConsD (gSet 7) (gNilD)))) (gConsD (gSet 8) (gNilD))))
  (b_four_times_1)
noncomputable def b_four_times : M Flow := dSeq (dSet true 3 (dOp2 opMul (dLst (dCons (dC c_NOUGHT) (dNil))) (dC c_PARTS)))
  (dSeq (dFor (dZip (dC c_PRODUCTS) (dVar 1)) (gTupD 2 (gConsD (gSet 4) (gConsD (gSet 5) (gNilD))))
  (b_four_times_2))
  (dFrz 3 (dRet (dBlt opTuple (dCons (dVar 3) (dNil))))))
noncomputable def n_four_times : Fn := dFn 3 10 [] b_four_times
noncomputable def b_look_four : M Flow := dIfS (dOrT (dNotT (dTest (dCall n_is_row (vVal false (dVar 0) (vVal false (dVar 1) (vVal false (dC c_PARTS) (vNil)))) []))) (dTest (dOp2 (opEq) (dCall n_norm_of (vVal false (dVar 0) (vVal false (dVar 1) (vNil))) []) (dC c_NOUGHT))))
  (dBad)
  (dSkip)
noncomputable def n_look_four : Fn := dFn 2 2 [] b_look_four
noncomputable def b_l_norm : M Flow := dRet (dCall n_l_sum (vVal false (dVar 0) (vVal false (dComp [2] (dItems (dVar 1)) (gSet 2) (M.pure true) (dCall n_l_times (vVal false (dVar 0) (vVal false (dVar 2) (vVal false (dVar 2) (vNil)))) [])) (vNil))) [])
noncomputable def n_l_norm : Fn := dFn 2 3 [] b_l_norm
noncomputable def b_l_four_times_1 : M Flow := dSeq (dSet false 14 (dComp [15, 16, 17] (dItems (dVar 13)) (gTupD 3 (gConsD (gSet 15) (gConsD (gSet 16) (gConsD (gSet 17) (gNilD))))) (M.pure true) (dCall n_l_times (vVal false (dVar 0) (vVal false (dCall n_l_low (vVal false (dVar 0) (vVal false (dVar 17) (vVal false (dC (.int 1)) (vNil)))) []) (vVal false (dCall n_l_times (vVal false (dVar 0) (vVal false (dVar 15) (vVal false (dVar 16) (vNil)))) []) (vNil)))) [])))
  (dExpr (dAppend 12 false (dCall n_l_sum (vVal false (dVar 0) (vVal false (dVar 14) (vNil))) [])))
noncomputable def b_l_four_times : M Flow := dSeq (dAsg (dVar 1) (gTupD 4 (gConsD (gSet 3) (gConsD (gSet 4) (gConsD (gSet 5) (gConsD (gSet 6) (gNilD)))))))
  (dSeq (dAsg (dVar 2) (gTupD 4 (gConsD (gSet 7) (gConsD (gSet 8) (gConsD (gSet 9) (gConsD (gSet 10) (gNilD)))))))
  (dSeq (dSet false 11 (dLst (dCons (dLst (dCons (dTup (dCons (dVar 3) (dCons (dVar 7) (dCons (dC (.int 1)) (dNil))))) (dCons (dTup (dCons (dVar 4) (dCons (dVar 8) (dCons (dOp1 opNeg (dC (.int 1))) (dNil))))) (dCons (dTup (dCons (dVar 5) (dCons (dVar 9) (dCons (dOp1 opNeg (dC (.int 1))) (dNil))))) (dCons (dTup (dCons (dVar 6) (dCons (dVar 10) (dCons (dOp1 opNeg (dC (.int 1))) (dNil))))) (dNil)))))) (dCons (dLst (dCons (dTup (dCons (dVar 3) (dCons (dVar 8) (dCons (dC (.int 1)) (dNil))))) (dCons (dTup (dCons (dVar 4) (dCons (dVar 7) (dCons (dC (.int 1)) (dNil))))) (dCons (dTup (dCons (dVar 5) (dCons (dVar 10) (dCons (dC (.int 1)) (dNil))))) (dCons (dTup (dCons (dVar 6) (dCons (dVar 9) (dCons (dOp1 opNeg (dC (.int 1))) (dNil))))) (dNil)))))) (dCons (dLst (dCons (dTup (dCons (dVar 3) (dCons (dVar 9) (dCons (dC (.int 1)) (dNil))))) (dCons (dTup (dCons (dVar 4) (dCons (dVar 10) (dCons (dOp1 opNeg (dC (.int 1))) (dNil))))) (dCons (dTup (dCons (dVar 5) (dCons (dVar 7) (dCons (dC (.int 1)) (dNil))))) (dCons (dTup (dCons (dVar 6) (dCons (dVar 8) (dCons (dC (.int 1)) (dNil))))) (dNil)))))) (dCons (dLst (dCons (dTup (dCons (dVar 3) (dCons (dVar 10) (dCons (dC (.int 1)) (dNil))))) (dCons (dTup (dCons (dVar 4) (dCons (dVar 9) (dCons (dC (.int 1)) (dNil))))) (dCons (dTup (dCons (dVar 5) (dCons (dVar 8) (dCons (dOp1 opNeg (dC (.int 1))) (dNil))))) (dCons (dTup (dCons (dVar 6) (dCons (dVar 7) (dCons (dC (.int 1)) (dNil))))) (dNil)))))) (dNil)))))))
  (dSeq (dSet true 12 (dLst (dNil)))
  (dSeq (dFor (dItems (dVar 11)) (gSet 13)
  (b_l_four_times_1))
  (dFrz 12 (dRet (dBlt opTuple (dCons (dVar 12) (dNil)))))))))
noncomputable def n_l_four_times : Fn := dFn 3 18 [] b_l_four_times
noncomputable def b_product : M Flow := dRet (dBlt opTuple (dCons (dComp [3] (dItems (dVar 1)) (gSet 3) (M.pure true) (dCall n_through (vVal false (dVar 0) (vVal false (dVar 3) (vVal false (dVar 2) (vNil)))) [])) (dNil)))
noncomputable def n_product : Fn := dFn 3 4 [] b_product
noncomputable def b_least_rows_1 : M Flow := dSet false 3 (dCall n_taken_off (vVal false (dVar 0) (vVal false (dVar 3) (vVal false (dVar 4) (vVal false (dOp2 opIx (dVar 3) (dCall n_headed (vVal false (dVar 4) (vNil)) [])) (vNil))))) [])
noncomputable def b_least_rows_2 : M Flow := dSeq (dFor (dItems (dVar 2)) (gSet 4)
  (b_least_rows_1))
  (dSeq (dSet false 5 (dCall n_headed (vVal false (dVar 3) (vNil)) []))
  (dIfS (dTest (dOp2 (opLt) (dVar 5) (dBlt opLen (dCons (dVar 3) (dNil)))))
  (dSeq (dSet false 3 (dCall n_scaled (vVal false (dVar 0) (vVal false (dVar 3) (vVal false (dCall n_over (vVal false (dVar 0) (vVal false (dC c_ONE) (vVal false (dOp2 opIx (dVar 3) (dVar 5)) (vNil)))) []) (vNil)))) []))
  (dSet false 2 (dOp2 opAdd (dComp [4] (dItems (dVar 2)) (gSet 4) (M.pure true) (dCall n_taken_off (vVal false (dVar 0) (vVal false (dVar 4) (vVal false (dVar 3) (vVal false (dOp2 opIx (dVar 4) (dVar 5)) (vNil))))) [])) (dLst (dCons (dVar 3) (dNil))))))
  (dSkip)))
noncomputable def b_least_rows : M Flow := dSeq (dSet false 2 (dLst (dNil)))
  (dSeq (dFor (dItems (dVar 1)) (gSet 3)
  (b_least_rows_2))
  (dRet (dBlt opTuple (dCons (dSortK (dVar 2) n_headed) (dNil)))))
noncomputable def n_least_rows : Fn := dFn 2 6 [] b_least_rows
noncomputable def b_determinant_1 : M Flow := dSeq (dSet false 4 (dBorM (dComp [6, 7] (dEnum (dVar 2)) (gTupD 2 (gConsD (gSet 6) (gConsD (gSet 7) (gNilD)))) (dTest (dOp2 (opNe) (dOp2 opIx (dVar 7) (dC (.int 0))) (dC c_NOUGHT))) (dVar 6))))
  (dSeq (dIfS (dTest (dOp2 (opEq) (dVar 4) (dLst (dNil))))
  (dRet (dC c_NOUGHT))
  (dSkip))
  (dSeq (dSet false 5 (dPopAt 2 (dOp2 opIx (dVar 4) (dC (.int 0)))))
  (dSeq (dSet false 3 (dCall n_times (vVal false (dVar 0) (vVal false (dVar 3) (vVal false (dIf (dTest (dOp2 (opEq) (dOp2 opMod (dOp2 opIx (dVar 4) (dC (.int 0))) (dC (.int 2))) (dC (.int 0)))) (dOp2 opIx (dVar 5) (dC (.int 0))) (dCall n_minus (vVal false (dVar 0) (vVal false (dOp2 opIx (dVar 5) (dC (.int 0))) (vNil))) [])) (vNil)))) []))
  (dFrz 2 (dSet true 2 (dComp [7] (dItems (dVar 2)) (gSet 7) (M.pure true) (dSl (dCall n_taken_off (vVal false (dVar 0) (vVal false (dVar 7) (vVal false (dVar 5) (vVal false (dCall n_over (vVal false (dVar 0) (vVal false (dOp2 opIx (dVar 7) (dC (.int 0))) (vVal false (dOp2 opIx (dVar 5) (dC (.int 0))) (vNil)))) []) (vNil))))) []) (pSo (dC (.int 1))) (pNo))))))))
noncomputable def b_determinant : M Flow := dSeq (dSet true 2 (dBlt opList (dCons (dVar 1) (dNil))))
  (dSeq (dSet false 3 (dC c_ONE))
  (dSeq (dWhile (dBorT (dTest (dOp2 (opNe) (dVar 2) (dLst (dNil)))))
  (b_determinant_1))
  (dRet (dVar 3))))
noncomputable def n_determinant : Fn := dFn 2 8 [] b_determinant
noncomputable def b_paired_1 : M Flow := dSet false 4 (dCall n_plus (vVal false (dVar 0) (vVal false (dVar 4) (vVal false (dCall n_times (vVal false (dVar 0) (vVal false (dVar 5) (vVal false (dVar 6) (vNil)))) []) (vNil)))) [])
noncomputable def b_paired : M Flow := dSeq (dSet false 4 (dC c_NOUGHT))
  (dSeq (dFor (dZipS (dCall n_through (vVal false (dVar 0) (vVal false (dVar 2) (vVal false (dVar 1) (vNil)))) []) (dVar 3)) (gTupD 2 (gConsD (gSet 5) (gConsD (gSet 6) (gNilD))))
  (b_paired_1))
  (dRet (dVar 4)))
noncomputable def n_paired : Fn := dFn 4 7 [] b_paired
noncomputable def b_between : M Flow := dSeq (dSet false 3 (dCall n_over (vVal false (dVar 0) (vVal false (dC c_ONE) (vVal false (dCall n_norm_of (vVal false (dVar 0) (vVal false (dVar 1) (vNil))) []) (vNil)))) []))
  (dRet (dComp [4] (dItems (dCall n_ones (vVal false (dC c_PARTS) (vNil)) [])) (gSet 4) (M.pure true) (dCall n_scaled (vVal false (dVar 0) (vVal false (dCall n_four_times (vVal false (dVar 0) (vVal false (dCall n_four_times (vVal false (dVar 0) (vVal false (dVar 1) (vVal false (dVar 4) (vNil)))) []) (vVal false (dVar 2) (vNil)))) []) (vVal false (dVar 3) (vNil)))) [])))
noncomputable def n_between : Fn := dFn 3 5 [] b_between
noncomputable def b_l_four : M Flow := dSeq (dSet false 2 (dCall n_l_row (vRef 0 (vVal false (dVar 1) (vVal false (dC (.int 4)) (vNil)))) []))
  (dSeq (dIfS (dTest (dOp2 (opEq) (dCall n_l_norm (vVal false (dVar 1) (vVal false (dVar 2) (vNil))) []) (dTup (dCons (dC (.int 0)) (dCons (dC (.int 1)) (dNil))))))
  (dRet (dOp2 opIx (dCall n_l_ones (vVal false (dC (.int 4)) (vNil)) []) (dCall n_l_take (vRef 0 (vVal false (dC (.int 4)) (vNil))) [])))
  (dSkip))
  (dRet (dVar 2)))
noncomputable def n_l_four : Fn := dFn 2 3 [0] b_l_four
noncomputable def b_l_between_1 : M Flow := dExpr (dAppend 4 false (dCall n_l_scaled (vVal false (dVar 0) (vVal false (dCall n_l_four_times (vVal false (dVar 0) (vVal false (dCall n_l_four_times (vVal false (dVar 0) (vVal false (dVar 1) (vVal false (dVar 5) (vNil)))) []) (vVal false (dVar 2) (vNil)))) []) (vVal false (dVar 3) (vNil)))) []))
noncomputable def b_l_between : M Flow := dSeq (dSet false 3 (dCall n_l_over (vVal false (dVar 0) (vVal false (dTup (dCons (dC (.int 1)) (dCons (dC (.int 1)) (dNil)))) (vVal false (dCall n_l_norm (vVal false (dVar 0) (vVal false (dVar 1) (vNil))) []) (vNil)))) []))
  (dSeq (dSet true 4 (dLst (dNil)))
  (dSeq (dFor (dItems (dCall n_l_ones (vVal false (dC (.int 4)) (vNil)) [])) (gSet 5)
  (b_l_between_1))
  (dFrz 4 (dRet (dBlt opTuple (dCons (dVar 4) (dNil)))))))
noncomputable def n_l_between : Fn := dFn 3 6 [] b_l_between
noncomputable def b_Keeper_of : M Flow := dSeq (dExpr (dCall (noX n_look_row) (vVal false (dAttr "Keeper" "form" (dVar 0)) (vVal false (dVar 1) (vNil))) []))
  (dRet (dCall (noX n_through) (vVal false (dAttr "Form" "ground" (dAttr "Keeper" "form" (dVar 0))) (vVal false (dVar 1) (vVal false (dAttr "Keeper" "table" (dVar 0)) (vNil)))) []))
noncomputable def n_Keeper_of : Fn := dFn 2 2 [] b_Keeper_of
noncomputable def b_rank_of : M Flow := dRet (dBlt opLen (dCons (dCall n_least_rows (vVal false (dVar 0) (vVal false (dVar 1) (vNil))) []) (dNil)))
noncomputable def n_rank_of : Fn := dFn 2 2 [] b_rank_of
noncomputable def b_is_form_table : M Flow := dSeq (dIfS (dOrT (dNotT (dTest (dIsi "tuple" (dVar 1)))) (dNotT (dTest (dChain (fun i j => decide (i ≤ j)) (fun i j => decide (i ≤ j)) (dC (.int 1)) (dBlt opLen (dCons (dVar 1) (dNil))) (dOp2 opSub (dC c_MOST_LETTERS) (dBlt opInt (dCons (dOp2 (opGt) (dVar 0) (dC (.int 0))) (dNil))))))))
  (dRet (dC (.bl false)))
  (dSkip))
  (dSeq (dIfS (dNotT (dTest (dCall n_is_table (vVal false (dVar 0) (vVal false (dVar 1) (vVal false (dBlt opLen (dCons (dVar 1) (dNil))) (vVal false (dBlt opLen (dCons (dVar 1) (dNil))) (vNil))))) [])))
  (dRet (dC (.bl false)))
  (dSkip))
  (dRet (dAndV (dOp2 (opEq) (dCall n_turned (vVal false (dVar 1) (vNil)) []) (dVar 1)) (dOp2 (opNe) (dCall n_determinant (vVal false (dVar 0) (vVal false (dVar 1) (vNil))) []) (dC c_NOUGHT)))))
noncomputable def n_is_form_table : Fn := dFn 2 2 [] b_is_form_table
noncomputable def b_first_changed_1 : M Flow := dIfS (dTest (dOp2 (opNe) (dCall n_paired (vVal false (dAttr "Form" "ground" (dVar 0)) (vVal false (dAttr "Form" "table" (dVar 0)) (vVal false (dOp2 opIx (dVar 1) (dVar 2)) (vVal false (dOp2 opIx (dVar 1) (dVar 3)) (vNil))))) []) (dOp2 opIx (dOp2 opIx (dAttr "Form" "table" (dVar 0)) (dVar 2)) (dVar 3))))
  (dRet (dTup (dCons (dVar 2) (dCons (dVar 3) (dNil)))))
  (dSkip)
noncomputable def b_first_changed_2 : M Flow := dFor (dRng2 (dVar 2) (dBlt opLen (dCons (dAttr "Form" "table" (dVar 0)) (dNil)))) (gSet 3)
  (b_first_changed_1)
noncomputable def b_first_changed : M Flow := dSeq (dFor (dRng1 (dBlt opLen (dCons (dAttr "Form" "table" (dVar 0)) (dNil)))) (gSet 2)
  (b_first_changed_2))
  (dRet (dC .non))
noncomputable def n_first_changed : Fn := dFn 2 4 [] b_first_changed
noncomputable def b_l_like : M Flow := dSeq (dIfS (dTest (dOp2 (opEq) (dCall n_l_take (vRef 0 (vVal false (dC (.int 2)) (vNil))) []) (dC (.int 0))))
  (dSeq (dSet false 3 (dCall n_l_mixed (vRef 0 (vVal false (dBlt opList (dCons (dVar 2) (dNil))) (vNil))) []))
  (dRet (dBlt opTuple (dCons (dComp [6] (dItems (dVar 3)) (gSet 6) (M.pure true) (dOp2 opIx (dLst (dCons (dVar 6) (dCons (dCall n_l_minus (vVal false (dVar 1) (vVal false (dVar 6) (vNil))) []) (dNil)))) (dCall n_l_take (vRef 0 (vVal false (dC (.int 2)) (vNil))) []))) (dNil)))))
  (dSkip))
  (dSeq (dSet false 4 (dCall n_l_four (vRef 0 (vVal false (dVar 1) (vNil))) []))
  (dSeq (dSet false 5 (dCall n_l_over (vVal false (dVar 1) (vVal false (dTup (dCons (dC (.int 1)) (dCons (dC (.int 1)) (dNil)))) (vVal false (dCall n_l_norm (vVal false (dVar 1) (vVal false (dVar 4) (vNil))) []) (vNil)))) []))
  (dRet (dCall n_l_four_times (vVal false (dVar 1) (vVal false (dVar 2) (vVal false (dCall n_l_scaled (vVal false (dVar 1) (vVal false (dCall n_l_four_times (vVal false (dVar 1) (vVal false (dVar 4) (vVal false (dVar 4) (vNil)))) []) (vVal false (dVar 5) (vNil)))) []) (vNil)))) []))))
noncomputable def n_l_like : Fn := dFn 3 7 [0] b_l_like
noncomputable def b_Keeper_hand : M Flow := dRet (dIf (dTest (dOp2 (opEq) (dCall (noX n_determinant) (vVal false (dAttr "Form" "ground" (dAttr "Keeper" "form" (dVar 0))) (vVal false (dAttr "Keeper" "table" (dVar 0)) (vNil))) []) (dC c_ONE))) (dC (.int 1)) (dOp1 opNeg (dC (.int 1))))
noncomputable def n_Keeper_hand : Fn := dFn 1 1 [] b_Keeper_hand
noncomputable def b_back : M Flow := dSeq (dSet false 2 (dBlt opLen (dCons (dVar 1) (dNil))))
  (dSeq (dSet false 3 (dCall n_rank_of (vVal false (dVar 0) (vVal false (dVar 1) (vNil))) []))
  (dSeq (dIfS (dTest (dOp2 (opLt) (dVar 3) (dVar 2)))
  (dBad)
  (dSkip))
  (dSeq (dSet false 4 (dComp [5, 6] (dZipS (dVar 1) (dCall n_ones (vVal false (dVar 2) (vNil)) [])) (gTupD 2 (gConsD (gSet 5) (gConsD (gSet 6) (gNilD)))) (M.pure true) (dOp2 opAdd (dVar 5) (dVar 6))))
  (dRet (dBlt opTuple (dCons (dComp [5] (dItems (dCall n_least_rows (vVal false (dVar 0) (vVal false (dVar 4) (vNil))) [])) (gSet 5) (M.pure true) (dSl (dVar 5) (pSo (dVar 2)) (pNo))) (dNil)))))))
noncomputable def n_back : Fn := dFn 2 7 [] b_back
noncomputable def b_Form_init : M Flow := dSeq (dExpr (dCall (noX n_look_ground) (vVal false (dVar 2) (vNil)) []))
  (dSeq (dIfS (dNotT (dTest (dCall (noX n_is_form_table) (vVal false (dVar 2) (vVal false (dVar 1) (vNil))) [])))
  (dBad)
  (dSkip))
  (dSeq (dSetF "Form" 0 "table" (dVar 1))
  (dSetF "Form" 0 "ground" (dVar 2))))
noncomputable def n_Form_init : Fn := dFn 3 3 [0] b_Form_init
noncomputable def b_Keeper_init : M Flow := dSeq (dExpr (dCall (noX n_look_form) (vVal false (dVar 1) (vNil)) []))
  (dSeq (dIfS (dNotT (dTest (dCall (noX n_is_table) (vVal false (dAttr "Form" "ground" (dVar 1)) (vVal false (dVar 2) (vVal false (dBlt opLen (dCons (dAttr "Form" "table" (dVar 1)) (dNil))) (vVal false (dBlt opLen (dCons (dAttr "Form" "table" (dVar 1)) (dNil))) (vNil))))) [])))
  (dBad)
  (dSkip))
  (dSeq (dSet false 3 (dCall (noX n_first_changed) (vVal false (dVar 1) (vVal false (dVar 2) (vNil))) []))
  (dSeq (dIfS (dTest (dOp2 (opNotN) (dVar 3) (dC .non)))
  (dBad)
  (dSkip))
  (dSeq (dSetF "Keeper" 0 "form" (dVar 1))
  (dSetF "Keeper" 0 "table" (dVar 2))))))
noncomputable def n_Keeper_init : Fn := dFn 3 4 [0] b_Keeper_init
noncomputable def b_squares : M Flow := dRet (dMakeK n_Form_init "Form" 1 1 0 (dCons (dCall n_ones (vVal false (dVar 1) (vNil)) []) (dNil)) (dCons (dVar 0) (dNil)))
noncomputable def n_squares : Fn := dFn 2 2 [] b_squares
noncomputable def b_l_is_double : M Flow := dSeq (dIfS (dOrT (dNotT (dTest (dIsOwn "Keeper" (dVar 3)))) (dOrT (dTest (dEqO "Form" n_Form_eq true (dAttr "Keeper" "form" (dVar 3)) (dFz (dMakeK n_Form_init "Form" 1 1 0 (dCons (dCall n_l_ones (vVal false (dC (.int 4)) (vNil)) []) (dNil)) (dCons (dVar 0) (dNil)))))) (dTest (dOp2 (opNe) (dCall n_Keeper_hand (vVal false (dObj "Keeper" "hand" (dVar 3)) (vNil)) []) (dC (.int 1))))))
  (dRet (dC (.bl false)))
  (dSkip))
  (dSeq (dSet false 5 (dCall n_l_over (vVal false (dVar 0) (vVal false (dTup (dCons (dC (.int 1)) (dCons (dC (.int 1)) (dNil)))) (vVal false (dCall n_l_norm (vVal false (dVar 0) (vVal false (dVar 1) (vNil))) []) (vNil)))) []))
  (dSeq (dSet false 6 (dCall n_l_scaled (vVal false (dVar 0) (vVal false (dCall n_l_four_times (vVal false (dVar 0) (vVal false (dCall n_l_four_times (vVal false (dVar 0) (vVal false (dVar 1) (vVal false (dVar 4) (vNil)))) []) (vVal false (dVar 2) (vNil)))) []) (vVal false (dVar 5) (vNil)))) []))
  (dRet (dAndV (dOp2 (opEq) (dAttr "Keeper" "table" (dVar 3)) (dCall n_l_between (vVal false (dVar 0) (vVal false (dVar 1) (vVal false (dVar 2) (vNil)))) [])) (dOp2 (opEq) (dCall n_Keeper_of (vVal false (dObj "Keeper" "of" (dVar 3)) (vVal false (dVar 4) (vNil))) []) (dVar 6))))))
noncomputable def n_l_is_double : Fn := dFn 5 7 [] b_l_is_double
noncomputable def b_Keeper_back : M Flow := dRet (dMake n_Keeper_init "Keeper" (dCons (dAttr "Keeper" "form" (dVar 0)) (dCons (dCall (noX n_back) (vVal false (dAttr "Form" "ground" (dAttr "Keeper" "form" (dVar 0))) (vVal false (dAttr "Keeper" "table" (dVar 0)) (vNil))) []) (dNil))) [])
noncomputable def n_Keeper_back : Fn := dFn 1 1 [] b_Keeper_back
noncomputable def b_Keeper_then : M Flow := dSeq (dIfS (dNotT (dTest (dIsOwn "Keeper" (dVar 1))))
  (dBad)
  (dSkip))
  (dSeq (dIfS (dTest (dEqO "Form" n_Form_eq true (dAttr "Keeper" "form" (dVar 1)) (dAttr "Keeper" "form" (dVar 0))))
  (dBad)
  (dSkip))
  (dRet (dMake n_Keeper_init "Keeper" (dCons (dAttr "Keeper" "form" (dVar 0)) (dCons (dCall (noX n_product) (vVal false (dAttr "Form" "ground" (dAttr "Keeper" "form" (dVar 0))) (vVal false (dAttr "Keeper" "table" (dVar 0)) (vVal false (dAttr "Keeper" "table" (dVar 1)) (vNil)))) []) (dNil))) [])))
noncomputable def n_Keeper_then : Fn := dFn 2 2 [] b_Keeper_then
noncomputable def b_double_turn : M Flow := dSeq (dExpr (dCall n_look_four (vVal false (dVar 0) (vVal false (dVar 1) (vNil))) []))
  (dSeq (dExpr (dCall n_look_four (vVal false (dVar 0) (vVal false (dVar 2) (vNil))) []))
  (dSeq (dIfS (dTest (dOp2 (opNe) (dCall n_norm_of (vVal false (dVar 0) (vVal false (dVar 1) (vNil))) []) (dCall n_norm_of (vVal false (dVar 0) (vVal false (dVar 2) (vNil))) [])))
  (dBad)
  (dSkip))
  (dRet (dMake n_Keeper_init "Keeper" (dCons (dCall n_squares (vVal false (dVar 0) (vVal false (dC c_PARTS) (vNil))) []) (dCons (dBlt opTuple (dCons (dCall n_between (vVal false (dVar 0) (vVal false (dVar 1) (vVal false (dVar 2) (vNil)))) []) (dNil))) (dNil))) []))))
noncomputable def n_double_turn : Fn := dFn 3 3 [] b_double_turn
noncomputable def b_law_1 : M Flow := dSeq (dSet true 2 (dCall n_l_bag (vVal false (dVar 0) (vVal false (dVar 1) (vNil))) []))
  (dSeq (dSet false 3 (dCall n_l_ground (vRef 2 (vNil)) []))
  (dSeq (dPar3 false false false 4 5 6 (dCall n_l_four (vRef 2 (vVal false (dVar 3) (vNil))) []) (dCall n_l_four (vRef 2 (vVal false (dVar 3) (vNil))) []) (dCall n_l_row (vRef 2 (vVal false (dVar 3) (vVal false (dC (.int 4)) (vNil)))) []))
  (dSeq (dPar false false 7 8 (dCall n_l_like (vRef 2 (vVal false (dVar 3) (vVal false (dVar 4) (vNil)))) []) (dCall n_l_like (vRef 2 (vVal false (dVar 3) (vVal false (dVar 5) (vNil)))) []))
  (dSeq (dPar false false 9 10 (dCall n_double_turn (vVal false (dVar 3) (vVal false (dVar 4) (vVal false (dVar 7) (vNil)))) []) (dCall n_double_turn (vVal false (dVar 3) (vVal false (dVar 5) (vVal false (dVar 8) (vNil)))) []))
  (dSeq (dIfS (dOrT (dNotT (dTest (dCall n_l_is_double (vVal false (dVar 3) (vVal false (dVar 4) (vVal false (dVar 7) (vVal false (dVar 9) (vVal false (dVar 6) (vNil)))))) []))) (dNotT (dTest (dCall n_l_is_double (vVal false (dVar 3) (vVal false (dVar 5) (vVal false (dVar 8) (vVal false (dVar 10) (vVal false (dVar 6) (vNil)))))) []))))
  (dRet (dC (.bl false)))
  (dSkip))
  (dSeq (dIfS (dTest (dEqO "Keeper" n_Keeper_eq true (dFz (dCall n_double_turn (vVal false (dVar 3) (vVal false (dCall n_four_times (vVal false (dVar 3) (vVal false (dVar 5) (vVal false (dVar 4) (vNil)))) []) (vVal false (dCall n_four_times (vVal false (dVar 3) (vVal false (dVar 7) (vVal false (dVar 8) (vNil)))) []) (vNil)))) [])) (dFz (dCall n_Keeper_then (vVal false (dObj "Keeper" "then" (dVar 9)) (vVal false (dVar 10) (vNil))) []))))
  (dRet (dC (.bl false)))
  (dSkip))
  (dSeq (dIfS (dTest (dEqO "Keeper" n_Keeper_eq true (dFz (dCall n_double_turn (vVal false (dVar 3) (vVal false (dCall n_l_turned_four (vVal false (dVar 3) (vVal false (dVar 4) (vNil))) []) (vVal false (dCall n_l_turned_four (vVal false (dVar 3) (vVal false (dVar 7) (vNil))) []) (vNil)))) [])) (dFz (dCall n_Keeper_back (vVal false (dObj "Keeper" "back" (dVar 9)) (vNil)) []))))
  (dRet (dC (.bl false)))
  (dSkip))
  (dSeq (dSet false 11 (dCall n_l_minus (vVal false (dVar 3) (vVal false (dTup (dCons (dC (.int 1)) (dCons (dC (.int 1)) (dNil)))) (vNil))) []))
  (dSeq (dIfS (dTest (dEqO "Keeper" n_Keeper_eq true (dFz (dCall n_double_turn (vVal false (dVar 3) (vVal false (dCall n_l_scaled (vVal false (dVar 3) (vVal false (dVar 4) (vVal false (dVar 11) (vNil)))) []) (vVal false (dCall n_l_scaled (vVal false (dVar 3) (vVal false (dVar 7) (vVal false (dVar 11) (vNil)))) []) (vNil)))) [])) (dVar 9)))
  (dRet (dC (.bl false)))
  (dSkip))
  (dIfS (dOrT (dTest (dEqO "Keeper" n_Keeper_eq true (dFz (dCall n_double_turn (vVal false (dVar 3) (vVal false (dVar 4) (vVal false (dVar 7) (vNil)))) [])) (dVar 9))) (dNotT (dTest (dCall n_l_is_double (vVal false (dVar 3) (vVal false (dVar 4) (vVal false (dVar 7) (vVal false (dVar 9) (vVal false (dVar 6) (vNil)))))) []))))
  (dRet (dC (.bl false)))
  (dSkip)))))))))))
noncomputable def b_law : M Flow := dSeq (dFor (dRng1 (dBlt opMax (dCons (dC (.int 2)) (dCons (dBlt opMin (dCons (dC (.int 5)) (dCons (dBlt opLen (dCons (dVar 0) (dNil))) (dNil)))) (dNil))))) (gSet 1)
  (b_law_1))
  (dRet (dC (.bl true)))
noncomputable def n_law : Fn := dFn 1 12 [] b_law
end DD.K41

namespace DD.K41
open PySem PySem.Spec L2
open PyProof.Rows hiding St
structure Facts (K : PySem.W.Frag) (mg : Str → Option Value) : Prop where
  b_abs : mg "abs" = none
  b_all : mg "all" = none
  b_bool : mg "bool" = none
  b_enumerate : mg "enumerate" = none
  b_int : mg "int" = none
  b_isinstance : mg "isinstance" = none
  b_len : mg "len" = none
  b_list : mg "list" = none
  b_max : mg "max" = none
  b_min : mg "min" = none
  b_range : mg "range" = none
  b_sorted : mg "sorted" = none
  b_tuple : mg "tuple" = none
  b_zip : mg "zip" = none
  g_GROUNDS : Glob K mg "GROUNDS" c_GROUNDS
  g_MOST_LETTERS : Glob K mg "MOST_LETTERS" c_MOST_LETTERS
  g_NOUGHT : Glob K mg "NOUGHT" c_NOUGHT
  g_ONE : Glob K mg "ONE" c_ONE
  g_PARTS : Glob K mg "PARTS" c_PARTS
  g_PRODUCTS : Glob K mg "PRODUCTS" c_PRODUCTS
  l_back_tables : mg "back_tables" = mg "back"
  n_Form : InsC K mg "Form" ["table", "ground"]
  n_Keeper : InsC K mg "Keeper" ["form", "table"]
  s_Form : IsC K mg "Form"
  s_Keeper : IsC K mg "Keeper"
  e_Form : NeC K mg "Form"
  e_Keeper : NeC K mg "Keeper"
section
variable {P : Program} {w : World} {K : PySem.W.Frag} {mg : Str → Option Value} {base : Heap}
theorem ok_wall (H : Facts K mg) (h : Def0 K mg "_wall" s_wall ["k"])  : CalD P w K mg base 1 "_wall" n_wall [] :=
  cal_def h sc_wall rfl rfl rfl fun f cdv A outer s H0 E hr =>
(dss_one (ds_while PassesOwn.never (dt_val de_bl)
  (dss_one ds_pass)))
theorem ok_is_whole (H : Facts K mg) (h : Def0 K mg "is_whole" s_is_whole ["thing"])  : CalD P w K mg base 1 "is_whole" n_is_whole [] :=
  cal_def h sc_is_whole rfl rfl rfl fun f cdv A outer s H0 E hr =>
(dss_one (ds_ret (de_and (de_isi (T := "int") rfl (by rfl) H.b_isinstance (xv 0) (by rfl) H.b_int (by decide +kernel) (by decide +kernel)) (de_one (de_not (de_isi (T := "bool") rfl (by rfl) H.b_isinstance (xv 0) (by rfl) H.b_bool (by decide +kernel) (by decide +kernel)))))))
theorem ok_shared (H : Facts K mg) (h : Def0 K mg "shared" s_shared ["one", "other"])  : CalD P w K mg base 1 "shared" n_shared [] :=
  cal_def h sc_shared rfl rfl rfl fun f cdv A outer s H0 E hr =>
(dss_cons (ds_par (i := 0) (j := 1) false false rfl sc_shared.nd rfl rfl (by exact of_decide_eq_true rfl) (by exact of_decide_eq_true rfl) rfl rfl (de_callB call_abs on_abs (by rfl) H.b_abs (by decide +kernel) (da_cons (xv 0) da_nil)) (de_callB call_abs on_abs (by rfl) H.b_abs (by decide +kernel) (da_cons (xv 1) da_nil)) (by exact of_decide_eq_true rfl) (by rfl))
  (dss_cons (ds_while PassesOwn.never (dt_cmp op_gt o2_gt (xv 1) de_int (nomark _))
  (dss_one (ds_par (i := 0) (j := 1) false false rfl sc_shared.nd rfl rfl (by exact of_decide_eq_true rfl) (by exact of_decide_eq_true rfl) rfl rfl (xv 1) (de_op2 op_modN o2_mod (xv 0) (xv 1)) (by exact of_decide_eq_true rfl) (by rfl))))
  (dss_one (ds_ret (xv 0)))))
theorem ok_contrary_on (H : Facts K mg) (h : Def0 K mg "contrary_on" s_contrary_on ["wheel", "rest"])  : CalD P w K mg base 1 "contrary_on" n_contrary_on [] :=
  cal_def h sc_contrary_on rfl rfl rfl fun f cdv A outer s H0 E hr =>
(dss_one (ds_ret (de_ix (de_comp (own := [("one", 2)]) (by exact of_decide_eq_true rfl) (by exact of_decide_eq_true rfl) rfl sc_contrary_on.nd (di_rng1 (by rfl) H.b_range (xv 0)) (blkOk_by (by kernel_rfl)) (fun _ _ _ _ _ => (dg_name (i := 2) (by exact of_decide_eq_true rfl) sc_contrary_on.nd rfl (by first | exact Or.inl rfl | exact Or.inr rfl) (by exact of_decide_eq_true rfl))) (fun _ _ _ _ _ => (dts_one (dt_cmp (op_eqD hr.units) o2_eq (de_op2 op_modN o2_mod (de_op2 or_mulA o2_mul (xv 2) (xv 1)) (xv 0)) de_int (nomark _)))) (fun _ _ _ _ _ => (xv 2))) de_int rfl (fun _ _ => rfl))))
theorem ok_ones (H : Facts K mg) (h : Def0 K mg "ones" s_ones ["many"])  : CalD P w K mg base 1 "ones" n_ones [] :=
  cal_def h sc_ones rfl rfl rfl fun f cdv A outer s H0 E hr =>
(dss_one (ds_ret (de_callTy call_tuple_of on_tuple (by rfl) H.b_tuple (by decide +kernel) (da_cons (de_comp (own := [("i", 1)]) (by exact of_decide_eq_true rfl) (by exact of_decide_eq_true rfl) rfl sc_ones.nd (di_rng1 (by rfl) H.b_range (xv 0)) (blkOk_by (by kernel_rfl)) (fun _ _ _ _ _ => (dg_name (i := 1) (by exact of_decide_eq_true rfl) sc_ones.nd rfl (by first | exact Or.inl rfl | exact Or.inr rfl) (by exact of_decide_eq_true rfl))) (fun _ _ _ _ _ => dts_nil) (fun _ _ _ _ _ => (de_callTy call_tuple_of on_tuple (by rfl) H.b_tuple (by decide +kernel) (da_cons (de_comp (own := [("j", 2)]) (by exact of_decide_eq_true rfl) (by exact of_decide_eq_true rfl) rfl sc_ones.nd (di_rng1 (by rfl) H.b_range (xv 0)) (blkOk_by (by kernel_rfl)) (fun _ _ _ _ _ => (dg_name (i := 2) (by exact of_decide_eq_true rfl) sc_ones.nd rfl (by first | exact Or.inl rfl | exact Or.inr rfl) (by exact of_decide_eq_true rfl))) (fun _ _ _ _ _ => dts_nil) (fun _ _ _ _ _ => (de_if (dt_cmp (op_eqD hr.units) o2_eq (xv 1) (xv 2) (nomark _)) (de_globC H.g_ONE (by rfl) rfl rfl) (de_globC H.g_NOUGHT (by rfl) rfl rfl)))) da_nil)))) da_nil))))
theorem ok_turned (H : Facts K mg) (h : Def0 K mg "turned" s_turned ["table"])  : CalD P w K mg base 1 "turned" n_turned [] :=
  cal_def h sc_turned rfl rfl rfl fun f cdv A outer s H0 E hr =>
(dss_one (ds_ret (de_callTy call_tuple_of on_tuple (by rfl) H.b_tuple (by decide +kernel) (da_cons (de_comp (own := [("k", 1)]) (by exact of_decide_eq_true rfl) (by exact of_decide_eq_true rfl) rfl sc_turned.nd (di_rng1 (by rfl) H.b_range (de_callB cl_len on_len (by rfl) H.b_len PySem.boot_len (da_cons (de_ix (xv 0) de_int rfl (fun _ _ => rfl)) da_nil))) (blkOk_by (by kernel_rfl)) (fun _ _ _ _ _ => (dg_name (i := 1) (by exact of_decide_eq_true rfl) sc_turned.nd rfl (by first | exact Or.inl rfl | exact Or.inr rfl) (by exact of_decide_eq_true rfl))) (fun _ _ _ _ _ => dts_nil) (fun _ _ _ _ _ => (de_callTy call_tuple_of on_tuple (by rfl) H.b_tuple (by decide +kernel) (da_cons (de_comp (own := [("row", 2)]) (by exact of_decide_eq_true rfl) (by exact of_decide_eq_true rfl) rfl sc_turned.nd (di_seq rfl (xv 0)) (blkOk_by (by kernel_rfl)) (fun _ _ _ _ _ => (dg_name (i := 2) (by exact of_decide_eq_true rfl) sc_turned.nd rfl (by first | exact Or.inl rfl | exact Or.inr rfl) (by exact of_decide_eq_true rfl))) (fun _ _ _ _ _ => dts_nil) (fun _ _ _ _ _ => (de_ix (xv 2) (xv 1) rfl (fun _ _ => rfl)))) da_nil)))) da_nil))))
theorem ok_headed (H : Facts K mg) (h : Def0 K mg "headed" s_headed ["row"])  : CalD P w K mg base 1 "headed" n_headed [] :=
  cal_def h sc_headed rfl rfl rfl fun f cdv A outer s H0 E hr =>
(dss_cons (ds_setComp (i := 1) (own := [("k", 2), ("x", 3)]) false (by exact of_decide_eq_true rfl) (by exact of_decide_eq_true rfl) (by exact of_decide_eq_true rfl) rfl sc_headed.nd rfl rfl (sw_true rfl rfl rfl (by decide +kernel)) (di_enumT rfl (by rfl) H.b_enumerate (xv 0)) (blkOk_by (by kernel_rfl)) (fun _ _ _ _ _ => (dg_tup rfl rfl (dgs_cons (dg_name (i := 2) (by exact of_decide_eq_true rfl) sc_headed.nd rfl (by first | exact Or.inl rfl | exact Or.inr rfl) (by exact of_decide_eq_true rfl)) (dgs_cons (dg_name (i := 3) (by exact of_decide_eq_true rfl) sc_headed.nd rfl (by first | exact Or.inl rfl | exact Or.inr rfl) (by exact of_decide_eq_true rfl)) dgs_nil)))) (fun _ _ _ _ _ => (dts_one (dt_cmp (op_neD hr.units) o2_ne (xv 3) (de_globC H.g_NOUGHT (by rfl) rfl rfl) (nomark _)))) (fun _ _ _ _ _ => (xv 2)))
  (dss_one (ds_ret (de_if (dt_cmp (op_neD hr.units) o2_ne (xv 1) (de_lst da_nil) (nomark _)) (de_ix (xv 1) de_int rfl (fun _ _ => rfl)) (de_callB cl_len on_len (by rfl) H.b_len PySem.boot_len (da_cons (xv 0) da_nil))))))
theorem ok_look_form (H : Facts K mg) (h : Def0 K mg "look_form" s_look_form ["thing"])  : CalD P w K mg base 1 "look_form" n_look_form [] :=
  cal_def h sc_look_form rfl rfl rfl fun f cdv A outer s H0 E hr =>
(dss_one (ds_if (dt_not (dt_val (de_isOwn H.s_Form rfl rfl (by rfl) H.b_isinstance (xv 0) (by rfl))))
  (dss_one ds_bad0)
  dss_nil))
theorem ok_l_bag (H : Facts K mg) (h : Def0 K mg "_law_bag" s_l_bag ["_law_script", "_law_at"])  : CalD P w K mg base 1 "_law_bag" n_l_bag [] :=
  cal_def h sc_l_bag rfl rfl rfl fun f cdv A outer s H0 E hr =>
(dss_cons (ds_set (i := 2) false sc_l_bag.nd rfl (by first | exact Or.inl rfl | exact Or.inr rfl) (by exact of_decide_eq_true rfl) de_int)
  (dss_cons (ds_if (dt_cmp op_lt o2_lt (xv 1) (de_callB cl_len on_len (by rfl) H.b_len PySem.boot_len (da_cons (xv 0) da_nil)) (nomark _))
  (dss_one (ds_set (i := 2) false sc_l_bag.nd rfl (by first | exact Or.inl rfl | exact Or.inr rfl) (by exact of_decide_eq_true rfl) (de_ix (xv 0) (xv 1) rfl (fun _ _ => rfl))))
  dss_nil)
  (dss_cons (ds_set (i := 3) false sc_l_bag.nd rfl (by first | exact Or.inl rfl | exact Or.inr rfl) (by exact of_decide_eq_true rfl) de_int)
  (dss_cons (ds_if (dt_cmp op_ge o2_ge (de_callB call_abs on_abs (by rfl) H.b_abs (by decide +kernel) (da_cons (xv 2) da_nil)) (de_op2 op_powB o2_pow de_int de_int) (nomark _))
  (dss_one (ds_set (i := 3) false sc_l_bag.nd rfl (by first | exact Or.inl rfl | exact Or.inr rfl) (by exact of_decide_eq_true rfl) (de_callB call_abs on_abs (by rfl) H.b_abs (by decide +kernel) (da_cons (xv 2) da_nil))))
  dss_nil)
  (dss_cons (ds_set (i := 4) false sc_l_bag.nd rfl (by first | exact Or.inl rfl | exact Or.inr rfl) (by exact of_decide_eq_true rfl) (de_lst (da_cons de_int (da_cons de_int (da_cons de_int (da_cons de_int (da_cons de_int (da_cons de_int (da_cons de_int (da_cons de_int da_nil))))))))))
  (dss_cons (ds_set (i := 5) false sc_l_bag.nd rfl (by first | exact Or.inl rfl | exact Or.inr rfl) (by exact of_decide_eq_true rfl) (de_op2 or_add o2_add (de_op2 or_add o2_add (de_op2 or_add o2_add (de_op2 or_mulA o2_mul (de_op2 op_modN o2_mod (xv 2) de_int) de_int) (de_op2 or_mulA o2_mul (de_op2 or_mulA o2_mul de_int (xv 1)) (xv 1))) (de_op2 or_mulA o2_mul de_int (xv 1))) de_int))
  (dss_one (ds_ret (de_lst (da_cons (xv 3) (da_cons (de_op2 op_modN o2_mod (xv 5) (de_ix (xv 4) (de_op2 op_modN o2_mod (xv 1) de_int) rfl (fun _ _ => rfl))) da_nil)))))))))))
theorem ok_l_take (H : Facts K mg) (h : Def0 K mg "_law_take" s_l_take ["_law_bag_here", "_law_many"])  : CalD P w K mg base 1 "_law_take" n_l_take [] :=
  cal_def h sc_l_take rfl rfl rfl fun f cdv A outer s H0 E hr =>
(dss_cons (ds_if (dt_cmp op_gt o2_gt (de_ixOwn (i := 0) rfl rfl (by first | exact Or.inl rfl | exact Or.inr (Or.inl rfl) | exact Or.inr (Or.inr rfl)) de_int (fun _ _ => rfl)) de_int (nomark _))
  (dss_cons (ds_set (i := 2) false sc_l_take.nd rfl (by first | exact Or.inl rfl | exact Or.inr rfl) (by exact of_decide_eq_true rfl) (de_op2 op_modN o2_mod (de_ixOwn (i := 0) rfl rfl (by first | exact Or.inl rfl | exact Or.inr (Or.inl rfl) | exact Or.inr (Or.inr rfl)) de_int (fun _ _ => rfl)) (xv 1)))
  (dss_cons (ds_setitem (i := 0) false rfl (by first | exact Or.inl rfl | exact Or.inr (Or.inl rfl) | exact Or.inr (Or.inr rfl)) (de_op2 or_div o2_div (de_ixOwn (i := 0) rfl rfl (by first | exact Or.inl rfl | exact Or.inr (Or.inl rfl) | exact Or.inr (Or.inr rfl)) de_int (fun _ _ => rfl)) (xv 1)) de_int)
  (dss_one (ds_ret (xv 2)))))
  dss_nil)
  (dss_cons (ds_setitem (i := 0) false rfl (by first | exact Or.inl rfl | exact Or.inr (Or.inl rfl) | exact Or.inr (Or.inr rfl)) (de_op2 op_modN o2_mod (de_op2 or_add o2_add (de_op2 or_mulA o2_mul (de_ixOwn (i := 0) rfl rfl (by first | exact Or.inl rfl | exact Or.inr (Or.inl rfl) | exact Or.inr (Or.inr rfl)) de_int (fun _ _ => rfl)) de_int) de_int) de_int) de_int)
  (dss_one (ds_ret (de_op2 op_modN o2_mod (de_op2 or_div o2_div (de_op2 op_modN o2_mod (de_op2 op_powB o2_pow (de_ixOwn (i := 0) rfl rfl (by first | exact Or.inl rfl | exact Or.inr (Or.inl rfl) | exact Or.inr (Or.inr rfl)) de_int (fun _ _ => rfl)) de_int) de_int) de_int) (xv 1))))))
theorem ok_l_shared (H : Facts K mg) (h : Def0 K mg "_law_shared" s_l_shared ["_law_one", "_law_other"])  : CalD P w K mg base 1 "_law_shared" n_l_shared [] :=
  cal_def h sc_l_shared rfl rfl rfl fun f cdv A outer s H0 E hr =>
(dss_cons (ds_par (i := 0) (j := 1) false false rfl sc_l_shared.nd rfl rfl (by exact of_decide_eq_true rfl) (by exact of_decide_eq_true rfl) rfl rfl (de_callB call_abs on_abs (by rfl) H.b_abs (by decide +kernel) (da_cons (xv 0) da_nil)) (de_callB call_abs on_abs (by rfl) H.b_abs (by decide +kernel) (da_cons (xv 1) da_nil)) (by exact of_decide_eq_true rfl) (by rfl))
  (dss_cons (ds_while PassesOwn.never (dt_cmp op_gt o2_gt (xv 1) de_int (nomark _))
  (dss_one (ds_par (i := 0) (j := 1) false false rfl sc_l_shared.nd rfl rfl (by exact of_decide_eq_true rfl) (by exact of_decide_eq_true rfl) rfl rfl (xv 1) (de_op2 op_modN o2_mod (xv 0) (xv 1)) (by exact of_decide_eq_true rfl) (by rfl))))
  (dss_one (ds_ret (xv 0)))))
theorem ok_l_ones (H : Facts K mg) (h : Def0 K mg "_law_ones" s_l_ones ["_law_many"])  : CalD P w K mg base 1 "_law_ones" n_l_ones [] :=
  cal_def h sc_l_ones rfl rfl rfl fun f cdv A outer s H0 E hr =>
(dss_one (ds_ret (de_callTy call_tuple_of on_tuple (by rfl) H.b_tuple (by decide +kernel) (da_cons (de_comp (own := [("_law_i", 1)]) (by exact of_decide_eq_true rfl) (by exact of_decide_eq_true rfl) rfl sc_l_ones.nd (di_rng1 (by rfl) H.b_range (xv 0)) (blkOk_by (by kernel_rfl)) (fun _ _ _ _ _ => (dg_name (i := 1) (by exact of_decide_eq_true rfl) sc_l_ones.nd rfl (by first | exact Or.inl rfl | exact Or.inr rfl) (by exact of_decide_eq_true rfl))) (fun _ _ _ _ _ => dts_nil) (fun _ _ _ _ _ => (de_callTy call_tuple_of on_tuple (by rfl) H.b_tuple (by decide +kernel) (da_cons (de_comp (own := [("_law_j", 2)]) (by exact of_decide_eq_true rfl) (by exact of_decide_eq_true rfl) rfl sc_l_ones.nd (di_rng1 (by rfl) H.b_range (xv 0)) (blkOk_by (by kernel_rfl)) (fun _ _ _ _ _ => (dg_name (i := 2) (by exact of_decide_eq_true rfl) sc_l_ones.nd rfl (by first | exact Or.inl rfl | exact Or.inr rfl) (by exact of_decide_eq_true rfl))) (fun _ _ _ _ _ => dts_nil) (fun _ _ _ _ _ => (de_tup (da_cons (de_callTy call_int1 on_int (by rfl) H.b_int (by decide +kernel) (da_cons (de_cmp (op_eqD hr.units) o2_eq (xv 1) (xv 2) (nomark _)) da_nil)) (da_cons de_int da_nil))))) da_nil)))) da_nil))))
theorem ok_Form_eq (H : Facts K mg) (h : Met0 K mg "Form" "__eq__" "Form.__eq__" s_Form_eq ["self", "other"])  : MetX P w K mg base 1 "Form" "__eq__" n_Form_eq [] :=
  met_def h sc_Form_eq rfl rfl rfl fun f cdv A outer s H0 E hr tk =>
(dss_one (ds_ret (de_and (de_isOwn H.s_Form rfl rfl (by rfl) H.b_isinstance (xv 1) (by rfl)) (de_and (de_cmp (op_eqD hr.units) o2_eq (de_attr H.n_Form (by simp) rfl (xv 0)) (de_attr H.n_Form (by simp) rfl (xv 1)) (nomark _)) (de_one (de_cmp (op_eqD hr.units) o2_eq (de_attr H.n_Form (by simp) rfl (xv 0)) (de_attr H.n_Form (by simp) rfl (xv 1)) (nomark _)))))))
theorem ok_is_ground (H : Facts K mg) (h : Def0 K mg "is_ground" s_is_ground ["thing"]) (c_is_whole : CalD P w K mg base 1 "is_whole" n_is_whole []) : CalD P w K mg base 2 "is_ground" n_is_ground [] :=
  cal_def h sc_is_ground rfl rfl rfl fun f cdv A outer s H0 E hr =>
(dss_one (ds_ret (de_and (de_call c_is_whole hr (by rfl) rfl rfl rfl (dv_val false (xv 0) dv_nil)) (de_one (de_cmp op_in_seq (o2_in (neg := false)) (xv 0) (de_globC H.g_GROUNDS (by rfl) rfl rfl) (by rfl))))))
theorem ok_is_number (H : Facts K mg) (h : Def0 K mg "is_number" s_is_number ["ground", "thing"]) (c_is_whole : CalD P w K mg base 1 "is_whole" n_is_whole []) (c_shared : CalD P w K mg base 1 "shared" n_shared []) : CalD P w K mg base 2 "is_number" n_is_number [] :=
  cal_def h sc_is_number rfl rfl rfl fun f cdv A outer s H0 E hr =>
(dss_cons (ds_if (PW.pt (dw_or (dt_not (dt_val (de_isi (T := "tuple") rfl (by rfl) H.b_isinstance (xv 1) (by rfl) H.b_tuple (by decide +kernel) (by decide +kernel)))) (dw_or (dt_cmp (op_neD hr.units) o2_ne (de_callB cl_len on_len (by rfl) H.b_len PySem.boot_len (da_cons (xv 1) da_nil)) de_int (nomark _)) (dw_or1 (dt_not (dt_val (de_callB (cr_all rfl) on_bs (by rfl) H.b_all (by decide +kernel) (da_cons (de_comp (own := [("part", 4)]) (by exact of_decide_eq_true rfl) (by exact of_decide_eq_true rfl) rfl sc_is_number.nd (di_seq rfl (xv 1)) (blkOk_by (by kernel_rfl)) (fun _ _ _ _ _ => (dg_name (i := 4) (by exact of_decide_eq_true rfl) sc_is_number.nd rfl (by first | exact Or.inl rfl | exact Or.inr rfl) (by exact of_decide_eq_true rfl))) (fun _ _ _ _ _ => dts_nil) (fun _ _ _ _ _ => (de_call c_is_whole hr (by rfl) rfl rfl rfl (dv_val false (xv 4) dv_nil)))) da_nil))))))))
  (dss_one (ds_ret de_bl))
  dss_nil)
  (dss_cons (ds_asg (sl := [2, 3]) (xv 1) (dg_tup rfl rfl (dgs_cons (dg_name (i := 2) (by exact of_decide_eq_true rfl) sc_is_number.nd rfl (by first | exact Or.inl rfl | exact Or.inr rfl) (by exact of_decide_eq_true rfl)) (dgs_cons (dg_name (i := 3) (by exact of_decide_eq_true rfl) sc_is_number.nd rfl (by first | exact Or.inl rfl | exact Or.inr rfl) (by exact of_decide_eq_true rfl)) dgs_nil))))
  (dss_cons (ds_if (dt_cmp op_gt o2_gt (xv 0) de_int (nomark _))
  (dss_one (ds_ret (de_and (de_chain op_le op_lt de_int (xv 2) (xv 0)) (de_one (de_cmp (op_eqD hr.units) o2_eq (xv 3) de_int (nomark _))))))
  dss_nil)
  (dss_one (ds_ret (de_and (de_cmp op_ge o2_ge (xv 3) de_int (nomark _)) (de_one (de_cmp (op_eqD hr.units) o2_eq (de_call c_shared hr (by rfl) rfl rfl rfl (dv_val false (xv 2) (dv_val false (xv 3) dv_nil))) de_int (nomark _)))))))))
theorem ok_lowest (H : Facts K mg) (h : Def0 K mg "lowest" s_lowest ["ground", "top", "bottom"]) (c_contrary_on : CalD P w K mg base 1 "contrary_on" n_contrary_on []) (c_shared : CalD P w K mg base 1 "shared" n_shared []) : CalD P w K mg base 2 "lowest" n_lowest [] :=
  cal_def h sc_lowest rfl rfl rfl fun f cdv A outer s H0 E hr =>
(dss_cons (ds_if (PW.pt (dw_and (dt_cmp op_gt o2_gt (xv 0) de_int (nomark _)) (dw_and1 (dt_cmp (op_eqD hr.units) o2_eq (xv 2) de_int (nomark _)))))
  (dss_one (ds_ret (de_tup (da_cons (de_op2 op_modN o2_mod (xv 1) (xv 0)) (da_cons de_int da_nil)))))
  dss_nil)
  (dss_cons (ds_if (dt_cmp op_gt o2_gt (xv 0) de_int (nomark _))
  (dss_one (ds_ret (de_tup (da_cons (de_op2 op_modN o2_mod (de_op2 or_mulA o2_mul (xv 1) (de_call c_contrary_on hr (by rfl) rfl rfl rfl (dv_val false (xv 0) (dv_val false (de_op2 op_modN o2_mod (xv 2) (xv 0)) dv_nil)))) (xv 0)) (da_cons de_int da_nil)))))
  dss_nil)
  (dss_cons (ds_set (i := 3) false sc_lowest.nd rfl (by first | exact Or.inl rfl | exact Or.inr rfl) (by exact of_decide_eq_true rfl) (de_call c_shared hr (by rfl) rfl rfl rfl (dv_val false (xv 1) (dv_val false (xv 2) dv_nil))))
  (dss_cons (ds_if (dt_cmp op_lt o2_lt (xv 2) de_int (nomark _))
  (dss_one (ds_set (i := 3) false sc_lowest.nd rfl (by first | exact Or.inl rfl | exact Or.inr rfl) (by exact of_decide_eq_true rfl) (de_op2 op_sub o2_sub de_int (xv 3))))
  dss_nil)
  (dss_one (ds_ret (de_tup (da_cons (de_op2 or_div o2_div (xv 1) (xv 3)) (da_cons (de_op2 or_div o2_div (xv 2) (xv 3)) da_nil)))))))))
theorem ok_l_mixed (H : Facts K mg) (h : Def0 K mg "_law_mixed" s_l_mixed ["_law_bag_here", "_law_row_here"]) (c_l_take : CalD P w K mg base 1 "_law_take" n_l_take []) : CalD P w K mg base 2 "_law_mixed" n_l_mixed [] :=
  cal_def h sc_l_mixed rfl rfl rfl fun f cdv A outer s H0 E hr =>
(dss_cons (ds_set (i := 2) true sc_l_mixed.nd rfl (by first | exact Or.inl rfl | exact Or.inr rfl) (by exact of_decide_eq_true rfl) (de_callTy call_list_of on_list (by rfl) H.b_list (by decide +kernel) (da_cons (xv 1) da_nil)))
  (dss_one (ds_ret (de_comp (own := [("_law_thing", 3)]) (by exact of_decide_eq_true rfl) (by exact of_decide_eq_true rfl) rfl sc_l_mixed.nd (di_seq rfl (xv 1)) (blkOk_by (by kernel_rfl)) (fun _ _ _ _ _ => (dg_name (i := 3) (by exact of_decide_eq_true rfl) sc_l_mixed.nd rfl (by first | exact Or.inl rfl | exact Or.inr rfl) (by exact of_decide_eq_true rfl))) (fun _ _ _ _ _ => dts_nil) (fun _ _ _ _ _ => (de_popAt (i := 2) rfl (by first | exact Or.inl rfl | exact Or.inr (Or.inl rfl) | exact Or.inr (Or.inr rfl)) (de_call c_l_take hr (by rfl) rfl rfl rfl (dv_ref (i := 0) rfl (by first | exact Or.inl rfl | exact Or.inr (Or.inl rfl) | exact Or.inr (Or.inr rfl)) (dv_val false (de_lenOwn (i := 2) (by rfl) H.b_len rfl rfl (by first | exact Or.inl rfl | exact Or.inr (Or.inl rfl) | exact Or.inr (Or.inr rfl))) dv_nil)))))))))
theorem ok_l_low (H : Facts K mg) (h : Def0 K mg "_law_low" s_l_low ["_law_g", "_law_up", "_law_down"]) (c_l_shared : CalD P w K mg base 1 "_law_shared" n_l_shared []) : CalD P w K mg base 2 "_law_low" n_l_low [] :=
  cal_def h sc_l_low rfl rfl rfl fun f cdv A outer s H0 E hr =>
(dss_cons (ds_if (dt_cmp op_gt o2_gt (xv 0) de_int (nomark _))
  (dss_one (ds_for (sl := [3]) PassesOwn.never rfl (di_rng1 (by rfl) H.b_range (xv 0)) (dg_name (i := 3) (by exact of_decide_eq_true rfl) sc_l_low.nd rfl (by first | exact Or.inl rfl | exact Or.inr rfl) (by exact of_decide_eq_true rfl))
  (dss_one (ds_if (dt_cmp (op_eqD hr.units) o2_eq (de_op2 op_modN o2_mod (de_op2 or_mulA o2_mul (xv 3) (xv 2)) (xv 0)) (de_op2 op_modN o2_mod (xv 1) (xv 0)) (nomark _))
  (dss_one (ds_ret (de_tup (da_cons (xv 3) (da_cons de_int da_nil)))))
  dss_nil))))
  dss_nil)
  (dss_cons (ds_set (i := 4) false sc_l_low.nd rfl (by first | exact Or.inl rfl | exact Or.inr rfl) (by exact of_decide_eq_true rfl) (de_op2 or_mulA o2_mul (de_call c_l_shared hr (by rfl) rfl rfl rfl (dv_val false (xv 1) (dv_val false (xv 2) dv_nil))) (de_ix (de_lst (da_cons de_int (da_cons (de_un un_neg o1_neg de_int) da_nil))) (de_callTy call_int1 on_int (by rfl) H.b_int (by decide +kernel) (da_cons (de_cmp op_lt o2_lt (xv 2) de_int (nomark _)) da_nil)) rfl (fun _ _ => rfl))))
  (dss_one (ds_ret (de_tup (da_cons (de_op2 or_div o2_div (xv 1) (xv 4)) (da_cons (de_op2 or_div o2_div (xv 2) (xv 4)) da_nil)))))))
theorem ok_l_ground (H : Facts K mg) (h : Def0 K mg "_law_ground" s_l_ground ["_law_bag_here"]) (c_l_take : CalD P w K mg base 1 "_law_take" n_l_take []) : CalD P w K mg base 2 "_law_ground" n_l_ground [] :=
  cal_def h sc_l_ground rfl rfl rfl fun f cdv A outer s H0 E hr =>
(dss_one (ds_ret (de_ix (de_lst (da_cons de_int (da_cons de_int (da_cons de_int (da_cons de_int (da_cons de_int (da_cons de_int (da_cons de_int (da_cons (de_ix (de_lst (da_cons de_int (da_cons de_int (da_cons de_int da_nil)))) (de_call c_l_take hr (by rfl) rfl rfl rfl (dv_ref (i := 0) rfl (by first | exact Or.inl rfl | exact Or.inr (Or.inl rfl) | exact Or.inr (Or.inr rfl)) (dv_val false de_int dv_nil))) rfl (fun _ _ => rfl)) da_nil))))))))) (de_call c_l_take hr (by rfl) rfl rfl rfl (dv_ref (i := 0) rfl (by first | exact Or.inl rfl | exact Or.inr (Or.inl rfl) | exact Or.inr (Or.inr rfl)) (dv_val false de_int dv_nil))) rfl (fun _ _ => rfl))))
theorem ok_Keeper_eq (H : Facts K mg) (h : Met0 K mg "Keeper" "__eq__" "Keeper.__eq__" s_Keeper_eq ["self", "other"]) (c_Form_eq : MetX P w K mg base 1 "Form" "__eq__" n_Form_eq []) : MetX P w K mg base 2 "Keeper" "__eq__" n_Keeper_eq [] :=
  met_def h sc_Keeper_eq rfl rfl rfl fun f cdv A outer s H0 E hr tk =>
(dss_one (ds_ret (de_and (de_isOwn H.s_Keeper rfl rfl (by rfl) H.b_isinstance (xv 1) (by rfl)) (de_and (de_eqI c_Form_eq hr rfl rfl (de_attr H.n_Keeper (by simp) rfl (xv 0)) (de_attr H.n_Keeper (by simp) rfl (xv 1)) (nomark _)) (de_one (de_cmp (op_eqD hr.units) o2_eq (de_attr H.n_Keeper (by simp) rfl (xv 0)) (de_attr H.n_Keeper (by simp) rfl (xv 1)) (nomark _)))))))
theorem ok_look_ground (H : Facts K mg) (h : Def0 K mg "look_ground" s_look_ground ["thing"]) (c_is_ground : CalD P w K mg base 2 "is_ground" n_is_ground []) : CalD P w K mg base 3 "look_ground" n_look_ground [] :=
  cal_def h sc_look_ground rfl rfl rfl fun f cdv A outer s H0 E hr =>
(dss_one (ds_if (dt_not (dt_val (de_call c_is_ground hr (by rfl) rfl rfl rfl (dv_val false (xv 0) dv_nil))))
  (dss_one ds_bad0)
  dss_nil))
theorem ok_plus (H : Facts K mg) (h : Def0 K mg "plus" s_plus ["ground", "x", "y"]) (c_lowest : CalD P w K mg base 2 "lowest" n_lowest []) : CalD P w K mg base 3 "plus" n_plus [] :=
  cal_def h sc_plus rfl rfl rfl fun f cdv A outer s H0 E hr =>
(dss_one (ds_ret (de_call c_lowest hr (by rfl) rfl rfl rfl (dv_val false (xv 0) (dv_val false (de_op2 or_add o2_add (de_op2 or_mulA o2_mul (de_ix (xv 1) de_int rfl (fun _ _ => rfl)) (de_ix (xv 2) de_int rfl (fun _ _ => rfl))) (de_op2 or_mulA o2_mul (de_ix (xv 2) de_int rfl (fun _ _ => rfl)) (de_ix (xv 1) de_int rfl (fun _ _ => rfl)))) (dv_val false (de_op2 or_mulA o2_mul (de_ix (xv 1) de_int rfl (fun _ _ => rfl)) (de_ix (xv 2) de_int rfl (fun _ _ => rfl))) dv_nil))))))
theorem ok_minus (H : Facts K mg) (h : Def0 K mg "minus" s_minus ["ground", "x"]) (c_lowest : CalD P w K mg base 2 "lowest" n_lowest []) : CalD P w K mg base 3 "minus" n_minus [] :=
  cal_def h sc_minus rfl rfl rfl fun f cdv A outer s H0 E hr =>
(dss_one (ds_ret (de_call c_lowest hr (by rfl) rfl rfl rfl (dv_val false (xv 0) (dv_val false (de_op2 op_sub o2_sub de_int (de_ix (xv 1) de_int rfl (fun _ _ => rfl))) (dv_val false (de_ix (xv 1) de_int rfl (fun _ _ => rfl)) dv_nil))))))
theorem ok_times (H : Facts K mg) (h : Def0 K mg "times" s_times ["ground", "x", "y"]) (c_lowest : CalD P w K mg base 2 "lowest" n_lowest []) : CalD P w K mg base 3 "times" n_times [] :=
  cal_def h sc_times rfl rfl rfl fun f cdv A outer s H0 E hr =>
(dss_one (ds_ret (de_call c_lowest hr (by rfl) rfl rfl rfl (dv_val false (xv 0) (dv_val false (de_op2 or_mulA o2_mul (de_ix (xv 1) de_int rfl (fun _ _ => rfl)) (de_ix (xv 2) de_int rfl (fun _ _ => rfl))) (dv_val false (de_op2 or_mulA o2_mul (de_ix (xv 1) de_int rfl (fun _ _ => rfl)) (de_ix (xv 2) de_int rfl (fun _ _ => rfl))) dv_nil))))))
theorem ok_over (H : Facts K mg) (h : Def0 K mg "over" s_over ["ground", "x", "y"]) (c_lowest : CalD P w K mg base 2 "lowest" n_lowest []) : CalD P w K mg base 3 "over" n_over [] :=
  cal_def h sc_over rfl rfl rfl fun f cdv A outer s H0 E hr =>
(dss_cons (ds_if (dt_cmp (op_eqD hr.units) o2_eq (xv 2) (de_globC H.g_NOUGHT (by rfl) rfl rfl) (nomark _))
  (dss_one ds_bad0)
  dss_nil)
  (dss_one (ds_ret (de_call c_lowest hr (by rfl) rfl rfl rfl (dv_val false (xv 0) (dv_val false (de_op2 or_mulA o2_mul (de_ix (xv 1) de_int rfl (fun _ _ => rfl)) (de_ix (xv 2) de_int rfl (fun _ _ => rfl))) (dv_val false (de_op2 or_mulA o2_mul (de_ix (xv 1) de_int rfl (fun _ _ => rfl)) (de_ix (xv 2) de_int rfl (fun _ _ => rfl))) dv_nil)))))))
theorem ok_is_row (H : Facts K mg) (h : Def0 K mg "is_row" s_is_row ["ground", "thing", "many"]) (c_is_number : CalD P w K mg base 2 "is_number" n_is_number []) : CalD P w K mg base 3 "is_row" n_is_row [] :=
  cal_def h sc_is_row rfl rfl rfl fun f cdv A outer s H0 E hr =>
(dss_one (ds_ret (de_and (de_isi (T := "tuple") rfl (by rfl) H.b_isinstance (xv 1) (by rfl) H.b_tuple (by decide +kernel) (by decide +kernel)) (de_and (de_cmp (op_eqD hr.units) o2_eq (de_callB cl_len on_len (by rfl) H.b_len PySem.boot_len (da_cons (xv 1) da_nil)) (xv 2) (nomark _)) (de_one (de_callB (cr_all rfl) on_bs (by rfl) H.b_all (by decide +kernel) (da_cons (de_comp (own := [("one", 3)]) (by exact of_decide_eq_true rfl) (by exact of_decide_eq_true rfl) rfl sc_is_row.nd (di_seq rfl (xv 1)) (blkOk_by (by kernel_rfl)) (fun _ _ _ _ _ => (dg_name (i := 3) (by exact of_decide_eq_true rfl) sc_is_row.nd rfl (by first | exact Or.inl rfl | exact Or.inr rfl) (by exact of_decide_eq_true rfl))) (fun _ _ _ _ _ => dts_nil) (fun _ _ _ _ _ => (de_call c_is_number hr (by rfl) rfl rfl rfl (dv_val false (xv 0) (dv_val false (xv 3) dv_nil))))) da_nil)))))))
theorem ok_l_plus (H : Facts K mg) (h : Def0 K mg "_law_plus" s_l_plus ["_law_g", "_law_x", "_law_y"]) (c_l_low : CalD P w K mg base 2 "_law_low" n_l_low []) : CalD P w K mg base 3 "_law_plus" n_l_plus [] :=
  cal_def h sc_l_plus rfl rfl rfl fun f cdv A outer s H0 E hr =>
(dss_one (ds_ret (de_call c_l_low hr (by rfl) rfl rfl rfl (dv_val false (xv 0) (dv_val false (de_op2 or_add o2_add (de_op2 or_mulA o2_mul (de_ix (xv 1) de_int rfl (fun _ _ => rfl)) (de_ix (xv 2) de_int rfl (fun _ _ => rfl))) (de_op2 or_mulA o2_mul (de_ix (xv 2) de_int rfl (fun _ _ => rfl)) (de_ix (xv 1) de_int rfl (fun _ _ => rfl)))) (dv_val false (de_op2 or_mulA o2_mul (de_ix (xv 1) de_int rfl (fun _ _ => rfl)) (de_ix (xv 2) de_int rfl (fun _ _ => rfl))) dv_nil))))))
theorem ok_l_times (H : Facts K mg) (h : Def0 K mg "_law_times" s_l_times ["_law_g", "_law_x", "_law_y"]) (c_l_low : CalD P w K mg base 2 "_law_low" n_l_low []) : CalD P w K mg base 3 "_law_times" n_l_times [] :=
  cal_def h sc_l_times rfl rfl rfl fun f cdv A outer s H0 E hr =>
(dss_one (ds_ret (de_call c_l_low hr (by rfl) rfl rfl rfl (dv_val false (xv 0) (dv_val false (de_op2 or_mulA o2_mul (de_ix (xv 1) de_int rfl (fun _ _ => rfl)) (de_ix (xv 2) de_int rfl (fun _ _ => rfl))) (dv_val false (de_op2 or_mulA o2_mul (de_ix (xv 1) de_int rfl (fun _ _ => rfl)) (de_ix (xv 2) de_int rfl (fun _ _ => rfl))) dv_nil))))))
theorem ok_l_minus (H : Facts K mg) (h : Def0 K mg "_law_minus" s_l_minus ["_law_g", "_law_x"]) (c_l_low : CalD P w K mg base 2 "_law_low" n_l_low []) : CalD P w K mg base 3 "_law_minus" n_l_minus [] :=
  cal_def h sc_l_minus rfl rfl rfl fun f cdv A outer s H0 E hr =>
(dss_one (ds_ret (de_call c_l_low hr (by rfl) rfl rfl rfl (dv_val false (xv 0) (dv_val false (de_op2 op_sub o2_sub de_int (de_ix (xv 1) de_int rfl (fun _ _ => rfl))) (dv_val false (de_ix (xv 1) de_int rfl (fun _ _ => rfl)) dv_nil))))))
theorem ok_l_over (H : Facts K mg) (h : Def0 K mg "_law_over" s_l_over ["_law_g", "_law_x", "_law_y"]) (c_l_low : CalD P w K mg base 2 "_law_low" n_l_low []) : CalD P w K mg base 3 "_law_over" n_l_over [] :=
  cal_def h sc_l_over rfl rfl rfl fun f cdv A outer s H0 E hr =>
(dss_one (ds_ret (de_call c_l_low hr (by rfl) rfl rfl rfl (dv_val false (xv 0) (dv_val false (de_op2 or_mulA o2_mul (de_ix (xv 1) de_int rfl (fun _ _ => rfl)) (de_ix (xv 2) de_int rfl (fun _ _ => rfl))) (dv_val false (de_op2 or_mulA o2_mul (de_ix (xv 1) de_int rfl (fun _ _ => rfl)) (de_ix (xv 2) de_int rfl (fun _ _ => rfl))) dv_nil))))))
theorem ok_l_number (H : Facts K mg) (h : Def0 K mg "_law_number" s_l_number ["_law_bag_here", "_law_g"]) (c_l_low : CalD P w K mg base 2 "_law_low" n_l_low []) (c_l_take : CalD P w K mg base 1 "_law_take" n_l_take []) : CalD P w K mg base 3 "_law_number" n_l_number [] :=
  cal_def h sc_l_number rfl rfl rfl fun f cdv A outer s H0 E hr =>
(dss_cons (ds_if (dt_cmp op_gt o2_gt (xv 1) de_int (nomark _))
  (dss_one (ds_ret (de_tup (da_cons (de_call (c_l_take.mono (by exact of_decide_eq_true rfl)) hr (by rfl) rfl rfl rfl (dv_ref (i := 0) rfl (by first | exact Or.inl rfl | exact Or.inr (Or.inl rfl) | exact Or.inr (Or.inr rfl)) (dv_val false (xv 1) dv_nil))) (da_cons de_int da_nil)))))
  dss_nil)
  (dss_cons (ds_set (i := 2) false sc_l_number.nd rfl (by first | exact Or.inl rfl | exact Or.inr rfl) (by exact of_decide_eq_true rfl) (de_ix (de_lst (da_cons de_int (da_cons de_int (da_cons de_int (da_cons de_int (da_cons de_int (da_cons de_int da_nil))))))) (de_call (c_l_take.mono (by exact of_decide_eq_true rfl)) hr (by rfl) rfl rfl rfl (dv_ref (i := 0) rfl (by first | exact Or.inl rfl | exact Or.inr (Or.inl rfl) | exact Or.inr (Or.inr rfl)) (dv_val false de_int dv_nil))) rfl (fun _ _ => rfl)))
  (dss_cons (ds_set (i := 3) false sc_l_number.nd rfl (by first | exact Or.inl rfl | exact Or.inr rfl) (by exact of_decide_eq_true rfl) (de_ix (de_lst (da_cons de_int (da_cons de_int (da_cons de_int (da_cons (de_op2 or_add o2_add de_int (de_call (c_l_take.mono (by exact of_decide_eq_true rfl)) hr (by rfl) rfl rfl rfl (dv_ref (i := 0) rfl (by first | exact Or.inl rfl | exact Or.inr (Or.inl rfl) | exact Or.inr (Or.inr rfl)) (dv_val false de_int dv_nil)))) da_nil))))) (de_call (c_l_take.mono (by exact of_decide_eq_true rfl)) hr (by rfl) rfl rfl rfl (dv_ref (i := 0) rfl (by first | exact Or.inl rfl | exact Or.inr (Or.inl rfl) | exact Or.inr (Or.inr rfl)) (dv_val false de_int dv_nil))) rfl (fun _ _ => rfl)))
  (dss_one (ds_ret (de_call c_l_low hr (by rfl) rfl rfl rfl (dv_val false de_int (dv_val false (de_op2 op_sub o2_sub (de_call (c_l_take.mono (by exact of_decide_eq_true rfl)) hr (by rfl) rfl rfl rfl (dv_ref (i := 0) rfl (by first | exact Or.inl rfl | exact Or.inr (Or.inl rfl) | exact Or.inr (Or.inr rfl)) (dv_val false (xv 2) dv_nil))) (de_op2 or_div o2_div (xv 2) de_int)) (dv_val false (xv 3) dv_nil)))))))))
theorem ok_less (H : Facts K mg) (h : Def0 K mg "less" s_less ["ground", "x", "y"]) (c_minus : CalD P w K mg base 3 "minus" n_minus []) (c_plus : CalD P w K mg base 3 "plus" n_plus []) : CalD P w K mg base 4 "less" n_less [] :=
  cal_def h sc_less rfl rfl rfl fun f cdv A outer s H0 E hr =>
(dss_one (ds_ret (de_call c_plus hr (by rfl) rfl rfl rfl (dv_val false (xv 0) (dv_val false (xv 1) (dv_val false (de_call c_minus hr (by rfl) rfl rfl rfl (dv_val false (xv 0) (dv_val false (xv 2) dv_nil))) dv_nil))))))
theorem ok_is_table (H : Facts K mg) (h : Def0 K mg "is_table" s_is_table ["ground", "thing", "high", "wide"]) (c_is_row : CalD P w K mg base 3 "is_row" n_is_row []) : CalD P w K mg base 4 "is_table" n_is_table [] :=
  cal_def h sc_is_table rfl rfl rfl fun f cdv A outer s H0 E hr =>
(dss_one (ds_ret (de_and (de_isi (T := "tuple") rfl (by rfl) H.b_isinstance (xv 1) (by rfl) H.b_tuple (by decide +kernel) (by decide +kernel)) (de_and (de_cmp (op_eqD hr.units) o2_eq (de_callB cl_len on_len (by rfl) H.b_len PySem.boot_len (da_cons (xv 1) da_nil)) (xv 2) (nomark _)) (de_one (de_callB (cr_all rfl) on_bs (by rfl) H.b_all (by decide +kernel) (da_cons (de_comp (own := [("row", 4)]) (by exact of_decide_eq_true rfl) (by exact of_decide_eq_true rfl) rfl sc_is_table.nd (di_seq rfl (xv 1)) (blkOk_by (by kernel_rfl)) (fun _ _ _ _ _ => (dg_name (i := 4) (by exact of_decide_eq_true rfl) sc_is_table.nd rfl (by first | exact Or.inl rfl | exact Or.inr rfl) (by exact of_decide_eq_true rfl))) (fun _ _ _ _ _ => dts_nil) (fun _ _ _ _ _ => (de_call c_is_row hr (by rfl) rfl rfl rfl (dv_val false (xv 0) (dv_val false (xv 4) (dv_val false (xv 3) dv_nil)))))) da_nil)))))))
theorem ok_scaled (H : Facts K mg) (h : Def0 K mg "scaled" s_scaled ["ground", "row", "x"]) (c_times : CalD P w K mg base 3 "times" n_times []) : CalD P w K mg base 4 "scaled" n_scaled [] :=
  cal_def h sc_scaled rfl rfl rfl fun f cdv A outer s H0 E hr =>
(dss_one (ds_ret (de_callTy call_tuple_of on_tuple (by rfl) H.b_tuple (by decide +kernel) (da_cons (de_comp (own := [("one", 3)]) (by exact of_decide_eq_true rfl) (by exact of_decide_eq_true rfl) rfl sc_scaled.nd (di_seq rfl (xv 1)) (blkOk_by (by kernel_rfl)) (fun _ _ _ _ _ => (dg_name (i := 3) (by exact of_decide_eq_true rfl) sc_scaled.nd rfl (by first | exact Or.inl rfl | exact Or.inr rfl) (by exact of_decide_eq_true rfl))) (fun _ _ _ _ _ => dts_nil) (fun _ _ _ _ _ => (de_call c_times hr (by rfl) rfl rfl rfl (dv_val false (xv 0) (dv_val false (xv 3) (dv_val false (xv 2) dv_nil)))))) da_nil))))
theorem ok_added (H : Facts K mg) (h : Def0 K mg "added" s_added ["ground", "row", "other"]) (c_plus : CalD P w K mg base 3 "plus" n_plus []) : CalD P w K mg base 4 "added" n_added [] :=
  cal_def h sc_added rfl rfl rfl fun f cdv A outer s H0 E hr =>
(dss_one (ds_ret (de_callTy call_tuple_of on_tuple (by rfl) H.b_tuple (by decide +kernel) (da_cons (de_comp (own := [("one", 3), ("two", 4)]) (by exact of_decide_eq_true rfl) (by exact of_decide_eq_true rfl) rfl sc_added.nd (di_zipS rfl (by rfl) H.b_zip (xv 1) (xv 2)) (blkOk_by (by kernel_rfl)) (fun _ _ _ _ _ => (dg_tup rfl rfl (dgs_cons (dg_name (i := 3) (by exact of_decide_eq_true rfl) sc_added.nd rfl (by first | exact Or.inl rfl | exact Or.inr rfl) (by exact of_decide_eq_true rfl)) (dgs_cons (dg_name (i := 4) (by exact of_decide_eq_true rfl) sc_added.nd rfl (by first | exact Or.inl rfl | exact Or.inr rfl) (by exact of_decide_eq_true rfl)) dgs_nil)))) (fun _ _ _ _ _ => dts_nil) (fun _ _ _ _ _ => (de_call c_plus hr (by rfl) rfl rfl rfl (dv_val false (xv 0) (dv_val false (xv 3) (dv_val false (xv 4) dv_nil)))))) da_nil))))
theorem ok_look_row (H : Facts K mg) (h : Def0 K mg "look_row" s_look_row ["form", "thing"]) (c_is_row : CalD P w K mg base 3 "is_row" n_is_row []) : CalD P w K mg base 4 "look_row" n_look_row [] :=
  cal_def h sc_look_row rfl rfl rfl fun f cdv A outer s H0 E hr =>
(dss_one (ds_if (dt_not (dt_val (de_call c_is_row hr (by rfl) rfl rfl rfl (dv_val false (de_attr H.n_Form (by simp) rfl (xv 0)) (dv_val false (xv 1) (dv_val false (de_callB cl_len on_len (by rfl) H.b_len PySem.boot_len (da_cons (de_attr H.n_Form (by simp) rfl (xv 0)) da_nil)) dv_nil))))))
  (dss_one ds_bad0)
  dss_nil))
theorem ok_norm_of (H : Facts K mg) (h : Def0 K mg "norm_of" s_norm_of ["ground", "four"]) (c_plus : CalD P w K mg base 3 "plus" n_plus []) (c_times : CalD P w K mg base 3 "times" n_times []) : CalD P w K mg base 4 "norm_of" n_norm_of [] :=
  cal_def h sc_norm_of rfl rfl rfl fun f cdv A outer s H0 E hr =>
(dss_cons (ds_set (i := 2) false sc_norm_of.nd rfl (by first | exact Or.inl rfl | exact Or.inr rfl) (by exact of_decide_eq_true rfl) (de_globC H.g_NOUGHT (by rfl) rfl rfl))
  (dss_cons (ds_for (sl := [3]) PassesOwn.never rfl (di_seq rfl (xv 1)) (dg_name (i := 3) (by exact of_decide_eq_true rfl) sc_norm_of.nd rfl (by first | exact Or.inl rfl | exact Or.inr rfl) (by exact of_decide_eq_true rfl))
  (dss_one (ds_set (i := 2) false sc_norm_of.nd rfl (by first | exact Or.inl rfl | exact Or.inr rfl) (by exact of_decide_eq_true rfl) (de_call c_plus hr (by rfl) rfl rfl rfl (dv_val false (xv 0) (dv_val false (xv 2) (dv_val false (de_call c_times hr (by rfl) rfl rfl rfl (dv_val false (xv 0) (dv_val false (xv 3) (dv_val false (xv 3) dv_nil)))) dv_nil)))))))
  (dss_one (ds_ret (xv 2)))))
theorem ok_l_sum (H : Facts K mg) (h : Def0 K mg "_law_sum" s_l_sum ["_law_g", "_law_some"]) (c_l_plus : CalD P w K mg base 3 "_law_plus" n_l_plus []) : CalD P w K mg base 4 "_law_sum" n_l_sum [] :=
  cal_def h sc_l_sum rfl rfl rfl fun f cdv A outer s H0 E hr =>
(dss_cons (ds_set (i := 2) false sc_l_sum.nd rfl (by first | exact Or.inl rfl | exact Or.inr rfl) (by exact of_decide_eq_true rfl) (de_tup (da_cons de_int (da_cons de_int da_nil))))
  (dss_cons (ds_for (sl := [3]) PassesOwn.never rfl (di_seq rfl (xv 1)) (dg_name (i := 3) (by exact of_decide_eq_true rfl) sc_l_sum.nd rfl (by first | exact Or.inl rfl | exact Or.inr rfl) (by exact of_decide_eq_true rfl))
  (dss_one (ds_set (i := 2) false sc_l_sum.nd rfl (by first | exact Or.inl rfl | exact Or.inr rfl) (by exact of_decide_eq_true rfl) (de_call c_l_plus hr (by rfl) rfl rfl rfl (dv_val false (xv 0) (dv_val false (xv 2) (dv_val false (xv 3) dv_nil)))))))
  (dss_one (ds_ret (xv 2)))))
theorem ok_l_scaled (H : Facts K mg) (h : Def0 K mg "_law_scaled" s_l_scaled ["_law_g", "_law_row_here", "_law_x"]) (c_l_times : CalD P w K mg base 3 "_law_times" n_l_times []) : CalD P w K mg base 4 "_law_scaled" n_l_scaled [] :=
  cal_def h sc_l_scaled rfl rfl rfl fun f cdv A outer s H0 E hr =>
(dss_one (ds_ret (de_callTy call_tuple_of on_tuple (by rfl) H.b_tuple (by decide +kernel) (da_cons (de_comp (own := [("_law_one", 3)]) (by exact of_decide_eq_true rfl) (by exact of_decide_eq_true rfl) rfl sc_l_scaled.nd (di_seq rfl (xv 1)) (blkOk_by (by kernel_rfl)) (fun _ _ _ _ _ => (dg_name (i := 3) (by exact of_decide_eq_true rfl) sc_l_scaled.nd rfl (by first | exact Or.inl rfl | exact Or.inr rfl) (by exact of_decide_eq_true rfl))) (fun _ _ _ _ _ => dts_nil) (fun _ _ _ _ _ => (de_call c_l_times hr (by rfl) rfl rfl rfl (dv_val false (xv 0) (dv_val false (xv 3) (dv_val false (xv 2) dv_nil)))))) da_nil))))
theorem ok_l_row (H : Facts K mg) (h : Def0 K mg "_law_row" s_l_row ["_law_bag_here", "_law_g", "_law_many"]) (c_l_number : CalD P w K mg base 3 "_law_number" n_l_number []) : CalD P w K mg base 4 "_law_row" n_l_row [] :=
  cal_def h sc_l_row rfl rfl rfl fun f cdv A outer s H0 E hr =>
(dss_one (ds_ret (de_callTy call_tuple_of on_tuple (by rfl) H.b_tuple (by decide +kernel) (da_cons (de_comp (own := [("_law_k", 3)]) (by exact of_decide_eq_true rfl) (by exact of_decide_eq_true rfl) rfl sc_l_row.nd (di_rng1 (by rfl) H.b_range (xv 2)) (blkOk_by (by kernel_rfl)) (fun _ _ _ _ _ => (dg_name (i := 3) (by exact of_decide_eq_true rfl) sc_l_row.nd rfl (by first | exact Or.inl rfl | exact Or.inr rfl) (by exact of_decide_eq_true rfl))) (fun _ _ _ _ _ => dts_nil) (fun _ _ _ _ _ => (de_call c_l_number hr (by rfl) rfl rfl rfl (dv_ref (i := 0) rfl (by first | exact Or.inl rfl | exact Or.inr (Or.inl rfl) | exact Or.inr (Or.inr rfl)) (dv_val false (xv 1) dv_nil))))) da_nil))))
theorem ok_l_turned_four (H : Facts K mg) (h : Def0 K mg "_law_turned_four" s_l_turned_four ["_law_g", "_law_four_here"]) (c_l_minus : CalD P w K mg base 3 "_law_minus" n_l_minus []) : CalD P w K mg base 4 "_law_turned_four" n_l_turned_four [] :=
  cal_def h sc_l_turned_four rfl rfl rfl fun f cdv A outer s H0 E hr =>
(dss_one (ds_ret (de_op2 or_add o2_add (de_slice rfl (xv 1) do_none (do_some de_int)) (de_callTy call_tuple_of on_tuple (by rfl) H.b_tuple (by decide +kernel) (da_cons (de_comp (own := [("_law_x", 2)]) (by exact of_decide_eq_true rfl) (by exact of_decide_eq_true rfl) rfl sc_l_turned_four.nd (di_seq rfl (de_slice rfl (xv 1) (do_some de_int) do_none)) (blkOk_by (by kernel_rfl)) (fun _ _ _ _ _ => (dg_name (i := 2) (by exact of_decide_eq_true rfl) sc_l_turned_four.nd rfl (by first | exact Or.inl rfl | exact Or.inr rfl) (by exact of_decide_eq_true rfl))) (fun _ _ _ _ _ => dts_nil) (fun _ _ _ _ _ => (de_call c_l_minus hr (by rfl) rfl rfl rfl (dv_val false (xv 0) (dv_val false (xv 2) dv_nil))))) da_nil)))))
theorem ok_taken_off (H : Facts K mg) (h : Def0 K mg "taken_off" s_taken_off ["ground", "row", "other", "x"]) (c_added : CalD P w K mg base 4 "added" n_added []) (c_minus : CalD P w K mg base 3 "minus" n_minus []) (c_scaled : CalD P w K mg base 4 "scaled" n_scaled []) : CalD P w K mg base 5 "taken_off" n_taken_off [] :=
  cal_def h sc_taken_off rfl rfl rfl fun f cdv A outer s H0 E hr =>
(dss_one (ds_ret (de_call c_added hr (by rfl) rfl rfl rfl (dv_val false (xv 0) (dv_val false (xv 1) (dv_val false (de_call c_scaled hr (by rfl) rfl rfl rfl (dv_val false (xv 0) (dv_val false (xv 2) (dv_val false (de_call (c_minus.mono (by exact of_decide_eq_true rfl)) hr (by rfl) rfl rfl rfl (dv_val false (xv 0) (dv_val false (xv 3) dv_nil))) dv_nil)))) dv_nil))))))
theorem ok_through (H : Facts K mg) (h : Def0 K mg "through" s_through ["ground", "row", "table"]) (c_added : CalD P w K mg base 4 "added" n_added []) (c_scaled : CalD P w K mg base 4 "scaled" n_scaled []) : CalD P w K mg base 5 "through" n_through [] :=
  cal_def h sc_through rfl rfl rfl fun f cdv A outer s H0 E hr =>
(dss_cons (ds_set (i := 3) false sc_through.nd rfl (by first | exact Or.inl rfl | exact Or.inr rfl) (by exact of_decide_eq_true rfl) (de_callTy call_tuple_of on_tuple (by rfl) H.b_tuple (by decide +kernel) (da_cons (de_op2 or_mulA o2_mul (de_lst (da_cons (de_globC H.g_NOUGHT (by rfl) rfl rfl) da_nil)) (de_callB cl_len on_len (by rfl) H.b_len PySem.boot_len (da_cons (de_ix (xv 2) de_int rfl (fun _ _ => rfl)) da_nil))) da_nil)))
  (dss_cons (ds_for (sl := [4, 5]) PassesOwn.never rfl (di_zipS rfl (by rfl) H.b_zip (xv 1) (xv 2)) (dg_tup rfl rfl (dgs_cons (dg_name (i := 4) (by exact of_decide_eq_true rfl) sc_through.nd rfl (by first | exact Or.inl rfl | exact Or.inr rfl) (by exact of_decide_eq_true rfl)) (dgs_cons (dg_name (i := 5) (by exact of_decide_eq_true rfl) sc_through.nd rfl (by first | exact Or.inl rfl | exact Or.inr rfl) (by exact of_decide_eq_true rfl)) dgs_nil)))
  (dss_one (ds_if (dt_cmp (op_neD hr.units) o2_ne (xv 4) (de_globC H.g_NOUGHT (by rfl) rfl rfl) (nomark _))
  (dss_one (ds_set (i := 3) false sc_through.nd rfl (by first | exact Or.inl rfl | exact Or.inr rfl) (by exact of_decide_eq_true rfl) (de_call c_added hr (by rfl) rfl rfl rfl (dv_val false (xv 0) (dv_val false (xv 3) (dv_val false (de_call c_scaled hr (by rfl) rfl rfl rfl (dv_val false (xv 0) (dv_val false (xv 5) (dv_val false (xv 4) dv_nil)))) dv_nil))))))
  dss_nil)))
  (dss_one (ds_ret (xv 3)))))
theorem ok_four_times (H : Facts K mg) (h : Def0 K mg "four_times" s_four_times ["ground", "one", "other"]) (c_less : CalD P w K mg base 4 "less" n_less []) (c_plus : CalD P w K mg base 3 "plus" n_plus []) (c_times : CalD P w K mg base 3 "times" n_times []) : CalD P w K mg base 5 "four_times" n_four_times [] :=
  cal_def h sc_four_times rfl rfl rfl fun f cdv A outer s H0 E hr =>
(dss_cons (ds_set (i := 3) true sc_four_times.nd rfl (by first | exact Or.inl rfl | exact Or.inr rfl) (by exact of_decide_eq_true rfl) (de_op2 or_mulA o2_mul (de_lst (da_cons (de_globC H.g_NOUGHT (by rfl) rfl rfl) da_nil)) (de_globC H.g_PARTS (by rfl) rfl rfl)))
  (dss_cons (ds_for (sl := [4, 5]) PassesOwn.never rfl (di_zip rfl (by rfl) H.b_zip (de_globC H.g_PRODUCTS (by rfl) rfl rfl) (xv 1)) (dg_tup rfl rfl (dgs_cons (dg_name (i := 4) (by exact of_decide_eq_true rfl) sc_four_times.nd rfl (by first | exact Or.inl rfl | exact Or.inr rfl) (by exact of_decide_eq_true rfl)) (dgs_cons (dg_name (i := 5) (by exact of_decide_eq_true rfl) sc_four_times.nd rfl (by first | exact Or.inl rfl | exact Or.inr rfl) (by exact of_decide_eq_true rfl)) dgs_nil)))
  (dss_one (ds_for (sl := [6, 7, 8]) PassesOwn.never rfl (di_zip rfl (by rfl) H.b_zip (xv 4) (xv 2)) (dg_tup rfl rfl (dgs_cons (dg_tup rfl rfl (dgs_cons (dg_name (i := 6) (by exact of_decide_eq_true rfl) sc_four_times.nd rfl (by first | exact Or.inl rfl | exact Or.inr rfl) (by exact of_decide_eq_true rfl)) (dgs_cons (dg_name (i := 7) (by exact of_decide_eq_true rfl) sc_four_times.nd rfl (by first | exact Or.inl rfl | exact Or.inr rfl) (by exact of_decide_eq_true rfl)) dgs_nil))) (dgs_cons (dg_name (i := 8) (by exact of_decide_eq_true rfl) sc_four_times.nd rfl (by first | exact Or.inl rfl | exact Or.inr rfl) (by exact of_decide_eq_true rfl)) dgs_nil)))
  (dss_cons (ds_set (i := 9) false sc_four_times.nd rfl (by first | exact Or.inl rfl | exact Or.inr rfl) (by exact of_decide_eq_true rfl) (de_call (c_times.mono (by exact of_decide_eq_true rfl)) hr (by rfl) rfl rfl rfl (dv_val false (xv 0) (dv_val false (xv 5) (dv_val false (xv 8) dv_nil)))))
  (dss_one (ds_setitem (i := 3) false rfl (by first | exact Or.inl rfl | exact Or.inr (Or.inl rfl) | exact Or.inr (Or.inr rfl)) (de_if (dt_cmp op_gt o2_gt (xv 7) de_int (nomark _)) (de_call (c_plus.mono (by exact of_decide_eq_true rfl)) hr (by rfl) rfl rfl rfl (dv_val false (xv 0) (dv_val false (de_ixOwn (i := 3) rfl rfl (by first | exact Or.inl rfl | exact Or.inr (Or.inl rfl) | exact Or.inr (Or.inr rfl)) (xv 6) (fun _ _ => rfl)) (dv_val false (xv 9) dv_nil)))) (de_call c_less hr (by rfl) rfl rfl rfl (dv_val false (xv 0) (dv_val false (de_ixOwn (i := 3) rfl rfl (by first | exact Or.inl rfl | exact Or.inr (Or.inl rfl) | exact Or.inr (Or.inr rfl)) (xv 6) (fun _ _ => rfl)) (dv_val false (xv 9) dv_nil))))) (xv 6)))))))
  (dss_one (ds_frz 3 (by exact of_decide_eq_true rfl) (ds_ret (de_callTy call_tuple_of on_tuple (by rfl) H.b_tuple (by decide +kernel) (da_cons (xv 3) da_nil)))))))
theorem ok_look_four (H : Facts K mg) (h : Def0 K mg "look_four" s_look_four ["ground", "thing"]) (c_is_row : CalD P w K mg base 3 "is_row" n_is_row []) (c_norm_of : CalD P w K mg base 4 "norm_of" n_norm_of []) : CalD P w K mg base 5 "look_four" n_look_four [] :=
  cal_def h sc_look_four rfl rfl rfl fun f cdv A outer s H0 E hr =>
(dss_one (ds_if (PW.pt (dw_or (dt_not (dt_val (de_call (c_is_row.mono (by exact of_decide_eq_true rfl)) hr (by rfl) rfl rfl rfl (dv_val false (xv 0) (dv_val false (xv 1) (dv_val false (de_globC H.g_PARTS (by rfl) rfl rfl) dv_nil)))))) (dw_or1 (dt_cmp (op_eqD hr.units) o2_eq (de_call c_norm_of hr (by rfl) rfl rfl rfl (dv_val false (xv 0) (dv_val false (xv 1) dv_nil))) (de_globC H.g_NOUGHT (by rfl) rfl rfl) (nomark _)))))
  (dss_one ds_bad0)
  dss_nil))
theorem ok_l_norm (H : Facts K mg) (h : Def0 K mg "_law_norm" s_l_norm ["_law_g", "_law_four_here"]) (c_l_sum : CalD P w K mg base 4 "_law_sum" n_l_sum []) (c_l_times : CalD P w K mg base 3 "_law_times" n_l_times []) : CalD P w K mg base 5 "_law_norm" n_l_norm [] :=
  cal_def h sc_l_norm rfl rfl rfl fun f cdv A outer s H0 E hr =>
(dss_one (ds_ret (de_call c_l_sum hr (by rfl) rfl rfl rfl (dv_val false (xv 0) (dv_val false (de_comp (own := [("_law_x", 2)]) (by exact of_decide_eq_true rfl) (by exact of_decide_eq_true rfl) rfl sc_l_norm.nd (di_seq rfl (xv 1)) (blkOk_by (by kernel_rfl)) (fun _ _ _ _ _ => (dg_name (i := 2) (by exact of_decide_eq_true rfl) sc_l_norm.nd rfl (by first | exact Or.inl rfl | exact Or.inr rfl) (by exact of_decide_eq_true rfl))) (fun _ _ _ _ _ => dts_nil) (fun _ _ _ _ _ => (de_call (c_l_times.mono (by exact of_decide_eq_true rfl)) hr (by rfl) rfl rfl rfl (dv_val false (xv 0) (dv_val false (xv 2) (dv_val false (xv 2) dv_nil)))))) dv_nil)))))
theorem ok_l_four_times (H : Facts K mg) (h : Def0 K mg "_law_four_times" s_l_four_times ["_law_g", "_law_one", "_law_two"]) (c_l_low : CalD P w K mg base 2 "_law_low" n_l_low []) (c_l_sum : CalD P w K mg base 4 "_law_sum" n_l_sum []) (c_l_times : CalD P w K mg base 3 "_law_times" n_l_times []) : CalD P w K mg base 5 "_law_four_times" n_l_four_times [] :=
  cal_def h sc_l_four_times rfl rfl rfl fun f cdv A outer s H0 E hr =>
(dss_cons (ds_asg (sl := [3, 4, 5, 6]) (xv 1) (dg_tup rfl rfl (dgs_cons (dg_name (i := 3) (by exact of_decide_eq_true rfl) sc_l_four_times.nd rfl (by first | exact Or.inl rfl | exact Or.inr rfl) (by exact of_decide_eq_true rfl)) (dgs_cons (dg_name (i := 4) (by exact of_decide_eq_true rfl) sc_l_four_times.nd rfl (by first | exact Or.inl rfl | exact Or.inr rfl) (by exact of_decide_eq_true rfl)) (dgs_cons (dg_name (i := 5) (by exact of_decide_eq_true rfl) sc_l_four_times.nd rfl (by first | exact Or.inl rfl | exact Or.inr rfl) (by exact of_decide_eq_true rfl)) (dgs_cons (dg_name (i := 6) (by exact of_decide_eq_true rfl) sc_l_four_times.nd rfl (by first | exact Or.inl rfl | exact Or.inr rfl) (by exact of_decide_eq_true rfl)) dgs_nil))))))
  (dss_cons (ds_asg (sl := [7, 8, 9, 10]) (xv 2) (dg_tup rfl rfl (dgs_cons (dg_name (i := 7) (by exact of_decide_eq_true rfl) sc_l_four_times.nd rfl (by first | exact Or.inl rfl | exact Or.inr rfl) (by exact of_decide_eq_true rfl)) (dgs_cons (dg_name (i := 8) (by exact of_decide_eq_true rfl) sc_l_four_times.nd rfl (by first | exact Or.inl rfl | exact Or.inr rfl) (by exact of_decide_eq_true rfl)) (dgs_cons (dg_name (i := 9) (by exact of_decide_eq_true rfl) sc_l_four_times.nd rfl (by first | exact Or.inl rfl | exact Or.inr rfl) (by exact of_decide_eq_true rfl)) (dgs_cons (dg_name (i := 10) (by exact of_decide_eq_true rfl) sc_l_four_times.nd rfl (by first | exact Or.inl rfl | exact Or.inr rfl) (by exact of_decide_eq_true rfl)) dgs_nil))))))
  (dss_cons (ds_set (i := 11) false sc_l_four_times.nd rfl (by first | exact Or.inl rfl | exact Or.inr rfl) (by exact of_decide_eq_true rfl) (de_lst (da_cons (de_lst (da_cons (de_tup (da_cons (xv 3) (da_cons (xv 7) (da_cons de_int da_nil)))) (da_cons (de_tup (da_cons (xv 4) (da_cons (xv 8) (da_cons (de_un un_neg o1_neg de_int) da_nil)))) (da_cons (de_tup (da_cons (xv 5) (da_cons (xv 9) (da_cons (de_un un_neg o1_neg de_int) da_nil)))) (da_cons (de_tup (da_cons (xv 6) (da_cons (xv 10) (da_cons (de_un un_neg o1_neg de_int) da_nil)))) da_nil))))) (da_cons (de_lst (da_cons (de_tup (da_cons (xv 3) (da_cons (xv 8) (da_cons de_int da_nil)))) (da_cons (de_tup (da_cons (xv 4) (da_cons (xv 7) (da_cons de_int da_nil)))) (da_cons (de_tup (da_cons (xv 5) (da_cons (xv 10) (da_cons de_int da_nil)))) (da_cons (de_tup (da_cons (xv 6) (da_cons (xv 9) (da_cons (de_un un_neg o1_neg de_int) da_nil)))) da_nil))))) (da_cons (de_lst (da_cons (de_tup (da_cons (xv 3) (da_cons (xv 9) (da_cons de_int da_nil)))) (da_cons (de_tup (da_cons (xv 4) (da_cons (xv 10) (da_cons (de_un un_neg o1_neg de_int) da_nil)))) (da_cons (de_tup (da_cons (xv 5) (da_cons (xv 7) (da_cons de_int da_nil)))) (da_cons (de_tup (da_cons (xv 6) (da_cons (xv 8) (da_cons de_int da_nil)))) da_nil))))) (da_cons (de_lst (da_cons (de_tup (da_cons (xv 3) (da_cons (xv 10) (da_cons de_int da_nil)))) (da_cons (de_tup (da_cons (xv 4) (da_cons (xv 9) (da_cons de_int da_nil)))) (da_cons (de_tup (da_cons (xv 5) (da_cons (xv 8) (da_cons (de_un un_neg o1_neg de_int) da_nil)))) (da_cons (de_tup (da_cons (xv 6) (da_cons (xv 7) (da_cons de_int da_nil)))) da_nil))))) da_nil))))))
  (dss_cons (ds_set (i := 12) true sc_l_four_times.nd rfl (by first | exact Or.inl rfl | exact Or.inr rfl) (by exact of_decide_eq_true rfl) (de_lst da_nil))
  (dss_cons (ds_for (sl := [13]) PassesOwn.never rfl (di_seq rfl (xv 11)) (dg_name (i := 13) (by exact of_decide_eq_true rfl) sc_l_four_times.nd rfl (by first | exact Or.inl rfl | exact Or.inr rfl) (by exact of_decide_eq_true rfl))
  (dss_cons (ds_setComp (i := 14) (own := [("_law_x", 15), ("_law_y", 16), ("_law_sign", 17)]) false (by exact of_decide_eq_true rfl) (by exact of_decide_eq_true rfl) (by exact of_decide_eq_true rfl) rfl sc_l_four_times.nd rfl rfl (sw_true rfl rfl rfl (by decide +kernel)) (di_seq rfl (xv 13)) (blkOk_by (by kernel_rfl)) (fun _ _ _ _ _ => (dg_tup rfl rfl (dgs_cons (dg_name (i := 15) (by exact of_decide_eq_true rfl) sc_l_four_times.nd rfl (by first | exact Or.inl rfl | exact Or.inr rfl) (by exact of_decide_eq_true rfl)) (dgs_cons (dg_name (i := 16) (by exact of_decide_eq_true rfl) sc_l_four_times.nd rfl (by first | exact Or.inl rfl | exact Or.inr rfl) (by exact of_decide_eq_true rfl)) (dgs_cons (dg_name (i := 17) (by exact of_decide_eq_true rfl) sc_l_four_times.nd rfl (by first | exact Or.inl rfl | exact Or.inr rfl) (by exact of_decide_eq_true rfl)) dgs_nil))))) (fun _ _ _ _ _ => dts_nil) (fun _ _ _ _ _ => (de_call (c_l_times.mono (by exact of_decide_eq_true rfl)) hr (by rfl) rfl rfl rfl (dv_val false (xv 0) (dv_val false (de_call (c_l_low.mono (by exact of_decide_eq_true rfl)) hr (by rfl) rfl rfl rfl (dv_val false (xv 0) (dv_val false (xv 17) (dv_val false de_int dv_nil)))) (dv_val false (de_call (c_l_times.mono (by exact of_decide_eq_true rfl)) hr (by rfl) rfl rfl rfl (dv_val false (xv 0) (dv_val false (xv 15) (dv_val false (xv 16) dv_nil)))) dv_nil))))))
  (dss_one (ds_expr (de_append (i := 12) false rfl (by first | exact Or.inl rfl | exact Or.inr (Or.inl rfl) | exact Or.inr (Or.inr rfl)) (de_call c_l_sum hr (by rfl) rfl rfl rfl (dv_val false (xv 0) (dv_val false (xv 14) dv_nil))))))))
  (dss_one (ds_frz 12 (by exact of_decide_eq_true rfl) (ds_ret (de_callTy call_tuple_of on_tuple (by rfl) H.b_tuple (by decide +kernel) (da_cons (xv 12) da_nil))))))))))
theorem ok_product (H : Facts K mg) (h : Def0 K mg "product" s_product ["ground", "one", "other"]) (c_through : CalD P w K mg base 5 "through" n_through []) : CalD P w K mg base 6 "product" n_product [] :=
  cal_def h sc_product rfl rfl rfl fun f cdv A outer s H0 E hr =>
(dss_one (ds_ret (de_callTy call_tuple_of on_tuple (by rfl) H.b_tuple (by decide +kernel) (da_cons (de_comp (own := [("row", 3)]) (by exact of_decide_eq_true rfl) (by exact of_decide_eq_true rfl) rfl sc_product.nd (di_seq rfl (xv 1)) (blkOk_by (by kernel_rfl)) (fun _ _ _ _ _ => (dg_name (i := 3) (by exact of_decide_eq_true rfl) sc_product.nd rfl (by first | exact Or.inl rfl | exact Or.inr rfl) (by exact of_decide_eq_true rfl))) (fun _ _ _ _ _ => dts_nil) (fun _ _ _ _ _ => (de_call c_through hr (by rfl) rfl rfl rfl (dv_val false (xv 0) (dv_val false (xv 3) (dv_val false (xv 2) dv_nil)))))) da_nil))))
theorem ok_least_rows (H : Facts K mg) (h : Def0 K mg "least_rows" s_least_rows ["ground", "rows"]) (c_headed : CalD P w K mg base 1 "headed" n_headed []) (c_over : CalD P w K mg base 3 "over" n_over []) (c_scaled : CalD P w K mg base 4 "scaled" n_scaled []) (c_taken_off : CalD P w K mg base 5 "taken_off" n_taken_off []) : CalD P w K mg base 6 "least_rows" n_least_rows [] :=
  cal_def h sc_least_rows rfl rfl rfl fun f cdv A outer s H0 E hr =>
(dss_cons (ds_set (i := 2) false sc_least_rows.nd rfl (by first | exact Or.inl rfl | exact Or.inr rfl) (by exact of_decide_eq_true rfl) (de_lst da_nil))
  (dss_cons (ds_for (sl := [3]) PassesOwn.never rfl (di_seq rfl (xv 1)) (dg_name (i := 3) (by exact of_decide_eq_true rfl) sc_least_rows.nd rfl (by first | exact Or.inl rfl | exact Or.inr rfl) (by exact of_decide_eq_true rfl))
  (dss_cons (ds_for (sl := [4]) PassesOwn.never rfl (di_seq rfl (xv 2)) (dg_name (i := 4) (by exact of_decide_eq_true rfl) sc_least_rows.nd rfl (by first | exact Or.inl rfl | exact Or.inr rfl) (by exact of_decide_eq_true rfl))
  (dss_one (ds_set (i := 3) false sc_least_rows.nd rfl (by first | exact Or.inl rfl | exact Or.inr rfl) (by exact of_decide_eq_true rfl) (de_call c_taken_off hr (by rfl) rfl rfl rfl (dv_val false (xv 0) (dv_val false (xv 3) (dv_val false (xv 4) (dv_val false (de_ix (xv 3) (de_call (c_headed.mono (by exact of_decide_eq_true rfl)) hr (by rfl) rfl rfl rfl (dv_val false (xv 4) dv_nil)) rfl (fun _ _ => rfl)) dv_nil))))))))
  (dss_cons (ds_set (i := 5) false sc_least_rows.nd rfl (by first | exact Or.inl rfl | exact Or.inr rfl) (by exact of_decide_eq_true rfl) (de_call (c_headed.mono (by exact of_decide_eq_true rfl)) hr (by rfl) rfl rfl rfl (dv_val false (xv 3) dv_nil)))
  (dss_one (ds_if (dt_cmp op_lt o2_lt (xv 5) (de_callB cl_len on_len (by rfl) H.b_len PySem.boot_len (da_cons (xv 3) da_nil)) (nomark _))
  (dss_cons (ds_set (i := 3) false sc_least_rows.nd rfl (by first | exact Or.inl rfl | exact Or.inr rfl) (by exact of_decide_eq_true rfl) (de_call (c_scaled.mono (by exact of_decide_eq_true rfl)) hr (by rfl) rfl rfl rfl (dv_val false (xv 0) (dv_val false (xv 3) (dv_val false (de_call (c_over.mono (by exact of_decide_eq_true rfl)) hr (by rfl) rfl rfl rfl (dv_val false (xv 0) (dv_val false (de_globC H.g_ONE (by rfl) rfl rfl) (dv_val false (de_ix (xv 3) (xv 5) rfl (fun _ _ => rfl)) dv_nil)))) dv_nil)))))
  (dss_one (ds_set (i := 2) false sc_least_rows.nd rfl (by first | exact Or.inl rfl | exact Or.inr rfl) (by exact of_decide_eq_true rfl) (de_op2 or_add o2_add (de_comp (own := [("head", 4)]) (by exact of_decide_eq_true rfl) (by exact of_decide_eq_true rfl) rfl sc_least_rows.nd (di_seq rfl (xv 2)) (blkOk_by (by kernel_rfl)) (fun _ _ _ _ _ => (dg_name (i := 4) (by exact of_decide_eq_true rfl) sc_least_rows.nd rfl (by first | exact Or.inl rfl | exact Or.inr rfl) (by exact of_decide_eq_true rfl))) (fun _ _ _ _ _ => dts_nil) (fun _ _ _ _ _ => (de_call c_taken_off hr (by rfl) rfl rfl rfl (dv_val false (xv 0) (dv_val false (xv 4) (dv_val false (xv 3) (dv_val false (de_ix (xv 4) (xv 5) rfl (fun _ _ => rfl)) dv_nil))))))) (de_lst (da_cons (xv 3) da_nil))))))
  dss_nil)))))
  (dss_one (ds_ret (de_callTy call_tuple_of on_tuple (by rfl) H.b_tuple (by decide +kernel) (da_cons (de_sortK (k := 4) (c_headed.mono (k := 4) (by exact of_decide_eq_true rfl)) hr (by rfl) (by rfl) H.b_sorted rfl rfl rfl (xv 2)) da_nil))))))
theorem ok_determinant (H : Facts K mg) (h : Def0 K mg "determinant" s_determinant ["ground", "table"]) (c_minus : CalD P w K mg base 3 "minus" n_minus []) (c_over : CalD P w K mg base 3 "over" n_over []) (c_taken_off : CalD P w K mg base 5 "taken_off" n_taken_off []) (c_times : CalD P w K mg base 3 "times" n_times []) : CalD P w K mg base 6 "determinant" n_determinant [] :=
  cal_def h sc_determinant rfl rfl rfl fun f cdv A outer s H0 E hr =>
(dss_cons (ds_set (i := 2) true sc_determinant.nd rfl (by first | exact Or.inl rfl | exact Or.inr rfl) (by exact of_decide_eq_true rfl) (de_callTy call_list_of on_list (by rfl) H.b_list (by decide +kernel) (da_cons (xv 1) da_nil)))
  (dss_cons (ds_set (i := 3) false sc_determinant.nd rfl (by first | exact Or.inl rfl | exact Or.inr rfl) (by exact of_decide_eq_true rfl) (de_globC H.g_ONE (by rfl) rfl rfl))
  (dss_cons (ds_while PassesOwn.never (dt_bor (dt_cmp (op_neD hr.units) o2_ne (xv 2) (de_lst da_nil) (nomark _)))
  (dss_cons (ds_setCompB (i := 4) (own := [("j", 6), ("row", 7)]) false (by exact of_decide_eq_true rfl) (by exact of_decide_eq_true rfl) (by exact of_decide_eq_true rfl) rfl sc_determinant.nd rfl rfl (sw_true rfl rfl rfl (by decide +kernel)) (di_enum rfl (by rfl) H.b_enumerate (xv 2)) (blkOk_by (by kernel_rfl)) (fun _ _ _ _ _ => (dg_tup rfl rfl (dgs_cons (dg_name (i := 6) (by exact of_decide_eq_true rfl) sc_determinant.nd rfl (by first | exact Or.inl rfl | exact Or.inr rfl) (by exact of_decide_eq_true rfl)) (dgs_cons (dg_name (i := 7) (by exact of_decide_eq_true rfl) sc_determinant.nd rfl (by first | exact Or.inl rfl | exact Or.inr rfl) (by exact of_decide_eq_true rfl)) dgs_nil)))) (fun _ _ _ _ _ => (dts_one (dt_cmp (op_neD hr.units) o2_ne (de_ix (xv 7) de_int rfl (fun _ _ => rfl)) (de_globC H.g_NOUGHT (by rfl) rfl rfl) (nomark _)))) (fun _ _ _ _ _ => (xv 6)))
  (dss_cons (ds_if (dt_cmp (op_eqD hr.units) o2_eq (xv 4) (de_lst da_nil) (nomark _))
  (dss_one (ds_ret (de_globC H.g_NOUGHT (by rfl) rfl rfl)))
  dss_nil)
  (dss_cons (ds_set (i := 5) false sc_determinant.nd rfl (by first | exact Or.inl rfl | exact Or.inr rfl) (by exact of_decide_eq_true rfl) (de_popAt (i := 2) rfl (by first | exact Or.inl rfl | exact Or.inr (Or.inl rfl) | exact Or.inr (Or.inr rfl)) (de_ix (xv 4) de_int rfl (fun _ _ => rfl))))
  (dss_cons (ds_set (i := 3) false sc_determinant.nd rfl (by first | exact Or.inl rfl | exact Or.inr rfl) (by exact of_decide_eq_true rfl) (de_call (c_times.mono (by exact of_decide_eq_true rfl)) hr (by rfl) rfl rfl rfl (dv_val false (xv 0) (dv_val false (xv 3) (dv_val false (de_if (dt_cmp (op_eqD hr.units) o2_eq (de_op2 op_modN o2_mod (de_ix (xv 4) de_int rfl (fun _ _ => rfl)) de_int) de_int (nomark _)) (de_ix (xv 5) de_int rfl (fun _ _ => rfl)) (de_call (c_minus.mono (by exact of_decide_eq_true rfl)) hr (by rfl) rfl rfl rfl (dv_val false (xv 0) (dv_val false (de_ix (xv 5) de_int rfl (fun _ _ => rfl)) dv_nil)))) dv_nil)))))
  (dss_one (ds_frz 2 (by exact of_decide_eq_true rfl) (ds_setComp (i := 2) (own := [("row", 7)]) true (by exact of_decide_eq_true rfl) (by exact of_decide_eq_true rfl) (by exact of_decide_eq_true rfl) rfl sc_determinant.nd rfl rfl (sw_true rfl rfl rfl (by decide +kernel)) (di_seq rfl (xv 2)) (blkOk_by (by kernel_rfl)) (fun _ _ _ _ _ => (dg_name (i := 7) (by exact of_decide_eq_true rfl) sc_determinant.nd rfl (by first | exact Or.inl rfl | exact Or.inr rfl) (by exact of_decide_eq_true rfl))) (fun _ _ _ _ _ => dts_nil) (fun _ _ _ _ _ => (de_slice rfl (de_call c_taken_off hr (by rfl) rfl rfl rfl (dv_val false (xv 0) (dv_val false (xv 7) (dv_val false (xv 5) (dv_val false (de_call (c_over.mono (by exact of_decide_eq_true rfl)) hr (by rfl) rfl rfl rfl (dv_val false (xv 0) (dv_val false (de_ix (xv 7) de_int rfl (fun _ _ => rfl)) (dv_val false (de_ix (xv 5) de_int rfl (fun _ _ => rfl)) dv_nil)))) dv_nil))))) (do_some de_int) do_none))))))))))
  (dss_one (ds_ret (xv 3))))))
theorem ok_paired (H : Facts K mg) (h : Def0 K mg "paired" s_paired ["ground", "table", "row", "other"]) (c_plus : CalD P w K mg base 3 "plus" n_plus []) (c_through : CalD P w K mg base 5 "through" n_through []) (c_times : CalD P w K mg base 3 "times" n_times []) : CalD P w K mg base 6 "paired" n_paired [] :=
  cal_def h sc_paired rfl rfl rfl fun f cdv A outer s H0 E hr =>
(dss_cons (ds_set (i := 4) false sc_paired.nd rfl (by first | exact Or.inl rfl | exact Or.inr rfl) (by exact of_decide_eq_true rfl) (de_globC H.g_NOUGHT (by rfl) rfl rfl))
  (dss_cons (ds_for (sl := [5, 6]) PassesOwn.never rfl (di_zipS rfl (by rfl) H.b_zip (de_call c_through hr (by rfl) rfl rfl rfl (dv_val false (xv 0) (dv_val false (xv 2) (dv_val false (xv 1) dv_nil)))) (xv 3)) (dg_tup rfl rfl (dgs_cons (dg_name (i := 5) (by exact of_decide_eq_true rfl) sc_paired.nd rfl (by first | exact Or.inl rfl | exact Or.inr rfl) (by exact of_decide_eq_true rfl)) (dgs_cons (dg_name (i := 6) (by exact of_decide_eq_true rfl) sc_paired.nd rfl (by first | exact Or.inl rfl | exact Or.inr rfl) (by exact of_decide_eq_true rfl)) dgs_nil)))
  (dss_one (ds_set (i := 4) false sc_paired.nd rfl (by first | exact Or.inl rfl | exact Or.inr rfl) (by exact of_decide_eq_true rfl) (de_call (c_plus.mono (by exact of_decide_eq_true rfl)) hr (by rfl) rfl rfl rfl (dv_val false (xv 0) (dv_val false (xv 4) (dv_val false (de_call (c_times.mono (by exact of_decide_eq_true rfl)) hr (by rfl) rfl rfl rfl (dv_val false (xv 0) (dv_val false (xv 5) (dv_val false (xv 6) dv_nil)))) dv_nil)))))))
  (dss_one (ds_ret (xv 4)))))
theorem ok_between (H : Facts K mg) (h : Def0 K mg "between" s_between ["ground", "one", "other"]) (c_four_times : CalD P w K mg base 5 "four_times" n_four_times []) (c_norm_of : CalD P w K mg base 4 "norm_of" n_norm_of []) (c_ones : CalD P w K mg base 1 "ones" n_ones []) (c_over : CalD P w K mg base 3 "over" n_over []) (c_scaled : CalD P w K mg base 4 "scaled" n_scaled []) : CalD P w K mg base 6 "between" n_between [] :=
  cal_def h sc_between rfl rfl rfl fun f cdv A outer s H0 E hr =>
(dss_cons (ds_set (i := 3) false sc_between.nd rfl (by first | exact Or.inl rfl | exact Or.inr rfl) (by exact of_decide_eq_true rfl) (de_call (c_over.mono (by exact of_decide_eq_true rfl)) hr (by rfl) rfl rfl rfl (dv_val false (xv 0) (dv_val false (de_globC H.g_ONE (by rfl) rfl rfl) (dv_val false (de_call (c_norm_of.mono (by exact of_decide_eq_true rfl)) hr (by rfl) rfl rfl rfl (dv_val false (xv 0) (dv_val false (xv 1) dv_nil))) dv_nil)))))
  (dss_one (ds_ret (de_comp (own := [("unit", 4)]) (by exact of_decide_eq_true rfl) (by exact of_decide_eq_true rfl) rfl sc_between.nd (di_seq rfl (de_call (c_ones.mono (by exact of_decide_eq_true rfl)) hr (by rfl) rfl rfl rfl (dv_val false (de_globC H.g_PARTS (by rfl) rfl rfl) dv_nil))) (blkOk_by (by kernel_rfl)) (fun _ _ _ _ _ => (dg_name (i := 4) (by exact of_decide_eq_true rfl) sc_between.nd rfl (by first | exact Or.inl rfl | exact Or.inr rfl) (by exact of_decide_eq_true rfl))) (fun _ _ _ _ _ => dts_nil) (fun _ _ _ _ _ => (de_call (c_scaled.mono (by exact of_decide_eq_true rfl)) hr (by rfl) rfl rfl rfl (dv_val false (xv 0) (dv_val false (de_call c_four_times hr (by rfl) rfl rfl rfl (dv_val false (xv 0) (dv_val false (de_call c_four_times hr (by rfl) rfl rfl rfl (dv_val false (xv 0) (dv_val false (xv 1) (dv_val false (xv 4) dv_nil)))) (dv_val false (xv 2) dv_nil)))) (dv_val false (xv 3) dv_nil)))))))))
theorem ok_l_four (H : Facts K mg) (h : Def0 K mg "_law_four" s_l_four ["_law_bag_here", "_law_g"]) (c_l_norm : CalD P w K mg base 5 "_law_norm" n_l_norm []) (c_l_ones : CalD P w K mg base 1 "_law_ones" n_l_ones []) (c_l_row : CalD P w K mg base 4 "_law_row" n_l_row []) (c_l_take : CalD P w K mg base 1 "_law_take" n_l_take []) : CalD P w K mg base 6 "_law_four" n_l_four [] :=
  cal_def h sc_l_four rfl rfl rfl fun f cdv A outer s H0 E hr =>
(dss_cons (ds_set (i := 2) false sc_l_four.nd rfl (by first | exact Or.inl rfl | exact Or.inr rfl) (by exact of_decide_eq_true rfl) (de_call (c_l_row.mono (by exact of_decide_eq_true rfl)) hr (by rfl) rfl rfl rfl (dv_ref (i := 0) rfl (by first | exact Or.inl rfl | exact Or.inr (Or.inl rfl) | exact Or.inr (Or.inr rfl)) (dv_val false (xv 1) (dv_val false de_int dv_nil)))))
  (dss_cons (ds_if (dt_cmp (op_eqD hr.units) o2_eq (de_call c_l_norm hr (by rfl) rfl rfl rfl (dv_val false (xv 1) (dv_val false (xv 2) dv_nil))) (de_tup (da_cons de_int (da_cons de_int da_nil))) (nomark _))
  (dss_one (ds_ret (de_ix (de_call (c_l_ones.mono (by exact of_decide_eq_true rfl)) hr (by rfl) rfl rfl rfl (dv_val false de_int dv_nil)) (de_call (c_l_take.mono (by exact of_decide_eq_true rfl)) hr (by rfl) rfl rfl rfl (dv_ref (i := 0) rfl (by first | exact Or.inl rfl | exact Or.inr (Or.inl rfl) | exact Or.inr (Or.inr rfl)) (dv_val false de_int dv_nil))) rfl (fun _ _ => rfl))))
  dss_nil)
  (dss_one (ds_ret (xv 2)))))
theorem ok_l_between (H : Facts K mg) (h : Def0 K mg "_law_between" s_l_between ["_law_g", "_law_one", "_law_two"]) (c_l_four_times : CalD P w K mg base 5 "_law_four_times" n_l_four_times []) (c_l_norm : CalD P w K mg base 5 "_law_norm" n_l_norm []) (c_l_ones : CalD P w K mg base 1 "_law_ones" n_l_ones []) (c_l_over : CalD P w K mg base 3 "_law_over" n_l_over []) (c_l_scaled : CalD P w K mg base 4 "_law_scaled" n_l_scaled []) : CalD P w K mg base 6 "_law_between" n_l_between [] :=
  cal_def h sc_l_between rfl rfl rfl fun f cdv A outer s H0 E hr =>
(dss_cons (ds_set (i := 3) false sc_l_between.nd rfl (by first | exact Or.inl rfl | exact Or.inr rfl) (by exact of_decide_eq_true rfl) (de_call (c_l_over.mono (by exact of_decide_eq_true rfl)) hr (by rfl) rfl rfl rfl (dv_val false (xv 0) (dv_val false (de_tup (da_cons de_int (da_cons de_int da_nil))) (dv_val false (de_call c_l_norm hr (by rfl) rfl rfl rfl (dv_val false (xv 0) (dv_val false (xv 1) dv_nil))) dv_nil)))))
  (dss_cons (ds_set (i := 4) true sc_l_between.nd rfl (by first | exact Or.inl rfl | exact Or.inr rfl) (by exact of_decide_eq_true rfl) (de_lst da_nil))
  (dss_cons (ds_for (sl := [5]) PassesOwn.never rfl (di_seq rfl (de_call (c_l_ones.mono (by exact of_decide_eq_true rfl)) hr (by rfl) rfl rfl rfl (dv_val false de_int dv_nil))) (dg_name (i := 5) (by exact of_decide_eq_true rfl) sc_l_between.nd rfl (by first | exact Or.inl rfl | exact Or.inr rfl) (by exact of_decide_eq_true rfl))
  (dss_one (ds_expr (de_append (i := 4) false rfl (by first | exact Or.inl rfl | exact Or.inr (Or.inl rfl) | exact Or.inr (Or.inr rfl)) (de_call (c_l_scaled.mono (by exact of_decide_eq_true rfl)) hr (by rfl) rfl rfl rfl (dv_val false (xv 0) (dv_val false (de_call c_l_four_times hr (by rfl) rfl rfl rfl (dv_val false (xv 0) (dv_val false (de_call c_l_four_times hr (by rfl) rfl rfl rfl (dv_val false (xv 0) (dv_val false (xv 1) (dv_val false (xv 5) dv_nil)))) (dv_val false (xv 2) dv_nil)))) (dv_val false (xv 3) dv_nil))))))))
  (dss_one (ds_frz 4 (by exact of_decide_eq_true rfl) (ds_ret (de_callTy call_tuple_of on_tuple (by rfl) H.b_tuple (by decide +kernel) (da_cons (xv 4) da_nil))))))))
theorem ok_Keeper_of (H : Facts K mg) (h : Met0 K mg "Keeper" "of" "Keeper.of" s_Keeper_of ["self", "row"]) (c_look_row : CalD P w K mg base 4 "look_row" n_look_row []) (c_through : CalD P w K mg base 5 "through" n_through []) : MetX P w K mg base 6 "Keeper" "of" n_Keeper_of [] :=
  met_def h sc_Keeper_of rfl rfl rfl fun f cdv A outer s H0 E hr tk =>
(dss_cons (ds_expr (de_callN (c_look_row.mono (by exact of_decide_eq_true rfl)) hr (by rfl) rfl rfl (dv_val false (de_attr H.n_Keeper (by simp) rfl (xv 0)) (dv_val false (xv 1) dv_nil))))
  (dss_one (ds_ret (de_callN c_through hr (by rfl) rfl rfl (dv_val false (de_attr H.n_Form (by simp) rfl (de_attr H.n_Keeper (by simp) rfl (xv 0))) (dv_val false (xv 1) (dv_val false (de_attr H.n_Keeper (by simp) rfl (xv 0)) dv_nil)))))))
theorem ok_rank_of (H : Facts K mg) (h : Def0 K mg "rank_of" s_rank_of ["ground", "rows"]) (c_least_rows : CalD P w K mg base 6 "least_rows" n_least_rows []) : CalD P w K mg base 7 "rank_of" n_rank_of [] :=
  cal_def h sc_rank_of rfl rfl rfl fun f cdv A outer s H0 E hr =>
(dss_one (ds_ret (de_callB cl_len on_len (by rfl) H.b_len PySem.boot_len (da_cons (de_call c_least_rows hr (by rfl) rfl rfl rfl (dv_val false (xv 0) (dv_val false (xv 1) dv_nil))) da_nil))))
theorem ok_is_form_table (H : Facts K mg) (h : Def0 K mg "is_form_table" s_is_form_table ["ground", "thing"]) (c_determinant : CalD P w K mg base 6 "determinant" n_determinant []) (c_is_table : CalD P w K mg base 4 "is_table" n_is_table []) (c_turned : CalD P w K mg base 1 "turned" n_turned []) : CalD P w K mg base 7 "is_form_table" n_is_form_table [] :=
  cal_def h sc_is_form_table rfl rfl rfl fun f cdv A outer s H0 E hr =>
(dss_cons (ds_if (PW.pt (dw_or (dt_not (dt_val (de_isi (T := "tuple") rfl (by rfl) H.b_isinstance (xv 1) (by rfl) H.b_tuple (by decide +kernel) (by decide +kernel)))) (dw_or1 (dt_not (dt_chain op_le op_le de_int (de_callB cl_len on_len (by rfl) H.b_len PySem.boot_len (da_cons (xv 1) da_nil)) (de_op2 op_sub o2_sub (de_globC H.g_MOST_LETTERS (by rfl) rfl rfl) (de_callTy call_int1 on_int (by rfl) H.b_int (by decide +kernel) (da_cons (de_cmp op_gt o2_gt (xv 0) de_int (nomark _)) da_nil))))))))
  (dss_one (ds_ret de_bl))
  dss_nil)
  (dss_cons (ds_if (dt_not (dt_val (de_call (c_is_table.mono (by exact of_decide_eq_true rfl)) hr (by rfl) rfl rfl rfl (dv_val false (xv 0) (dv_val false (xv 1) (dv_val false (de_callB cl_len on_len (by rfl) H.b_len PySem.boot_len (da_cons (xv 1) da_nil)) (dv_val false (de_callB cl_len on_len (by rfl) H.b_len PySem.boot_len (da_cons (xv 1) da_nil)) dv_nil)))))))
  (dss_one (ds_ret de_bl))
  dss_nil)
  (dss_one (ds_ret (de_and (de_cmp (op_eqD hr.units) o2_eq (de_call (c_turned.mono (by exact of_decide_eq_true rfl)) hr (by rfl) rfl rfl rfl (dv_val false (xv 1) dv_nil)) (xv 1) (nomark _)) (de_one (de_cmp (op_neD hr.units) o2_ne (de_call c_determinant hr (by rfl) rfl rfl rfl (dv_val false (xv 0) (dv_val false (xv 1) dv_nil))) (de_globC H.g_NOUGHT (by rfl) rfl rfl) (nomark _))))))))
theorem ok_first_changed (H : Facts K mg) (h : Def0 K mg "first_changed" s_first_changed ["form", "table"]) (c_paired : CalD P w K mg base 6 "paired" n_paired []) : CalD P w K mg base 7 "first_changed" n_first_changed [] :=
  cal_def h sc_first_changed rfl rfl rfl fun f cdv A outer s H0 E hr =>
(dss_cons (ds_for (sl := [2]) PassesOwn.never rfl (di_rng1 (by rfl) H.b_range (de_callB cl_len on_len (by rfl) H.b_len PySem.boot_len (da_cons (de_attr H.n_Form (by simp) rfl (xv 0)) da_nil))) (dg_name (i := 2) (by exact of_decide_eq_true rfl) sc_first_changed.nd rfl (by first | exact Or.inl rfl | exact Or.inr rfl) (by exact of_decide_eq_true rfl))
  (dss_one (ds_for (sl := [3]) PassesOwn.never rfl (di_rng2 (by rfl) H.b_range (xv 2) (de_callB cl_len on_len (by rfl) H.b_len PySem.boot_len (da_cons (de_attr H.n_Form (by simp) rfl (xv 0)) da_nil))) (dg_name (i := 3) (by exact of_decide_eq_true rfl) sc_first_changed.nd rfl (by first | exact Or.inl rfl | exact Or.inr rfl) (by exact of_decide_eq_true rfl))
  (dss_one (ds_if (dt_cmp (op_neD hr.units) o2_ne (de_call c_paired hr (by rfl) rfl rfl rfl (dv_val false (de_attr H.n_Form (by simp) rfl (xv 0)) (dv_val false (de_attr H.n_Form (by simp) rfl (xv 0)) (dv_val false (de_ix (xv 1) (xv 2) rfl (fun _ _ => rfl)) (dv_val false (de_ix (xv 1) (xv 3) rfl (fun _ _ => rfl)) dv_nil))))) (de_ix (de_ix (de_attr H.n_Form (by simp) rfl (xv 0)) (xv 2) rfl (fun _ _ => rfl)) (xv 3) rfl (fun _ _ => rfl)) (nomark _))
  (dss_one (ds_ret (de_tup (da_cons (xv 2) (da_cons (xv 3) da_nil)))))
  dss_nil)))))
  (dss_one (ds_ret de_non)))
theorem ok_l_like (H : Facts K mg) (h : Def0 K mg "_law_like" s_l_like ["_law_bag_here", "_law_g", "_law_four_here"]) (c_l_four : CalD P w K mg base 6 "_law_four" n_l_four []) (c_l_four_times : CalD P w K mg base 5 "_law_four_times" n_l_four_times []) (c_l_minus : CalD P w K mg base 3 "_law_minus" n_l_minus []) (c_l_mixed : CalD P w K mg base 2 "_law_mixed" n_l_mixed []) (c_l_norm : CalD P w K mg base 5 "_law_norm" n_l_norm []) (c_l_over : CalD P w K mg base 3 "_law_over" n_l_over []) (c_l_scaled : CalD P w K mg base 4 "_law_scaled" n_l_scaled []) (c_l_take : CalD P w K mg base 1 "_law_take" n_l_take []) : CalD P w K mg base 7 "_law_like" n_l_like [] :=
  cal_def h sc_l_like rfl rfl rfl fun f cdv A outer s H0 E hr =>
(dss_cons (ds_if (dt_cmp (op_eqD hr.units) o2_eq (de_call (c_l_take.mono (by exact of_decide_eq_true rfl)) hr (by rfl) rfl rfl rfl (dv_ref (i := 0) rfl (by first | exact Or.inl rfl | exact Or.inr (Or.inl rfl) | exact Or.inr (Or.inr rfl)) (dv_val false de_int dv_nil))) de_int (nomark _))
  (dss_cons (ds_set (i := 3) false sc_l_like.nd rfl (by first | exact Or.inl rfl | exact Or.inr rfl) (by exact of_decide_eq_true rfl) (de_call (c_l_mixed.mono (by exact of_decide_eq_true rfl)) hr (by rfl) rfl rfl rfl (dv_ref (i := 0) rfl (by first | exact Or.inl rfl | exact Or.inr (Or.inl rfl) | exact Or.inr (Or.inr rfl)) (dv_val false (de_callTy call_list_of on_list (by rfl) H.b_list (by decide +kernel) (da_cons (xv 2) da_nil)) dv_nil))))
  (dss_one (ds_ret (de_callTy call_tuple_of on_tuple (by rfl) H.b_tuple (by decide +kernel) (da_cons (de_comp (own := [("_law_x", 6)]) (by exact of_decide_eq_true rfl) (by exact of_decide_eq_true rfl) rfl sc_l_like.nd (di_seq rfl (xv 3)) (blkOk_by (by kernel_rfl)) (fun _ _ _ _ _ => (dg_name (i := 6) (by exact of_decide_eq_true rfl) sc_l_like.nd rfl (by first | exact Or.inl rfl | exact Or.inr rfl) (by exact of_decide_eq_true rfl))) (fun _ _ _ _ _ => dts_nil) (fun _ _ _ _ _ => (de_ix (de_lst (da_cons (xv 6) (da_cons (de_call (c_l_minus.mono (by exact of_decide_eq_true rfl)) hr (by rfl) rfl rfl rfl (dv_val false (xv 1) (dv_val false (xv 6) dv_nil))) da_nil))) (de_call (c_l_take.mono (by exact of_decide_eq_true rfl)) hr (by rfl) rfl rfl rfl (dv_ref (i := 0) rfl (by first | exact Or.inl rfl | exact Or.inr (Or.inl rfl) | exact Or.inr (Or.inr rfl)) (dv_val false de_int dv_nil))) rfl (fun _ _ => rfl)))) da_nil)))))
  dss_nil)
  (dss_cons (ds_set (i := 4) false sc_l_like.nd rfl (by first | exact Or.inl rfl | exact Or.inr rfl) (by exact of_decide_eq_true rfl) (de_call c_l_four hr (by rfl) rfl rfl rfl (dv_ref (i := 0) rfl (by first | exact Or.inl rfl | exact Or.inr (Or.inl rfl) | exact Or.inr (Or.inr rfl)) (dv_val false (xv 1) dv_nil))))
  (dss_cons (ds_set (i := 5) false sc_l_like.nd rfl (by first | exact Or.inl rfl | exact Or.inr rfl) (by exact of_decide_eq_true rfl) (de_call (c_l_over.mono (by exact of_decide_eq_true rfl)) hr (by rfl) rfl rfl rfl (dv_val false (xv 1) (dv_val false (de_tup (da_cons de_int (da_cons de_int da_nil))) (dv_val false (de_call (c_l_norm.mono (by exact of_decide_eq_true rfl)) hr (by rfl) rfl rfl rfl (dv_val false (xv 1) (dv_val false (xv 4) dv_nil))) dv_nil)))))
  (dss_one (ds_ret (de_call (c_l_four_times.mono (by exact of_decide_eq_true rfl)) hr (by rfl) rfl rfl rfl (dv_val false (xv 1) (dv_val false (xv 2) (dv_val false (de_call (c_l_scaled.mono (by exact of_decide_eq_true rfl)) hr (by rfl) rfl rfl rfl (dv_val false (xv 1) (dv_val false (de_call (c_l_four_times.mono (by exact of_decide_eq_true rfl)) hr (by rfl) rfl rfl rfl (dv_val false (xv 1) (dv_val false (xv 4) (dv_val false (xv 4) dv_nil)))) (dv_val false (xv 5) dv_nil)))) dv_nil)))))))))
theorem ok_Keeper_hand (H : Facts K mg) (h : Met0 K mg "Keeper" "hand" "Keeper.hand" s_Keeper_hand ["self"]) (c_determinant : CalD P w K mg base 6 "determinant" n_determinant []) : MetX P w K mg base 7 "Keeper" "hand" n_Keeper_hand [] :=
  met_def h sc_Keeper_hand rfl rfl rfl fun f cdv A outer s H0 E hr tk =>
(dss_one (ds_ret (de_if (dt_cmp (op_eqD hr.units) o2_eq (de_callN c_determinant hr (by rfl) rfl rfl (dv_val false (de_attr H.n_Form (by simp) rfl (de_attr H.n_Keeper (by simp) rfl (xv 0))) (dv_val false (de_attr H.n_Keeper (by simp) rfl (xv 0)) dv_nil))) (de_globC H.g_ONE (by rfl) rfl rfl) (nomark _)) de_int (de_un un_neg o1_neg de_int))))
theorem ok_back (H : Facts K mg) (h : Def0 K mg "back" s_back ["ground", "table"]) (c_least_rows : CalD P w K mg base 6 "least_rows" n_least_rows []) (c_ones : CalD P w K mg base 1 "ones" n_ones []) (c_rank_of : CalD P w K mg base 7 "rank_of" n_rank_of []) : CalD P w K mg base 8 "back" n_back [] :=
  cal_def h sc_back rfl rfl rfl fun f cdv A outer s H0 E hr =>
(dss_cons (ds_set (i := 2) false sc_back.nd rfl (by first | exact Or.inl rfl | exact Or.inr rfl) (by exact of_decide_eq_true rfl) (de_callB cl_len on_len (by rfl) H.b_len PySem.boot_len (da_cons (xv 1) da_nil)))
  (dss_cons (ds_set (i := 3) false sc_back.nd rfl (by first | exact Or.inl rfl | exact Or.inr rfl) (by exact of_decide_eq_true rfl) (de_call c_rank_of hr (by rfl) rfl rfl rfl (dv_val false (xv 0) (dv_val false (xv 1) dv_nil))))
  (dss_cons (ds_if (dt_cmp op_lt o2_lt (xv 3) (xv 2) (nomark _))
  (dss_one ds_bad0)
  dss_nil)
  (dss_cons (ds_setComp (i := 4) (own := [("row", 5), ("one", 6)]) false (by exact of_decide_eq_true rfl) (by exact of_decide_eq_true rfl) (by exact of_decide_eq_true rfl) rfl sc_back.nd rfl rfl (sw_true rfl rfl rfl (by decide +kernel)) (di_zipS rfl (by rfl) H.b_zip (xv 1) (de_call (c_ones.mono (by exact of_decide_eq_true rfl)) hr (by rfl) rfl rfl rfl (dv_val false (xv 2) dv_nil))) (blkOk_by (by kernel_rfl)) (fun _ _ _ _ _ => (dg_tup rfl rfl (dgs_cons (dg_name (i := 5) (by exact of_decide_eq_true rfl) sc_back.nd rfl (by first | exact Or.inl rfl | exact Or.inr rfl) (by exact of_decide_eq_true rfl)) (dgs_cons (dg_name (i := 6) (by exact of_decide_eq_true rfl) sc_back.nd rfl (by first | exact Or.inl rfl | exact Or.inr rfl) (by exact of_decide_eq_true rfl)) dgs_nil)))) (fun _ _ _ _ _ => dts_nil) (fun _ _ _ _ _ => (de_op2 or_add o2_add (xv 5) (xv 6))))
  (dss_one (ds_ret (de_callTy call_tuple_of on_tuple (by rfl) H.b_tuple (by decide +kernel) (da_cons (de_comp (own := [("row", 5)]) (by exact of_decide_eq_true rfl) (by exact of_decide_eq_true rfl) rfl sc_back.nd (di_seq rfl (de_call (c_least_rows.mono (by exact of_decide_eq_true rfl)) hr (by rfl) rfl rfl rfl (dv_val false (xv 0) (dv_val false (xv 4) dv_nil)))) (blkOk_by (by kernel_rfl)) (fun _ _ _ _ _ => (dg_name (i := 5) (by exact of_decide_eq_true rfl) sc_back.nd rfl (by first | exact Or.inl rfl | exact Or.inr rfl) (by exact of_decide_eq_true rfl))) (fun _ _ _ _ _ => dts_nil) (fun _ _ _ _ _ => (de_slice rfl (xv 5) (do_some (xv 2)) do_none))) da_nil))))))))
theorem ok_Form_init (H : Facts K mg) (h : IniD K mg "Form" "Form.__init__" s_Form_init [.int 0]) (c_is_form_table : CalD P w K mg base 7 "is_form_table" n_is_form_table []) (c_look_ground : CalD P w K mg base 3 "look_ground" n_look_ground []) : CalI P w K mg base 8 "Form" "Form.__init__" n_Form_init s_Form_init ["self", "table", "ground"] [.int 0] :=
  ini_def h sc_Form_init rfl rfl rfl fun f cdv A outer s H0 E hr tk =>
(dss_cons (ds_expr (de_callN (c_look_ground.mono (by exact of_decide_eq_true rfl)) hr (by rfl) rfl rfl (dv_val false (xv 2) dv_nil)))
  (dss_cons (ds_if (dt_not (dt_val (de_callN c_is_form_table hr (by rfl) rfl rfl (dv_val false (xv 2) (dv_val false (xv 1) dv_nil)))))
  (dss_one ds_bad0)
  dss_nil)
  (dss_cons (ds_setF (i := 0) H.n_Form (by simp) rfl rfl rfl (by first | exact Or.inl rfl | exact Or.inr (Or.inl rfl) | exact Or.inr (Or.inr rfl)) (xv 1))
  (dss_one (ds_setF (i := 0) H.n_Form (by simp) rfl rfl rfl (by first | exact Or.inl rfl | exact Or.inr (Or.inl rfl) | exact Or.inr (Or.inr rfl)) (xv 2))))))
theorem ok_Keeper_init (H : Facts K mg) (h : Ini0 K mg "Keeper" "Keeper.__init__" s_Keeper_init ["self", "form", "table"]) (c_first_changed : CalD P w K mg base 7 "first_changed" n_first_changed []) (c_is_table : CalD P w K mg base 4 "is_table" n_is_table []) (c_look_form : CalD P w K mg base 1 "look_form" n_look_form []) : MkC P w K mg base 8 "Keeper" n_Keeper_init [] :=
  ini0_def h sc_Keeper_init rfl rfl rfl fun f cdv A outer s H0 E hr tk =>
(dss_cons (ds_expr (de_callN (c_look_form.mono (by exact of_decide_eq_true rfl)) hr (by rfl) rfl rfl (dv_val false (xv 1) dv_nil)))
  (dss_cons (ds_if (dt_not (dt_val (de_callN (c_is_table.mono (by exact of_decide_eq_true rfl)) hr (by rfl) rfl rfl (dv_val false (de_attr H.n_Form (by simp) rfl (xv 1)) (dv_val false (xv 2) (dv_val false (de_callB cl_len on_len (by rfl) H.b_len PySem.boot_len (da_cons (de_attr H.n_Form (by simp) rfl (xv 1)) da_nil)) (dv_val false (de_callB cl_len on_len (by rfl) H.b_len PySem.boot_len (da_cons (de_attr H.n_Form (by simp) rfl (xv 1)) da_nil)) dv_nil)))))))
  (dss_one ds_bad0)
  dss_nil)
  (dss_cons (ds_set (i := 3) false sc_Keeper_init.nd rfl (by first | exact Or.inl rfl | exact Or.inr rfl) (by exact of_decide_eq_true rfl) (de_callN c_first_changed hr (by rfl) rfl rfl (dv_val false (xv 1) (dv_val false (xv 2) dv_nil))))
  (dss_cons (ds_if (dt_cmp op_notN o2_notN (xv 3) de_non (nomark _))
  (dss_one ds_bad0)
  dss_nil)
  (dss_cons (ds_setF (i := 0) H.n_Keeper (by simp) rfl rfl rfl (by first | exact Or.inl rfl | exact Or.inr (Or.inl rfl) | exact Or.inr (Or.inr rfl)) (xv 1))
  (dss_one (ds_setF (i := 0) H.n_Keeper (by simp) rfl rfl rfl (by first | exact Or.inl rfl | exact Or.inr (Or.inl rfl) | exact Or.inr (Or.inr rfl)) (xv 2))))))))
theorem ok_squares (H : Facts K mg) (h : Def0 K mg "squares" s_squares ["ground", "many"]) (c_Form_init : CalI P w K mg base 8 "Form" "Form.__init__" n_Form_init s_Form_init ["self", "table", "ground"] [.int 0]) (c_ones : CalD P w K mg base 1 "ones" n_ones []) : CalD P w K mg base 10 "squares" n_squares [] :=
  cal_def h sc_squares rfl rfl rfl fun f cdv A outer s H0 E hr =>
(dss_one (ds_ret (de_makeK (c_Form_init.kw 1 ["ground"] 0 (fun _ _ _ _ _ _ _ us its ws h1 h2 h3 => match us, its, ws, h1, h2, h3 with | [_, _], [_], [_], _, _, _ => ⟨_, rfl, rfl⟩)) hr (by rfl) rfl rfl takesF (da_cons (de_call (c_ones.mono (by exact of_decide_eq_true rfl)) hr (by rfl) rfl rfl rfl (dv_val false (xv 1) dv_nil)) da_nil) (dka_cons (xv 0) dka_nil))))
theorem ok_l_is_double (H : Facts K mg) (h : Def0 K mg "_law_is_double" s_l_is_double ["_law_g", "_law_one", "_law_two", "_law_keeper", "_law_row_here"]) (c_Form_eq : MetX P w K mg base 1 "Form" "__eq__" n_Form_eq []) (c_Form_init : CalI P w K mg base 8 "Form" "Form.__init__" n_Form_init s_Form_init ["self", "table", "ground"] [.int 0]) (c_Keeper_hand : MetX P w K mg base 7 "Keeper" "hand" n_Keeper_hand []) (c_Keeper_of : MetX P w K mg base 6 "Keeper" "of" n_Keeper_of []) (c_l_between : CalD P w K mg base 6 "_law_between" n_l_between []) (c_l_four_times : CalD P w K mg base 5 "_law_four_times" n_l_four_times []) (c_l_norm : CalD P w K mg base 5 "_law_norm" n_l_norm []) (c_l_ones : CalD P w K mg base 1 "_law_ones" n_l_ones []) (c_l_over : CalD P w K mg base 3 "_law_over" n_l_over []) (c_l_scaled : CalD P w K mg base 4 "_law_scaled" n_l_scaled []) : CalD P w K mg base 10 "_law_is_double" n_l_is_double [] :=
  cal_def h sc_l_is_double rfl rfl rfl fun f cdv A outer s H0 E hr =>
(dss_cons (ds_if (PW.pt (dw_or (dt_not (dt_val (de_isOwn H.s_Keeper rfl rfl (by rfl) H.b_isinstance (xv 3) (by rfl)))) (dw_or (dt_neI (c_Form_eq.mono (k := 8) (by exact of_decide_eq_true rfl)) H.e_Form hr rfl rfl (de_attr H.n_Keeper (by simp) rfl (xv 3)) (de_fz (de_makeK (c_Form_init.kw 1 ["ground"] 0 (fun _ _ _ _ _ _ _ us its ws h1 h2 h3 => match us, its, ws, h1, h2, h3 with | [_, _], [_], [_], _, _, _ => ⟨_, rfl, rfl⟩)) hr (by rfl) rfl rfl takesF (da_cons (de_call (c_l_ones.mono (by exact of_decide_eq_true rfl)) hr (by rfl) rfl rfl rfl (dv_val false de_int dv_nil)) da_nil) (dka_cons (xv 0) dka_nil))) (nomark _)) (dw_or1 (dt_cmp (op_neD hr.units) o2_ne (de_meth0 (c_Keeper_hand.mono (k := 9) (by exact of_decide_eq_true rfl)) hr rfl rfl takesF (xv 3)) de_int (nomark _))))))
  (dss_one (ds_ret de_bl))
  dss_nil)
  (dss_cons (ds_set (i := 5) false sc_l_is_double.nd rfl (by first | exact Or.inl rfl | exact Or.inr rfl) (by exact of_decide_eq_true rfl) (de_call (c_l_over.mono (by exact of_decide_eq_true rfl)) hr (by rfl) rfl rfl rfl (dv_val false (xv 0) (dv_val false (de_tup (da_cons de_int (da_cons de_int da_nil))) (dv_val false (de_call (c_l_norm.mono (by exact of_decide_eq_true rfl)) hr (by rfl) rfl rfl rfl (dv_val false (xv 0) (dv_val false (xv 1) dv_nil))) dv_nil)))))
  (dss_cons (ds_set (i := 6) false sc_l_is_double.nd rfl (by first | exact Or.inl rfl | exact Or.inr rfl) (by exact of_decide_eq_true rfl) (de_call (c_l_scaled.mono (by exact of_decide_eq_true rfl)) hr (by rfl) rfl rfl rfl (dv_val false (xv 0) (dv_val false (de_call (c_l_four_times.mono (by exact of_decide_eq_true rfl)) hr (by rfl) rfl rfl rfl (dv_val false (xv 0) (dv_val false (de_call (c_l_four_times.mono (by exact of_decide_eq_true rfl)) hr (by rfl) rfl rfl rfl (dv_val false (xv 0) (dv_val false (xv 1) (dv_val false (xv 4) dv_nil)))) (dv_val false (xv 2) dv_nil)))) (dv_val false (xv 5) dv_nil)))))
  (dss_one (ds_ret (de_and (de_cmp (op_eqD hr.units) o2_eq (de_attr H.n_Keeper (by simp) rfl (xv 3)) (de_call (c_l_between.mono (by exact of_decide_eq_true rfl)) hr (by rfl) rfl rfl rfl (dv_val false (xv 0) (dv_val false (xv 1) (dv_val false (xv 2) dv_nil)))) (nomark _)) (de_one (de_cmp (op_eqD hr.units) o2_eq (de_meth (c_Keeper_of.mono (k := 9) (by exact of_decide_eq_true rfl)) hr rfl rfl takesF (xv 3) (dv_val false (xv 4) dv_nil)) (xv 6) (nomark _)))))))))
theorem ok_Keeper_back (H : Facts K mg) (h : Met0 K mg "Keeper" "back" "Keeper.back" s_Keeper_back ["self"]) (c_Keeper_init : MkC P w K mg base 8 "Keeper" n_Keeper_init []) (c_back : CalD P w K mg base 8 "back" n_back []) : MetX P w K mg base 10 "Keeper" "back" n_Keeper_back [] :=
  met_def h sc_Keeper_back rfl rfl rfl fun f cdv A outer s H0 E hr tk =>
(dss_one (ds_ret (de_make c_Keeper_init hr (by rfl) rfl rfl tk (da_cons (de_attr H.n_Keeper (by simp) rfl (xv 0)) (da_cons (de_callN ((c_back.mono (k := 9) (by exact of_decide_eq_true rfl)).alias H.l_back_tables) hr (by rfl) rfl rfl (dv_val false (de_attr H.n_Form (by simp) rfl (de_attr H.n_Keeper (by simp) rfl (xv 0))) (dv_val false (de_attr H.n_Keeper (by simp) rfl (xv 0)) dv_nil))) da_nil)))))
theorem ok_Keeper_then (H : Facts K mg) (h : Met0 K mg "Keeper" "then" "Keeper.then" s_Keeper_then ["self", "other"]) (c_Form_eq : MetX P w K mg base 1 "Form" "__eq__" n_Form_eq []) (c_Keeper_init : MkC P w K mg base 8 "Keeper" n_Keeper_init []) (c_product : CalD P w K mg base 6 "product" n_product []) : MetX P w K mg base 10 "Keeper" "then" n_Keeper_then [] :=
  met_def h sc_Keeper_then rfl rfl rfl fun f cdv A outer s H0 E hr tk =>
(dss_cons (ds_if (dt_not (dt_val (de_isOwn H.s_Keeper rfl rfl (by rfl) H.b_isinstance (xv 1) (by rfl))))
  (dss_one ds_bad0)
  dss_nil)
  (dss_cons (ds_if (dt_neI (c_Form_eq.mono (k := 8) (by exact of_decide_eq_true rfl)) H.e_Form hr rfl rfl (de_attr H.n_Keeper (by simp) rfl (xv 1)) (de_attr H.n_Keeper (by simp) rfl (xv 0)) (nomark _))
  (dss_one ds_bad0)
  dss_nil)
  (dss_one (ds_ret (de_make c_Keeper_init hr (by rfl) rfl rfl tk (da_cons (de_attr H.n_Keeper (by simp) rfl (xv 0)) (da_cons (de_callN (c_product.mono (by exact of_decide_eq_true rfl)) hr (by rfl) rfl rfl (dv_val false (de_attr H.n_Form (by simp) rfl (de_attr H.n_Keeper (by simp) rfl (xv 0))) (dv_val false (de_attr H.n_Keeper (by simp) rfl (xv 0)) (dv_val false (de_attr H.n_Keeper (by simp) rfl (xv 1)) dv_nil)))) da_nil)))))))
theorem ok_double_turn (H : Facts K mg) (h : Def0 K mg "double_turn" s_double_turn ["ground", "one", "other"]) (c_Keeper_init : MkC P w K mg base 8 "Keeper" n_Keeper_init []) (c_between : CalD P w K mg base 6 "between" n_between []) (c_look_four : CalD P w K mg base 5 "look_four" n_look_four []) (c_norm_of : CalD P w K mg base 4 "norm_of" n_norm_of []) (c_squares : CalD P w K mg base 10 "squares" n_squares []) : CalD P w K mg base 11 "double_turn" n_double_turn [] :=
  cal_def h sc_double_turn rfl rfl rfl fun f cdv A outer s H0 E hr =>
(dss_cons (ds_expr (de_call (c_look_four.mono (by exact of_decide_eq_true rfl)) hr (by rfl) rfl rfl rfl (dv_val false (xv 0) (dv_val false (xv 1) dv_nil))))
  (dss_cons (ds_expr (de_call (c_look_four.mono (by exact of_decide_eq_true rfl)) hr (by rfl) rfl rfl rfl (dv_val false (xv 0) (dv_val false (xv 2) dv_nil))))
  (dss_cons (ds_if (dt_cmp (op_neD hr.units) o2_ne (de_call (c_norm_of.mono (by exact of_decide_eq_true rfl)) hr (by rfl) rfl rfl rfl (dv_val false (xv 0) (dv_val false (xv 1) dv_nil))) (de_call (c_norm_of.mono (by exact of_decide_eq_true rfl)) hr (by rfl) rfl rfl rfl (dv_val false (xv 0) (dv_val false (xv 2) dv_nil))) (nomark _))
  (dss_one ds_bad0)
  dss_nil)
  (dss_one (ds_ret (de_make (c_Keeper_init.mono (k := 9) (by exact of_decide_eq_true rfl)) hr (by rfl) rfl rfl takesF (da_cons (de_call c_squares hr (by rfl) rfl rfl rfl (dv_val false (xv 0) (dv_val false (de_globC H.g_PARTS (by rfl) rfl rfl) dv_nil))) (da_cons (de_callTy call_tuple_of on_tuple (by rfl) H.b_tuple (by decide +kernel) (da_cons (de_call (c_between.mono (by exact of_decide_eq_true rfl)) hr (by rfl) rfl rfl rfl (dv_val false (xv 0) (dv_val false (xv 1) (dv_val false (xv 2) dv_nil)))) da_nil)) da_nil))))))))
theorem ok_law (H : Facts K mg) {f : Addr} {fd : FuncData} (h : Def K mg "law" s_law ["_law_script"] f fd) (c_Keeper_eq : MetX P w K mg base 2 "Keeper" "__eq__" n_Keeper_eq []) (c_Keeper_back : MetX P w K mg base 10 "Keeper" "back" n_Keeper_back []) (c_Keeper_then : MetX P w K mg base 10 "Keeper" "then" n_Keeper_then []) (c_l_bag : CalD P w K mg base 1 "_law_bag" n_l_bag []) (c_l_four : CalD P w K mg base 6 "_law_four" n_l_four []) (c_l_ground : CalD P w K mg base 2 "_law_ground" n_l_ground []) (c_l_is_double : CalD P w K mg base 10 "_law_is_double" n_l_is_double []) (c_l_like : CalD P w K mg base 7 "_law_like" n_l_like []) (c_l_minus : CalD P w K mg base 3 "_law_minus" n_l_minus []) (c_l_row : CalD P w K mg base 4 "_law_row" n_l_row []) (c_l_scaled : CalD P w K mg base 4 "_law_scaled" n_l_scaled []) (c_l_turned_four : CalD P w K mg base 4 "_law_turned_four" n_l_turned_four []) (c_double_turn : CalD P w K mg base 11 "double_turn" n_double_turn []) (c_four_times : CalD P w K mg base 5 "four_times" n_four_times []) : FnOk P w K mg base CX0 12 f fd ["_law_script"] (fun vs H Q _ => spD K mg n_law vs H Q fun _ _ _ => False) :=
  fn_def h sc_law rfl rfl rfl fun cdv A outer s H0 E hr =>
(dss_cons (ds_for (sl := [1]) PassesOwn.never rfl (di_rng1 (by rfl) H.b_range (de_callB (call_max2 rfl) on_i2 (by rfl) H.b_max (by decide +kernel) (da_cons de_int (da_cons (de_callB (call_min2 rfl) on_i2 (by rfl) H.b_min (by decide +kernel) (da_cons de_int (da_cons (de_callB cl_len on_len (by rfl) H.b_len PySem.boot_len (da_cons (xv 0) da_nil)) da_nil))) da_nil)))) (dg_name (i := 1) (by exact of_decide_eq_true rfl) sc_law.nd rfl (by first | exact Or.inl rfl | exact Or.inr rfl) (by exact of_decide_eq_true rfl))
  (dss_cons (ds_set (i := 2) true sc_law.nd rfl (by first | exact Or.inl rfl | exact Or.inr rfl) (by exact of_decide_eq_true rfl) (de_call (c_l_bag.mono (by exact of_decide_eq_true rfl)) hr (by rfl) rfl rfl rfl (dv_val false (xv 0) (dv_val false (xv 1) dv_nil))))
  (dss_cons (ds_set (i := 3) false sc_law.nd rfl (by first | exact Or.inl rfl | exact Or.inr rfl) (by exact of_decide_eq_true rfl) (de_call (c_l_ground.mono (by exact of_decide_eq_true rfl)) hr (by rfl) rfl rfl rfl (dv_ref (i := 2) rfl (by first | exact Or.inl rfl | exact Or.inr (Or.inl rfl) | exact Or.inr (Or.inr rfl)) dv_nil)))
  (dss_cons (ds_par3 (i := 4) (j := 5) (l := 6) false false false rfl sc_law.nd rfl rfl rfl (by exact of_decide_eq_true rfl) (by exact of_decide_eq_true rfl) (by exact of_decide_eq_true rfl) rfl rfl rfl (de_call (c_l_four.mono (by exact of_decide_eq_true rfl)) hr (by rfl) rfl rfl rfl (dv_ref (i := 2) rfl (by first | exact Or.inl rfl | exact Or.inr (Or.inl rfl) | exact Or.inr (Or.inr rfl)) (dv_val false (xv 3) dv_nil))) (de_call (c_l_four.mono (by exact of_decide_eq_true rfl)) hr (by rfl) rfl rfl rfl (dv_ref (i := 2) rfl (by first | exact Or.inl rfl | exact Or.inr (Or.inl rfl) | exact Or.inr (Or.inr rfl)) (dv_val false (xv 3) dv_nil))) (de_call (c_l_row.mono (by exact of_decide_eq_true rfl)) hr (by rfl) rfl rfl rfl (dv_ref (i := 2) rfl (by first | exact Or.inl rfl | exact Or.inr (Or.inl rfl) | exact Or.inr (Or.inr rfl)) (dv_val false (xv 3) (dv_val false de_int dv_nil)))) (by exact of_decide_eq_true rfl) (by exact of_decide_eq_true rfl) (by exact of_decide_eq_true rfl) (by rfl))
  (dss_cons (ds_par (i := 7) (j := 8) false false rfl sc_law.nd rfl rfl (by exact of_decide_eq_true rfl) (by exact of_decide_eq_true rfl) rfl rfl (de_call (c_l_like.mono (by exact of_decide_eq_true rfl)) hr (by rfl) rfl rfl rfl (dv_ref (i := 2) rfl (by first | exact Or.inl rfl | exact Or.inr (Or.inl rfl) | exact Or.inr (Or.inr rfl)) (dv_val false (xv 3) (dv_val false (xv 4) dv_nil)))) (de_call (c_l_like.mono (by exact of_decide_eq_true rfl)) hr (by rfl) rfl rfl rfl (dv_ref (i := 2) rfl (by first | exact Or.inl rfl | exact Or.inr (Or.inl rfl) | exact Or.inr (Or.inr rfl)) (dv_val false (xv 3) (dv_val false (xv 5) dv_nil)))) (by exact of_decide_eq_true rfl) (by rfl))
  (dss_cons (ds_par (i := 9) (j := 10) false false rfl sc_law.nd rfl rfl (by exact of_decide_eq_true rfl) (by exact of_decide_eq_true rfl) rfl rfl (de_call c_double_turn hr (by rfl) rfl rfl rfl (dv_val false (xv 3) (dv_val false (xv 4) (dv_val false (xv 7) dv_nil)))) (de_call c_double_turn hr (by rfl) rfl rfl rfl (dv_val false (xv 3) (dv_val false (xv 5) (dv_val false (xv 8) dv_nil)))) (by exact of_decide_eq_true rfl) (by rfl))
  (dss_cons (ds_if (PW.pt (dw_or (dt_not (dt_val (de_call (c_l_is_double.mono (by exact of_decide_eq_true rfl)) hr (by rfl) rfl rfl rfl (dv_val false (xv 3) (dv_val false (xv 4) (dv_val false (xv 7) (dv_val false (xv 9) (dv_val false (xv 6) dv_nil)))))))) (dw_or1 (dt_not (dt_val (de_call (c_l_is_double.mono (by exact of_decide_eq_true rfl)) hr (by rfl) rfl rfl rfl (dv_val false (xv 3) (dv_val false (xv 5) (dv_val false (xv 8) (dv_val false (xv 10) (dv_val false (xv 6) dv_nil)))))))))))
  (dss_one (ds_ret de_bl))
  dss_nil)
  (dss_cons (ds_if (dt_neI (c_Keeper_eq.mono (k := 10) (by exact of_decide_eq_true rfl)) H.e_Keeper hr rfl rfl (de_fz (de_call c_double_turn hr (by rfl) rfl rfl rfl (dv_val false (xv 3) (dv_val false (de_call (c_four_times.mono (by exact of_decide_eq_true rfl)) hr (by rfl) rfl rfl rfl (dv_val false (xv 3) (dv_val false (xv 5) (dv_val false (xv 4) dv_nil)))) (dv_val false (de_call (c_four_times.mono (by exact of_decide_eq_true rfl)) hr (by rfl) rfl rfl rfl (dv_val false (xv 3) (dv_val false (xv 7) (dv_val false (xv 8) dv_nil)))) dv_nil))))) (de_fz (de_meth (c_Keeper_then.mono (k := 11) (by exact of_decide_eq_true rfl)) hr rfl rfl takesF (xv 9) (dv_val false (xv 10) dv_nil))) (nomark _))
  (dss_one (ds_ret de_bl))
  dss_nil)
  (dss_cons (ds_if (dt_neI (c_Keeper_eq.mono (k := 10) (by exact of_decide_eq_true rfl)) H.e_Keeper hr rfl rfl (de_fz (de_call c_double_turn hr (by rfl) rfl rfl rfl (dv_val false (xv 3) (dv_val false (de_call (c_l_turned_four.mono (by exact of_decide_eq_true rfl)) hr (by rfl) rfl rfl rfl (dv_val false (xv 3) (dv_val false (xv 4) dv_nil))) (dv_val false (de_call (c_l_turned_four.mono (by exact of_decide_eq_true rfl)) hr (by rfl) rfl rfl rfl (dv_val false (xv 3) (dv_val false (xv 7) dv_nil))) dv_nil))))) (de_fz (de_meth0 (c_Keeper_back.mono (k := 11) (by exact of_decide_eq_true rfl)) hr rfl rfl takesF (xv 9))) (nomark _))
  (dss_one (ds_ret de_bl))
  dss_nil)
  (dss_cons (ds_set (i := 11) false sc_law.nd rfl (by first | exact Or.inl rfl | exact Or.inr rfl) (by exact of_decide_eq_true rfl) (de_call (c_l_minus.mono (by exact of_decide_eq_true rfl)) hr (by rfl) rfl rfl rfl (dv_val false (xv 3) (dv_val false (de_tup (da_cons de_int (da_cons de_int da_nil))) dv_nil))))
  (dss_cons (ds_if (dt_neI (c_Keeper_eq.mono (k := 10) (by exact of_decide_eq_true rfl)) H.e_Keeper hr rfl rfl (de_fz (de_call c_double_turn hr (by rfl) rfl rfl rfl (dv_val false (xv 3) (dv_val false (de_call (c_l_scaled.mono (by exact of_decide_eq_true rfl)) hr (by rfl) rfl rfl rfl (dv_val false (xv 3) (dv_val false (xv 4) (dv_val false (xv 11) dv_nil)))) (dv_val false (de_call (c_l_scaled.mono (by exact of_decide_eq_true rfl)) hr (by rfl) rfl rfl rfl (dv_val false (xv 3) (dv_val false (xv 7) (dv_val false (xv 11) dv_nil)))) dv_nil))))) (xv 9) (nomark _))
  (dss_one (ds_ret de_bl))
  dss_nil)
  (dss_one (ds_if (PW.pt (dw_or (dt_neI (c_Keeper_eq.mono (k := 10) (by exact of_decide_eq_true rfl)) H.e_Keeper hr rfl rfl (de_fz (de_call c_double_turn hr (by rfl) rfl rfl rfl (dv_val false (xv 3) (dv_val false (xv 4) (dv_val false (xv 7) dv_nil))))) (xv 9) (nomark _)) (dw_or1 (dt_not (dt_val (de_call (c_l_is_double.mono (by exact of_decide_eq_true rfl)) hr (by rfl) rfl rfl rfl (dv_val false (xv 3) (dv_val false (xv 4) (dv_val false (xv 7) (dv_val false (xv 9) (dv_val false (xv 6) dv_nil)))))))))))
  (dss_one (ds_ret de_bl))
  dss_nil)))))))))))))
  (dss_one (ds_ret de_bl)))
end
end DD.K41

namespace DD.K41
open PySem PySem.Spec L2
open PyProof.Rows hiding St
local macro_rules | `(tactic| fail "w") => `(tactic| with_reducible first
  | (show Wp _ _ _; first
    | refine w_attr ?_ | refine w_setFld ?_ | refine w_isOwn ?_ | refine w_makeK ?_ | refine w_make ?_ | refine w_borM ?_ | refine w_fz ?_)
  | refine wr_nx ?_
  | refine wr_ret ?_
  | refine wb ?_
  | refine wix (by with_unfolding_all rfl) (by with_unfolding_all rfl) ?_
  | refine wap (by with_unfolding_all rfl) (by fail "z") ?_
  | refine wmm (by with_unfolding_all rfl) ?_
  | refine wst (by with_unfolding_all rfl) (by with_unfolding_all rfl) ?_
  | refine win ?_)
local macro_rules | `(tactic| fail "z") => `(tactic| first | (refine sz_of ?_; simp only [List.length_cons, List.length_nil, List.length_map, List.length_range, List.length_set, List.length_append, Int.reduceNeg, Int.reduceSub, Int.reduceToNat, Nat.reduceAdd, Nat.zero_add, Nat.reduceLT, Nat.reduceLeDiff, ne_eq, Nat.reduceEqDiff, not_false_eq_true]; done) | (refine szl_of ?_; simp only [List.length_cons, List.length_nil, List.length_map, List.length_range, List.length_set, List.length_append, Int.reduceNeg, Int.reduceSub, Int.reduceToNat, Nat.reduceAdd, Nat.zero_add, Nat.reduceLT, Nat.reduceLeDiff, ne_eq, Nat.reduceEqDiff, not_false_eq_true]; done) | (simp only [List.length_cons, List.length_nil, List.length_map, List.length_range, List.length_set, List.length_append, Int.reduceNeg, Int.reduceSub, Int.reduceToNat, Nat.reduceAdd, Nat.zero_add, Nat.reduceLT, Nat.reduceLeDiff, ne_eq, Nat.reduceEqDiff, not_false_eq_true]; done))
local macro_rules | `(tactic| fail "w") => `(tactic| with_reducible first | (show Wp _ _ _; first | refine w_var (by with_unfolding_all rfl) ?_ | refine w_vvalF ?_ | refine w_c ?_ | refine w_cons ?_ | refine w_op2 ?_ | refine w_nil ?_ | refine w_vnil ?_ | refine w_seq ?_ | refine w_call ?_ | refine w_test ?_ | refine w_setF ?_ | refine w_blt ?_ | refine w_ifS ?_ | refine w_ret ?_ | refine w_gset (by fail "z") ?_ | refine w_items ?_ | refine w_vref (by with_unfolding_all rfl) ?_ | refine w_comp ?_ | refine w_tup ?_ | refine w_op1 ?_ | refine w_orT ?_ | refine w_andT ?_ | refine w_notT ?_ | refine w_skip ?_ | refine w_expr ?_ | refine w_isi ?_ | refine w_lst ?_ | refine w_for ?_ | refine w_gtup (by with_unfolding_all rfl) ?_ | refine w_gcons ?_ | refine w_gnil ?_ | refine w_if ?_ | refine w_setT ?_ | refine w_frz (by with_unfolding_all rfl) ?_ | refine w_appendF (by with_unfolding_all rfl) ?_ | refine w_andV ?_ | refine w_orV ?_ | refine w_notV ?_ | refine w_ixOwn (by with_unfolding_all rfl) ?_ | refine w_lenOwn (by with_unfolding_all rfl) ?_ | refine wp_pure ?_ | refine w_rng1 ?_ | refine w_no ?_ | refine w_so ?_ | refine w_sl ?_ | refine w_parF ?_ | refine w_asg ?_ | refine w_compcons ?_ | refine w_compnil ?_ | refine w_raise ?_ | refine w_lam ?_ | refine w_step ?_ | refine w_par3 ?_ | refine w_rng2 ?_ | refine w_vvalT ?_ | refine w_extend (by with_unfolding_all rfl) ?_ | refine w_setitemF ?_ | refine w_move (by with_unfolding_all rfl) ?_ | refine w_fmt ?_ | refine w_jscons ?_ | refine w_jsnil ?_ | refine w_join ?_ | refine w_zip ?_ | refine w_zipS ?_ | refine w_enum ?_ | refine w_bor ?_ | refine w_borT ?_ | refine w_rev ?_ | refine w_chain ?_) | (show Wf _ _ _; first | refine wf_nx ?_ | refine wf_ret ?_ | refine wf_bk ?_ | refine wf_ct ?_) | (show Wo _ _; first | refine wo_some ?_ | refine ix_at (by with_unfolding_all rfl) (by with_unfolding_all rfl) ?_ | refine wo_eqI ?_ | refine wo_neI ?_ | refine wo_add ?_ | refine wo_sub ?_ | refine wo_gt ?_ | refine wo_lt ?_ | refine wo_lenT ?_ | refine wo_lenL ?_ | refine wo_lenM ?_ | refine wo_neg ?_ | refine wo_le ?_ | refine wo_ge ?_ | refine wo_notB ?_ | refine wo_isB ?_ | refine wo_abs ?_ | refine wo_lenF ?_ | refine wo_mod (by omega) ?_ | refine wo_div (divc64 (by omega) (by omega) (by omega)) ?_ | refine wo_mul (mulc64 (by omega) (by omega) (by omega) (by omega)) ?_ | refine wo_pow (cpow64 (by omega) (by omega) (by omega) (by omega)) ?_) | (show Wk _ _ _; first | refine wk_t ?_ | refine wk_f ?_ | refine wk_n ?_) | (show And _ _; first | refine And.intro (by fail "z") ?_ | refine And.intro (And.intro (by fail "z") (And.intro (by fail "z") (by fail "z"))) ?_) | (show Wlp _ _ _ _; first | refine wl_nx ?_ | refine wl_ct ?_ | refine wl_bk ?_ | refine wl_ret ?_))
local macro_rules | `(tactic| fail "e") => `(tactic| simp only [List.map_cons, List.map_nil, List.replicate, List.cons_append, List.nil_append, List.append_nil, List.set_cons_zero, List.set_cons_succ, List.set_nil, A.frz, frzs_v, frzs, Nat.reduceSub, gath, back, List.getElem?_cons_zero, List.getElem?_cons_succ, Option.map_some, lentL, List.contains_cons, List.contains_nil, List.elem_nil, List.elem_cons, Nat.reduceAdd, Nat.reduceBEq, Bool.or_false, Bool.or_true, Bool.false_or, Bool.true_or, beq_self_eq_true, if_true, if_false, reduceIte, Bool.false_eq_true, Int.reduceToNat, iBool_bl, iBool_int, iInt_bl, iInt_int, isI_int, isI_bl, iTup_tup, iTup_lst, iTup_int, Int.reducePow, List.getElem?_nil, wipeE, wipeF, parkL, putL, Nat.reduceLT, Nat.reduceLeDiff, frzE])
local macro_rules | `(tactic| fail "s") => `(tactic| repeat (first | fail "w" | fail "e"))
local macro_rules | `(tactic| fail "t") => `(tactic| refine take_s (by omega) (by omega) (by omega) (by omega) (by omega) ?_)
theorem take_s {a b k : Int} {Q : A → List A → Prop} {E : Ex → List A → Prop} (ha : 0 ≤ a) (hb : 0 ≤ b) (hb2 : b < 2147483647) (hk : 0 < k) (hk2 : k ≤ 10000000000)
    (q : ∀ d a' b', 0 ≤ a' → 0 ≤ b' → b' < 2147483647 → 0 ≤ d → d < k → Q (.v (.int d)) [.m [.v (.int a'), .v (.int b')], .v (.int k)]) :
    Wc (n_l_take [.m [.v (.int a), .v (.int b)], .v (.int k)]) Q E := by
  refine wc_fn rfl rfl ?_
  unfold b_l_take
  fail "e"
  repeat fail "w"
  refine wk_d (fun h => ?_) (fun h => ?_)
  · repeat fail "w"
    fail "e"
    have h1 := fmod_range (i := a) hk
    have h2 := fdiv_range ha hk
    exact wo_some (q _ _ _ (by omega) hb hb2 (by omega) (by omega))
  · repeat fail "w"
    fail "e"
    have h1 := fmod_range (i := b * 48271 + 2531011) (j := 2147483647) (by omega)
    repeat fail "w"
    fail "e"
    have h2 := fmod_range (i := (((b * 48271 + 2531011).fmod 2147483647 ^ 3).fmod 2147483629).fdiv 64) hk
    exact wo_some (q _ _ _ (by omega) (by omega) (by omega) (by omega) (by omega))

local macro_rules | `(tactic| fail "t") => `(tactic| refine take_s (by omega) (by omega) (by omega) (by omega) (by omega) ?_)
theorem bag_s {ns : List Int} {at_ : Int} {Q : A → List A → Prop} {E : Ex → List A → Prop} (h0 : 0 ≤ at_) (h1 : at_ < 1000)
    (q : ∀ a b, 0 ≤ a → 0 ≤ b → b < 2147483647 → Q (.m [.v (.int a), .v (.int b)]) [script ns, .v (.int at_)]) : Wc (n_l_bag [script ns, .v (.int at_)]) Q E := by
  refine wc_fn rfl rfl ?_
  unfold b_l_bag script
  fail "e"
  iterate 5 fail "w"
  fail "e"
  refine w_seqJ (fun ρ1 => ∃ c, ρ1 = [some (.v (.fz (ns.map .int))), some (.v (.int at_)), some (.v (.int c)), none, none, none]) ?_ ?_
  · repeat fail "w"
    refine wk_d (fun h => ?_) (fun h => ?_)
    · repeat fail "w"
      refine wo_ix rfl h0 h fun d hd => ?_
      obtain ⟨z, _, rfl⟩ := List.mem_map.mp hd
      repeat fail "w"
      exact ⟨_, rfl⟩
    · repeat fail "w"
      exact ⟨_, rfl⟩
  · rintro _ ⟨cell, rfl⟩
    have hk := fmod_range (i := cell) (j := 2147483647) (by omega)
    have h8 := fmod_range (i := at_) (j := 8) (by omega)
    repeat fail "w"
    refine wk_d (fun h => ?_) (fun h => ?_)
    all_goals
      repeat fail "w"
      fail "e"
      refine wo_ixI (fun p => 0 < p ∧ p ≤ 2147483647) rfl h8.1 h8.2 (by simp) fun p hp => ?_
      have hm := fmod_range (i := cell.fmod 2147483647 * 69623 + 104729 * at_ * at_ + 7919 * at_ + 12345) hp.1
      repeat fail "w"
      fail "e"
      exact wo_some (q _ _ (by omega) (by omega) (by omega))
theorem is_whole_s {d : D} {Q : A → List A → Prop} {E : Ex → List A → Prop} (hd : kindD d ≠ "") (q : Q (.v (.bl (isI d))) [.v d]) : Wc (n_is_whole [.v d]) Q E := by
  refine wc_fn rfl rfl ?_
  unfold b_is_whole
  fail "e"
  repeat fail "w"
  refine wo_isInt hd ?_
  repeat fail "w"
  refine wk_b (fun h => ?_) (fun h => ?_)
  · repeat fail "w"
    refine wo_isBool hd ?_
    repeat fail "w"
    fail "e"
    rw [isI_eq h]
    exact wo_some q
  · repeat fail "w"
    rw [isI_f h]
    exact wo_some q
theorem shared_s {a b : Int} {Q : A → List A → Prop} {E : Ex → List A → Prop} (q : Q (.v (.int (Int.gcd a b))) [.v (.int a), .v (.int b)]) : Wc (n_shared [.v (.int a), .v (.int b)]) Q E := by
  refine wc_fn rfl rfl ?_
  unfold b_shared b_shared_1
  fail "e"
  repeat fail "w"
  fail "e"
  refine w_while (fun n ρ => ∃ x y : Nat, ρ = [some (.v (.int x)), some (.v (.int y))] ∧ Nat.gcd x y = Int.gcd a b ∧ y = n) ⟨_, _, rfl, rfl, rfl⟩ fun n ρ ⟨x, y, e1, e2, e3⟩ => ?_
  subst e1 e3
  repeat fail "w"
  refine wk_d (fun h => ?_) (fun h => ?_)
  · repeat fail "w"
    fail "e"
    have hy : 0 < y := by omega
    refine ⟨x % y, Nat.mod_lt _ hy, y, x % y, ?_, ?_, rfl⟩
    · rw [Int.fmod_eq_emod_of_nonneg _ (by omega), ← Int.natCast_emod]
    · rw [← e2, Nat.gcd_comm x y, Nat.gcd_rec y x, Nat.gcd_comm]
  · repeat fail "w"
    have hy : y = 0 := by omega
    subst hy
    rw [Nat.gcd_zero_right] at e2
    subst e2
    exact wo_some q
theorem l_shared_s {a b : Int} {Q : A → List A → Prop} {E : Ex → List A → Prop} (q : Q (.v (.int (Int.gcd a b))) [.v (.int a), .v (.int b)]) : Wc (n_l_shared [.v (.int a), .v (.int b)]) Q E := by
  refine wc_fn rfl rfl ?_
  unfold b_l_shared b_l_shared_1
  fail "e"
  repeat fail "w"
  fail "e"
  refine w_while (fun n ρ => ∃ x y : Nat, ρ = [some (.v (.int x)), some (.v (.int y))] ∧ Nat.gcd x y = Int.gcd a b ∧ y = n) ⟨_, _, rfl, rfl, rfl⟩ fun n ρ ⟨x, y, e1, e2, e3⟩ => ?_
  subst e1 e3
  repeat fail "w"
  refine wk_d (fun h => ?_) (fun h => ?_)
  · repeat fail "w"
    fail "e"
    have hy : 0 < y := by omega
    refine ⟨x % y, Nat.mod_lt _ hy, y, x % y, ?_, ?_, rfl⟩
    · rw [Int.fmod_eq_emod_of_nonneg _ (by omega), ← Int.natCast_emod]
    · rw [← e2, Nat.gcd_comm x y, Nat.gcd_rec y x, Nat.gcd_comm]
  · repeat fail "w"
    have hy : y = 0 := by omega
    subst hy
    rw [Nat.gcd_zero_right] at e2
    subst e2
    exact wo_some q

def Gr (g : Int) : Prop := Grd g
theorem Gr.le {g : Int} (h : Gr g) : (g = 0 ∨ 2 ≤ g) ∧ g ≤ 13 := by unfold Gr Grd at h; omega
theorem ground_s {a b : Int} {Q : A → List A → Prop} {E : Ex → List A → Prop} (ha : 0 ≤ a) (hb : 0 ≤ b) (hb2 : b < 2147483647)
    (q : ∀ g a' b', 0 ≤ a' → 0 ≤ b' → b' < 2147483647 → Gr g → Q (.v (.int g)) [.m [.v (.int a'), .v (.int b')]]) : Wc (n_l_ground [.m [.v (.int a), .v (.int b)]]) Q E := by
  refine wc_fn rfl rfl ?_
  unfold b_l_ground
  fail "s"
  fail "t"
  intro d a1 b1 ha1 hb1 hb11 h0 h1
  fail "s"
  refine wo_ixM (fun i => i = 7 ∨ i = 11 ∨ i = 13) h0 h1 (by simp) fun g hg => ?_
  fail "s"
  fail "t"
  intro d2 a2 b2 ha2 hb2 hb21 h20 h21
  fail "s"
  refine wo_ixM Gr h20 h21 (by simp [Gr, Grd]; omega) fun g hg => ?_
  fail "s"
  exact q _ _ _ ha2 hb2 hb21 hg
theorem sgn_ix2 {w : Int} {P : A → Prop} (k : P (.v (.int (if w < 0 then -1 else 1)))) : Wo (opIx (.m [.v (.int 1), .v (.int (-1))]) (.v (.int (if decide (w < 0) = true then 1 else 0)))) P := by
  by_cases h : w < 0
  · rw [if_pos (decide_eq_true h)]
    rw [if_pos h] at k
    exact wo_eq rfl k
  · rw [if_neg (by simpa using h)]
    rw [if_neg h] at k
    exact wo_eq rfl k
/-- a quotient of few figures -/
theorem divC_of {u c x : Int} (hc : c ≠ 0) (e : u = c * x) (hx : Bd 4300 x) : DivC u c := by
  refine ⟨hc, .inr ?_⟩
  subst e
  rw [Int.natAbs_mul]
  generalize ha : c.natAbs = a
  have ha0 : a ≠ 0 := by omega
  unfold Bd at hx
  generalize x.natAbs = b at hx
  by_cases hb : b = 0
  · subst hb
    rw [Nat.mul_zero]
    have : Nat.log2 0 = 0 := by decide
    omega
  · have h1 : a < 2 ^ (a.log2 + 1) := (Nat.log2_lt ha0).mp (Nat.lt_succ_self _)
    have h2 : a * b < 2 ^ (a.log2 + 1 + 4300) := by
      rw [Nat.pow_add]
      exact Nat.mul_lt_mul'' h1 hx
    have := (Nat.log2_lt (Nat.mul_ne_zero ha0 hb)).mpr h2
    omega
theorem cmn_dvd {u w : Int} : cmn u w ∣ u ∧ cmn u w ∣ w := by
  unfold cmn
  split
  · rw [Int.mul_neg, Int.mul_one]
    exact ⟨Int.neg_dvd.mpr (Int.gcd_dvd_left ..), Int.neg_dvd.mpr (Int.gcd_dvd_right ..)⟩
  · rw [Int.mul_one]
    exact ⟨Int.gcd_dvd_left .., Int.gcd_dvd_right ..⟩
theorem fdiv_back {u c : Int} (hc : c ≠ 0) (h : c ∣ u) : u = c * u.fdiv c := by
  rw [Int.fdiv_eq_ediv_of_dvd h, Int.mul_ediv_cancel' h]
theorem canon_parts {u w x y : Int} (hw : w ≠ 0) (e : canon 0 u w = dN x y) (hx : Bd 4300 x) (hy : Bd 4300 y) : DivC u (cmn u w) ∧ DivC w (cmn u w) := by
  have hc := cmn_ne (u := u) hw
  unfold canon at e
  rw [if_neg (by decide)] at e
  obtain ⟨e1, e2⟩ := dN_inj e
  exact ⟨divC_of hc (fdiv_back hc cmn_dvd.1) (by rw [e1]; exact hx), divC_of hc (fdiv_back hc cmn_dvd.2) (by rw [e2]; exact hy)⟩
theorem gcd_bd {n : Nat} {u w : Int} (hw : Bd n w) (h0 : w ≠ 0) : Bd n (Int.gcd u w) := hw.le (by simpa using Nat.le_of_dvd (by omega) (Int.gcd_dvd_natAbs_right u w))
theorem l_low_s {g u w x y : Int} {Q : A → List A → Prop} {E : Ex → List A → Prop} (hg : g = 0 ∨ 2 ≤ g) (hg2 : g ≤ 13) (hw : Bd 9000 w) (ok : okd g w) (e : canon g u w = dN x y) (hx : Bd 4300 x) (hy : Bd 4300 y)
    (q : Q (.v (dN x y)) [.v (.int g), .v (.int u), .v (.int w)]) : Wc (n_l_low [.v (.int g), .v (.int u), .v (.int w)]) Q E := by
  refine wc_fn rfl rfl ?_
  unfold b_l_low b_l_low_1
  rcases hg with rfl | hg
  · unfold okd at ok
    rw [if_neg (by decide)] at ok
    obtain ⟨d1, d2⟩ := canon_parts ok e hx hy
    rw [← e] at q
    fail "s"
    refine wk_d (fun h => absurd h (by decide)) (fun _ => ?_)
    fail "s"
    refine l_shared_s ?_
    fail "s"
    refine wo_eq rfl ?_
    fail "s"
    refine sgn_ix2 ?_
    have h2 := gcd_bd (u := u) hw ok
    have hs : Bd 1 (if w < 0 then -1 else 1) := by split <;> unfold Bd <;> decide
    fail "s"
    refine wo_mul (h2.mulC hs (by omega)) ?_
    unfold canon at q
    rw [if_neg (by decide)] at q
    change DivC u ((Int.gcd u w : Int) * (if w < 0 then -1 else 1)) at d1
    change DivC w ((Int.gcd u w : Int) * (if w < 0 then -1 else 1)) at d2
    change Q (.v (dN (u.fdiv ((Int.gcd u w : Int) * (if w < 0 then -1 else 1))) (w.fdiv ((Int.gcd u w : Int) * (if w < 0 then -1 else 1))))) _ at q
    fail "s"
    refine wo_div d1 ?_
    fail "s"
    refine wo_div d2 ?_
    fail "s"
    exact q
  · unfold okd at ok
    rw [if_pos (by omega)] at ok
    subst ok
    rw [← e] at q
    unfold canon at q
    rw [if_pos (by omega)] at q
    have hr := fmod_range (i := u) (j := g) (by omega)
    fail "s"
    refine wk_d (fun _ => ?_) (fun h => absurd (by omega) h)
    fail "s"
    refine ⟨⟨by omega, by omega⟩, ?_⟩
    refine w_forL (fun ds ρ => (∃ x, ρ = [some (.v (.int g)), some (.v (.int u)), some (.v (.int 1)), x, none]) ∧ (∀ d ∈ ds, ∃ z : Int, d = .int z ∧ 0 ≤ z ∧ z < g) ∧ D.int (u.fmod g) ∈ ds) ⟨⟨_, rfl⟩, ?_, ?_⟩ ?_ ?_
    · intro d hd
      obtain ⟨i, hi, rfl⟩ := List.mem_map.mp hd
      have := List.mem_range.mp hi
      exact ⟨_, rfl, by omega, by omega⟩
    · refine List.mem_map.mpr ⟨(u.fmod g).toNat, List.mem_range.mpr (by omega), ?_⟩
      rw [Int.toNat_of_nonneg hr.1]
    · rintro d ds _ ⟨⟨x, rfl⟩, hds, hm⟩
      obtain ⟨z, rfl, hz0, hz⟩ := hds d (by simp)
      fail "s"
      have hz1 : (z * 1).fmod g = z := by rw [Int.mul_one, Int.fmod_eq_of_lt hz0 hz]
      rw [hz1]
      refine wk_d (fun h => ?_) (fun h => ?_)
      · fail "s"
        rw [← h] at q
        exact q
      · fail "s"
        refine ⟨⟨_, rfl⟩, fun d hd => hds d (List.mem_cons_of_mem _ hd), ?_⟩
        rcases List.mem_cons.mp hm with e | e
        · cases e; exact absurd rfl h
        · exact e
    · rintro _ ⟨⟨x, rfl⟩, _, hm⟩
      cases hm
/-- on a wheel, any bottom -/
theorem l_lowG_s {g u w z : Int} {Q : A → List A → Prop} {E : Ex → List A → Prop} (hg : 0 < g) (hg2 : g ≤ 13) (w0 : 0 < w) (w1 : w < g) (z0 : 0 ≤ z) (z1 : z < g) (hz : (z * w).fmod g = u.fmod g) (un : ∀ z' : Int, 0 ≤ z' → z' < g → (z' * w).fmod g = u.fmod g → z' = z)
    (q : Q (.v (dN z 1)) [.v (.int g), .v (.int u), .v (.int w)]) : Wc (n_l_low [.v (.int g), .v (.int u), .v (.int w)]) Q E := by
  refine wc_fn rfl rfl ?_
  unfold b_l_low b_l_low_1
  fail "s"
  refine wk_d (fun _ => ?_) (fun h => absurd (by omega) h)
  fail "s"
  refine ⟨⟨by omega, by omega⟩, ?_⟩
  refine w_forL (fun ds ρ => (∃ x, ρ = [some (.v (.int g)), some (.v (.int u)), some (.v (.int w)), x, none]) ∧ (∀ d ∈ ds, ∃ z : Int, d = .int z ∧ 0 ≤ z ∧ z < g) ∧ D.int z ∈ ds) ⟨⟨_, rfl⟩, ?_, ?_⟩ ?_ ?_
  · intro d hd
    obtain ⟨i, hi, rfl⟩ := List.mem_map.mp hd
    have := List.mem_range.mp hi
    exact ⟨_, rfl, by omega, by omega⟩
  · refine List.mem_map.mpr ⟨z.toNat, List.mem_range.mpr (by omega), ?_⟩
    rw [Int.toNat_of_nonneg z0]
  · rintro d ds _ ⟨⟨x, rfl⟩, hds, hm⟩
    obtain ⟨z', rfl, hz0', hz'⟩ := hds d (by simp)
    fail "s"
    refine wk_d (fun h => ?_) (fun h => ?_)
    · have := un z' hz0' hz' h
      subst this
      fail "s"
      exact q
    · fail "s"
      refine ⟨⟨_, rfl⟩, fun d hd => hds d (List.mem_cons_of_mem _ hd), ?_⟩
      rcases List.mem_cons.mp hm with e | e
      · cases e; exact absurd hz h
      · exact e
  · rintro _ ⟨⟨x, rfl⟩, _, hm⟩
    cases hm
theorem lowest_s {g u w x y : Int} {Q : A → List A → Prop} {E : Ex → List A → Prop} (hg : g = 0 ∨ 2 ≤ g) (hg2 : g ≤ 13) (ok : okd g w) (e : canon g u w = dN x y) (hx : Bd 4300 x) (hy : Bd 4300 y)
    (q : Q (.v (dN x y)) [.v (.int g), .v (.int u), .v (.int w)]) : Wc (n_lowest [.v (.int g), .v (.int u), .v (.int w)]) Q E := by
  refine wc_fn rfl rfl ?_
  unfold b_lowest
  rcases hg with rfl | hg
  · unfold okd at ok
    rw [if_neg (by decide)] at ok
    obtain ⟨d1, d2⟩ := canon_parts ok e hx hy
    rw [← e] at q
    fail "s"
    refine wk_d (fun h => absurd h (by decide)) (fun _ => ?_)
    fail "s"
    refine wk_d (fun h => absurd h (by decide)) (fun _ => ?_)
    fail "s"
    refine shared_s ?_
    unfold canon at q
    rw [if_neg (by decide)] at q
    repeat' (fail_if_success (with_reducible refine w_seq ?_)); first | fail "w" | fail "e"
    refine w_seqJ (fun ρ1 => ρ1 = [some (.v (.int 0)), some (.v (.int u)), some (.v (.int w)), some (.v (.int (cmn u w)))]) ?_ ?_
    · fail "s"
      refine wk_d (fun h => ?_) (fun h => ?_)
      · fail "s"
        unfold cmn
        rw [if_pos h]
        rw [Int.zero_sub, Int.mul_neg, Int.mul_one]
      · fail "s"
        unfold cmn
        rw [if_neg h, Int.mul_one]
    rintro _ rfl
    fail "s"
    refine wo_div d1 ?_
    fail "s"
    refine wo_div d2 ?_
    fail "s"
    exact q
  · unfold okd at ok
    rw [if_pos (by omega)] at ok
    subst ok
    rw [← e] at q
    unfold canon at q
    rw [if_pos (by omega)] at q
    fail "s"
    refine wk_d (fun _ => ?_) (fun h => absurd (by omega) h)
    fail "s"
    refine wk_d (fun _ => ?_) (fun h => absurd trivial h)
    fail "s"
    exact q
def rngI (g : Int) : List Int := (List.range g.toNat).map fun n : Nat => (n : Int)
theorem flt_comp {g : Int} {P : Int → Bool} {i : Nat} {ρ0 : DEnv} {QL : List A → DEnv → Prop} {E : Ex → DEnv → Prop} {t : M Bool} (k : QL (((rngI g).filter P).map fun z => A.v (.int z)) ρ0)
    (step : ∀ z : Int, 0 ≤ z → z < g → Wp (gSet i (.int z) ρ0) (fun _ ρ1 => Wp (t ρ1) (fun b ρ2 => b = P z ∧ Wp (dVar i ρ2) (fun a ρ3 => a = .v (.int z) ∧ wipeE ρ3 [i] = ρ0) E ∧ wipeE ρ2 [i] = ρ0) E) E) :
    Wp (compL [i] (gSet i) t (dVar i) ((List.range g.toNat).map fun n : Nat => D.int n) ρ0) QL E := by
  refine w_compL (fun l ds ρ => ρ = ρ0 ∧ ∃ pre suf : List Int, (∀ z ∈ suf, 0 ≤ z ∧ z < g) ∧ ds = suf.map D.int ∧ pre ++ suf = (List.range g.toNat).map (fun n : Nat => (n : Int)) ∧ l = (pre.filter P).map fun z => A.v (.int z)) (l := []) ?_ ?_ ?_
  · refine ⟨rfl, [], (List.range g.toNat).map (fun n : Nat => (n : Int)), ?_, by rw [List.map_map]; rfl, rfl, rfl⟩
    · intro z hz
      obtain ⟨n, hn, rfl⟩ := List.mem_map.mp hz
      have := List.mem_range.mp hn
      omega
  · rintro l d ds _ ⟨rfl, pre, suf, hs, e1, e2, rfl⟩
    cases suf with
    | nil => cases e1
    | cons z suf =>
      simp only [List.map_cons, List.cons.injEq] at e1
      obtain ⟨rfl, rfl⟩ := e1
      have hz := hs z (by simp)
      refine wp_mono (step z hz.1 hz.2) (fun _ ρ1 k1 => wp_mono k1 (fun b ρ2 k2 => ?_) fun _ _ x => x) fun _ _ x => x
      obtain ⟨rfl, k3, k4⟩ := k2
      have hs' : ∀ z ∈ suf, 0 ≤ z ∧ z < g := fun y hy => hs y (List.mem_cons_of_mem _ hy)
      refine ⟨fun c => wp_mono k3 (fun a ρ3 ⟨e3, e4⟩ => ?_) fun _ _ x => x, fun c => ?_⟩
      · subst e3
        refine ⟨e4, pre ++ [z], suf, hs', rfl, by rw [List.append_assoc]; exact e2, ?_⟩
        rw [List.filter_append, List.map_append]
        simp only [List.filter_cons, c, if_true, List.filter_nil, List.map_cons, List.map_nil]
      · refine ⟨k4, pre ++ [z], suf, hs', rfl, by rw [List.append_assoc]; exact e2, ?_⟩
        rw [List.filter_append, List.map_append]
        simp only [List.filter_cons, c, Bool.false_eq_true, if_false, List.filter_nil, List.map_nil, List.append_nil]
  · rintro l' ρ ⟨rfl, pre, suf, _, e1, e2, e3⟩
    cases suf with
    | cons _ _ => cases e1
    | nil =>
      rw [List.append_nil] at e2
      rw [List.nil_append] at e3
      rw [e3, e2]
      exact k
theorem contrary_on_s {g r : Int} {Q : A → List A → Prop} {E : Ex → List A → Prop} (hp : 0 < g) (hg2 : g ≤ 13) (h0 : 0 < r) (h1 : r < g) (iv : ∃ z : Int, 0 ≤ z ∧ z < g ∧ (z * r).fmod g = 1) (q : ∀ i, 0 ≤ i → i < g → (i * r).fmod g = 1 → Q (.v (.int i)) [.v (.int g), .v (.int r)]) :
    Wc (n_contrary_on [.v (.int g), .v (.int r)]) Q E := by
  refine wc_fn rfl rfl ?_
  unfold b_contrary_on
  fail "s"
  refine ⟨⟨by omega, by omega⟩, by simp [sizeLine]; omega, ?_⟩
  refine flt_comp (P := fun z => decide ((z * r).fmod g = 1)) ?_ ?_
  · obtain ⟨i, i0, i1, hi⟩ := iv
    have hm : i ∈ (rngI g).filter fun z => decide ((z * r).fmod g = 1) := by
      refine List.mem_filter.mpr ⟨List.mem_map.mpr ⟨i.toNat, List.mem_range.mpr (by omega), by omega⟩, decide_eq_true hi⟩
    have all : ∀ z ∈ (rngI g).filter fun z => decide ((z * r).fmod g = 1), 0 ≤ z ∧ z < g ∧ (z * r).fmod g = 1 := fun z hz => by
      obtain ⟨z1, z2⟩ := List.mem_filter.mp hz
      obtain ⟨n, hn, rfl⟩ := List.mem_map.mp z1
      have := List.mem_range.mp hn
      exact ⟨by omega, by omega, of_decide_eq_true z2⟩
    generalize ((rngI g).filter fun z => decide ((z * r).fmod g = 1)) = l at *
    cases l with
    | nil => cases hm
    | cons z l =>
      obtain ⟨z0, z1, z2⟩ := all z (by simp)
      fail "s"
      refine ix_at (d := .int z) rfl (by simp [atI, ixN, frzs, A.frz]) ?_
      fail "s"
      exact q z z0 z1 z2
  · intro z hz0 hz
    fail "s"
    refine ⟨?_, trivial⟩
    fail "s"
theorem lowestG_s {g u w z : Int} {Q : A → List A → Prop} {E : Ex → List A → Prop} (hg : 0 < g) (hg2 : g ≤ 13) (hu : Bd 9000 u) (w0 : 0 < w) (w1 : w < g) (iv : ∃ z : Int, 0 ≤ z ∧ z < g ∧ (z * w).fmod g = 1) (hz : ∀ c : Int, 0 ≤ c → c < g → (c * w).fmod g = 1 → (u * c).fmod g = z)
    (q : Q (.v (dN z 1)) [.v (.int g), .v (.int u), .v (.int w)]) : Wc (n_lowest [.v (.int g), .v (.int u), .v (.int w)]) Q E := by
  refine wc_fn rfl rfl ?_
  unfold b_lowest
  have ew : w.fmod g = w := Int.fmod_eq_of_lt (by omega) w1
  fail "s"
  refine wk_d (fun _ => ?_) (fun h => absurd (by omega) h)
  fail "s"
  refine wk_d (fun h1 => ?_) (fun h1 => ?_)
  · subst h1
    have e := hz 1 (by decide) w1 (Int.fmod_eq_of_lt (by decide) w1)
    rw [Int.mul_one] at e
    fail "s"
    rw [e]
    exact q
  · fail "s"
    refine wk_d (fun _ => ?_) (fun h => absurd (by omega) h)
    fail "s"
    rw [ew]
    refine contrary_on_s hg hg2 w0 w1 iv fun c c0 c1 hc => ?_
    have hcB : Bd 4 c := by unfold Bd; have : (2 : Nat) ^ 4 = 16 := (by decide); omega
    fail "s"
    refine wo_mul (hu.mulC hcB (by omega)) ?_
    fail "s"
    rw [hz c c0 c1 hc]
    exact q
section
variable {g : Int} {R : Type} [Lean.Grind.CommRing R] {N : NumF g R} {r s : R} {Q : A → List A → Prop} {E : Ex → List A → Prop}
/-- of few figures -/
abbrev Ok (N : NumF g R) (r : R) : Prop := N.B 4300 r
theorem plus_s (hg : g = 0 ∨ 2 ≤ g) (hg2 : g ≤ 13) (hr : Ok N r) (hs : Ok N s) (hq : Ok N (r + s)) (q : Q (.v (N.nm (r + s))) [.v (.int g), .v (N.nm r), .v (N.nm s)]) : Wc (n_plus [.v (.int g), .v (N.nm r), .v (N.nm s)]) Q E := by
  refine wc_fn rfl rfl ?_
  unfold b_plus
  unfold NumF.nm NumX.nm Num.nm dN at q ⊢
  fail "s"
  refine wo_mul (hr.p.mulC hs.q (by omega)) ?_
  fail "s"
  refine wo_mul (hs.p.mulC hr.q (by omega)) ?_
  fail "s"
  refine wo_mul (hr.q.mulC hs.q (by omega)) ?_
  fail "s"
  refine lowest_s hg hg2 (N.okp r s) (N.add r s) hq.p hq.q ?_
  unfold dN
  fail "s"
  exact q
theorem times_s (hg : g = 0 ∨ 2 ≤ g) (hg2 : g ≤ 13) (hr : Ok N r) (hs : Ok N s) (hq : Ok N (r * s)) (q : Q (.v (N.nm (r * s))) [.v (.int g), .v (N.nm r), .v (N.nm s)]) : Wc (n_times [.v (.int g), .v (N.nm r), .v (N.nm s)]) Q E := by
  refine wc_fn rfl rfl ?_
  unfold b_times
  unfold NumF.nm NumX.nm Num.nm dN at q ⊢
  fail "s"
  refine wo_mul (hr.p.mulC hs.p (by omega)) ?_
  fail "s"
  refine wo_mul (hr.q.mulC hs.q (by omega)) ?_
  fail "s"
  refine lowest_s hg hg2 (N.okp r s) (N.mul r s) hq.p hq.q ?_
  unfold dN
  fail "s"
  exact q
theorem minus_s (hg : g = 0 ∨ 2 ≤ g) (hg2 : g ≤ 13) (hr : Ok N r) (q : Q (.v (N.nm (-r))) [.v (.int g), .v (N.nm r)]) : Wc (n_minus [.v (.int g), .v (N.nm r)]) Q E := by
  have hq : Ok N (-r) := hr.neg (by decide) hg2
  refine wc_fn rfl rfl ?_
  unfold b_minus
  unfold NumF.nm NumX.nm Num.nm dN at q ⊢
  fail "s"
  refine lowest_s hg hg2 (N.ok1 r) (N.neg r) hq.p hq.q ?_
  unfold dN
  fail "s"
  exact q
theorem l_plus_s (hg : g = 0 ∨ 2 ≤ g) (hg2 : g ≤ 13) (hr : Ok N r) (hs : Ok N s) (hq : Ok N (r + s)) (q : Q (.v (N.nm (r + s))) [.v (.int g), .v (N.nm r), .v (N.nm s)]) : Wc (n_l_plus [.v (.int g), .v (N.nm r), .v (N.nm s)]) Q E := by
  refine wc_fn rfl rfl ?_
  unfold b_l_plus
  unfold NumF.nm NumX.nm Num.nm dN at q ⊢
  fail "s"
  refine wo_mul (hr.p.mulC hs.q (by omega)) ?_
  fail "s"
  refine wo_mul (hs.p.mulC hr.q (by omega)) ?_
  fail "s"
  refine wo_mul (hr.q.mulC hs.q (by omega)) ?_
  fail "s"
  refine l_low_s hg hg2 (by exact (hr.q.mul hs.q).mono (by decide)) (N.okp r s) (N.add r s) hq.p hq.q ?_
  unfold dN
  fail "s"
  exact q
theorem l_times_s (hg : g = 0 ∨ 2 ≤ g) (hg2 : g ≤ 13) (hr : Ok N r) (hs : Ok N s) (hq : Ok N (r * s)) (q : Q (.v (N.nm (r * s))) [.v (.int g), .v (N.nm r), .v (N.nm s)]) : Wc (n_l_times [.v (.int g), .v (N.nm r), .v (N.nm s)]) Q E := by
  refine wc_fn rfl rfl ?_
  unfold b_l_times
  unfold NumF.nm NumX.nm Num.nm dN at q ⊢
  fail "s"
  refine wo_mul (hr.p.mulC hs.p (by omega)) ?_
  fail "s"
  refine wo_mul (hr.q.mulC hs.q (by omega)) ?_
  fail "s"
  refine l_low_s hg hg2 (by exact (hr.q.mul hs.q).mono (by decide)) (N.okp r s) (N.mul r s) hq.p hq.q ?_
  unfold dN
  fail "s"
  exact q
theorem l_minus_s (hg : g = 0 ∨ 2 ≤ g) (hg2 : g ≤ 13) (hr : Ok N r) (q : Q (.v (N.nm (-r))) [.v (.int g), .v (N.nm r)]) : Wc (n_l_minus [.v (.int g), .v (N.nm r)]) Q E := by
  have hq : Ok N (-r) := hr.neg (by decide) hg2
  refine wc_fn rfl rfl ?_
  unfold b_l_minus
  unfold NumF.nm NumX.nm Num.nm dN at q ⊢
  fail "s"
  refine l_low_s hg hg2 (hr.q.mono (by decide)) (N.ok1 r) (N.neg r) hq.p hq.q ?_
  unfold dN
  fail "s"
  exact q
theorem l_over_s (hg : g = 0 ∨ 2 ≤ g) (hg2 : g ≤ 13) (hr : Ok N r) (hs : Ok N s) (s0 : s ≠ 0) (hq : Ok N (r * N.inv s)) (q : Q (.v (N.nm (r * N.inv s))) [.v (.int g), .v (N.nm r), .v (N.nm s)]) : Wc (n_l_over [.v (.int g), .v (N.nm r), .v (N.nm s)]) Q E := by
  refine wc_fn rfl rfl ?_
  unfold b_l_over
  unfold NumF.nm NumX.nm Num.nm dN at q ⊢
  fail "s"
  refine wo_mul (hr.p.mulC hs.q (by omega)) ?_
  fail "s"
  refine wo_mul (hr.q.mulC hs.p (by omega)) ?_
  fail "s"
  rcases hg with rfl | hg
  · refine l_low_s (.inl rfl) hg2 ((hr.q.mul hs.p).mono (by decide)) ?_ (N.ov0 rfl r s s0) hq.p hq.q ?_
    · have h1 := N.ok1 r
      have h2 := N.pz s s0
      unfold okd at h1 ⊢
      rw [if_neg (by decide)] at h1 ⊢
      exact Int.mul_ne_zero h1 h2
    unfold dN
    fail "s"
    exact q
  · obtain ⟨p0, p1, q1, q2, v0, v1, v2, un, _, _⟩ := N.ovg (by omega) r s s0
    have qs : N.q s = 1 := (N.ovg (by omega) s s s0).2.2.1
    rw [q1, qs, Int.mul_one, Int.one_mul]
    refine l_lowG_s (by omega) hg2 p0 p1 v0 v1 v2 un ?_
    rw [q2, q1, qs] at q
    unfold dN
    fail "s"
    exact q
theorem over_s (hg : g = 0 ∨ 2 ≤ g) (hg2 : g ≤ 13) (hr : Ok N r) (hs : Ok N s) (s0 : s ≠ 0) (hq : Ok N (r * N.inv s)) (q : Q (.v (N.nm (r * N.inv s))) [.v (.int g), .v (N.nm r), .v (N.nm s)]) : Wc (n_over [.v (.int g), .v (N.nm r), .v (N.nm s)]) Q E := by
  refine wc_fn rfl rfl ?_
  unfold b_over c_NOUGHT
  fail "s"
  refine wo_eqD (k := 1) (j := 1) okc_nmX (by simp [okc, okcs, A.frz]) (by decide) (by decide) ?_
  have ne : PyData.eqv (A.v (N.nm s)).frz.py (A.v (.tup [.int 0, .int 1])).frz.py = false := by
    have e := eqv_dN (a := N.p s) (b := N.q s) (c := 0) (d := 1)
    have z := N.pz s s0
    have : PyData.eqv (A.v (N.nm s)).frz.py (A.v (.tup [.int 0, .int 1])).frz.py = PyData.eqv (dN (N.p s) (N.q s)).py (dN 0 1).py := rfl
    rw [this, e, decide_eq_false z]
    rfl
  rw [ne]
  fail "s"
  unfold NumF.nm NumX.nm Num.nm dN at q ⊢
  fail "s"
  refine wo_mul (hr.p.mulC hs.q (by omega)) ?_
  fail "s"
  refine wo_mul (hr.q.mulC hs.p (by omega)) ?_
  fail "s"
  rcases hg with rfl | hg
  · refine lowest_s (.inl rfl) hg2 ?_ (N.ov0 rfl r s s0) hq.p hq.q ?_
    · have h1 := N.ok1 r
      have h2 := N.pz s s0
      unfold okd at h1 ⊢
      rw [if_neg (by decide)] at h1 ⊢
      exact Int.mul_ne_zero h1 h2
    unfold dN
    fail "s"
    exact q
  · obtain ⟨p0, p1, q1, q2, v0, v1, v2, un, iv, hz⟩ := N.ovg (by omega) r s s0
    have qs : N.q s = 1 := (N.ovg (by omega) s s s0).2.2.1
    rw [q1, qs, Int.mul_one, Int.one_mul]
    refine lowestG_s (by omega) hg2 (hr.p.mono (by decide)) p0 p1 iv hz ?_
    rw [q2, q1, qs] at q
    unfold dN
    fail "s"
    exact q
end
local macro_rules | `(tactic| fail "t") => `(tactic| refine take_s (by omega) (by omega) (by omega) (by omega) (by omega) ?_)
section
variable {g : Int} {R : Type} [Lean.Grind.CommRing R] {N : NumF g R} {L K L2 k j k2 m h : Nat} {x y : List R} {t o : List (List R)} {c : R} {Q : A → List A → Prop} {E : Ex → List A → Prop}
theorem _root_.DD.Zn.ok {r : R} (h : Zn N L k r) (j : k ≤ 4300) : Ok N r := h.B (by decide) j
theorem _root_.DD.Rw.ok (h : Rw N m L k x) (j : k ≤ 4300) : ∀ r ∈ x, Ok N r := h.B (by decide) j
theorem zip_add {r : R} {p : R × R} (hp : p ∈ x.zip y) (e : r = p.1 + p.2) : r ∈ List.zipWith (· + ·) x y := by
  subst e
  rw [← List.map_uncurry_zip_eq_zipWith]
  exact List.mem_map.mpr ⟨p, hp, rfl⟩
theorem added_s (hg : g = 0 ∨ 2 ≤ g) (hg2 : g ≤ 13) (he : x.length = y.length) (hlen : x.length ≤ 1000) (hx : ∀ r ∈ x, Ok N r) (hy : ∀ r ∈ y, Ok N r) (hq : ∀ r ∈ List.zipWith (· + ·) x y, Ok N r)
    (q : Q (.v (rwD N.toNumX (List.zipWith (· + ·) x y))) [.v (.int g), .v (rwD N.toNumX x), .v (rwD N.toNumX y)]) : Wc (n_added [.v (.int g), .v (rwD N.toNumX x), .v (rwD N.toNumX y)]) Q E := by
  refine wc_fn rfl rfl ?_
  unfold b_added
  unfold rwD at q ⊢
  fail "s"
  refine wo_zipS (by simpa using he) ?_
  refine ⟨sz_of (by rw [zipD_len, List.length_map]; omega), ?_⟩
  fail "s"
  refine w_compMap (fun p : R × R => D.tup [N.nm p.1, N.nm p.2]) (fun p => A.v (N.nm (p.1 + p.2))) (xs := x.zip y) ?_ (fun p hp => ?_) ?_
  · unfold zipD
    rw [List.zip_map, List.map_map]
    rfl
  · have h1 := hx _ (List.of_mem_zip hp).1
    have h2 := hy _ (List.of_mem_zip hp).2
    fail "s"
    refine plus_s hg hg2 h1 h2 (hq _ (zip_add hp rfl)) ?_
    fail "s"
  fail "s"
  refine wo_eq rfl ?_
  fail "s"
  have e : frzs ((x.zip y).map fun p => A.v (N.nm (p.1 + p.2))) = (List.zipWith (· + ·) x y).map N.nm := by
    rw [frzs_eq, List.map_map, List.zip, List.map_zipWith, List.map_zipWith]
    rfl
  rw [e]
  exact q
theorem scaled_s (hg : g = 0 ∨ 2 ≤ g) (hg2 : g ≤ 13) (hlen : x.length ≤ 1000) (hx : ∀ r ∈ x, Ok N r) (hc : Ok N c) (hq : ∀ r ∈ x, Ok N (r * c))
    (q : Q (.v (rwD N.toNumX (x.map (· * c)))) [.v (.int g), .v (rwD N.toNumX x), .v (N.nm c)]) : Wc (n_scaled [.v (.int g), .v (rwD N.toNumX x), .v (N.nm c)]) Q E := by
  refine wc_fn rfl rfl ?_
  unfold b_scaled
  unfold rwD at q ⊢
  fail "s"
  refine wo_eq rfl ?_
  refine ⟨sz_of (by rw [List.length_map]; omega), ?_⟩
  fail "s"
  refine w_compMap N.nm (fun r => A.v (N.nm (r * c))) (xs := x) rfl (fun r hr => ?_) ?_
  · fail "s"
    refine times_s hg hg2 (hx r hr) hc (hq r hr) ?_
    fail "s"
  fail "s"
  refine wo_eq rfl ?_
  fail "s"
  have e : frzs (x.map fun r => A.v (N.nm (r * c))) = (x.map (· * c)).map N.nm := by
    rw [frzs_eq, List.map_map, List.map_map]
    rfl
  rw [e]
  exact q
theorem l_scaled_s (hg : g = 0 ∨ 2 ≤ g) (hg2 : g ≤ 13) (hlen : x.length ≤ 1000) (hx : ∀ r ∈ x, Ok N r) (hc : Ok N c) (hq : ∀ r ∈ x, Ok N (r * c))
    (q : Q (.v (rwD N.toNumX (x.map (· * c)))) [.v (.int g), .v (rwD N.toNumX x), .v (N.nm c)]) : Wc (n_l_scaled [.v (.int g), .v (rwD N.toNumX x), .v (N.nm c)]) Q E := by
  refine wc_fn rfl rfl ?_
  unfold b_l_scaled
  unfold rwD at q ⊢
  fail "s"
  refine wo_eq rfl ?_
  refine ⟨sz_of (by rw [List.length_map]; omega), ?_⟩
  fail "s"
  refine w_compMap N.nm (fun r => A.v (N.nm (r * c))) (xs := x) rfl (fun r hr => ?_) ?_
  · fail "s"
    refine l_times_s hg hg2 (hx r hr) hc (hq r hr) ?_
    fail "s"
  fail "s"
  refine wo_eq rfl ?_
  fail "s"
  have e : frzs (x.map fun r => A.v (N.nm (r * c))) = (x.map (· * c)).map N.nm := by
    rw [frzs_eq, List.map_map, List.map_map]
    rfl
  rw [e]
  exact q
theorem taken_off_s (hg : g = 0 ∨ 2 ≤ g) (hg2 : g ≤ 13) (he : x.length = y.length) (hlen : x.length ≤ 1000) (hx : ∀ r ∈ x, Ok N r) (hy : ∀ r ∈ y, Ok N r) (hc : Ok N c) (h1 : ∀ r ∈ y, Ok N (r * -c)) (hq : ∀ r ∈ List.zipWith (· + ·) x (y.map (· * -c)), Ok N r)
    (q : Q (.v (rwD N.toNumX (List.zipWith (· + ·) x (y.map (· * -c))))) [.v (.int g), .v (rwD N.toNumX x), .v (rwD N.toNumX y), .v (N.nm c)]) : Wc (n_taken_off [.v (.int g), .v (rwD N.toNumX x), .v (rwD N.toNumX y), .v (N.nm c)]) Q E := by
  refine wc_fn rfl rfl ?_
  unfold b_taken_off
  fail "s"
  refine minus_s hg hg2 hc ?_
  fail "s"
  refine scaled_s hg hg2 (by omega) hy (hc.neg (by decide) hg2) h1 ?_
  fail "s"
  refine added_s hg hg2 (by rw [List.length_map]; exact he) hlen hx (fun r hr => ?_) hq ?_
  · obtain ⟨a, ha, rfl⟩ := List.mem_map.mp hr
    exact h1 a ha
  fail "s"
  exact q
theorem zero_rwF : D.tup (List.replicate m [D.tup [.int 0, .int 1]]).flatten = rwD N.toNumX (List.replicate m 0) := by
  unfold rwD
  congr 1
  rw [List.map_replicate]
  have e : N.toNumX.nm 0 = D.tup [.int 0, .int 1] := N.zero
  rw [e]
  induction m with
  | zero => rfl
  | succ n ih => rw [List.replicate_succ, List.flatten_cons, ih, List.replicate_succ]; rfl
theorem zero_Z {n : Nat} (p : 0 < L) (b : Bd n (L : Int)) : Rw N m L n (List.replicate m 0) := ⟨by simp, fun r hr => by
  rw [List.eq_of_mem_replicate hr]
  exact N.Szero _ _, p, b⟩
theorem through_s (hg : g = 0 ∨ 2 ≤ g) (hg2 : g ≤ 13) (hx : Rw N h L k x) (ht : Tw N h m K j t) (hk : k + j + h ≤ 4300) (h1 : 1 ≤ h) (h10 : h ≤ 10) (hm10 : m ≤ 10)
    (q : Q (.v (rwD N.toNumX (thr m x t))) [.v (.int g), .v (rwD N.toNumX x), .v (tbD N.toNumX t)]) : Wc (n_through [.v (.int g), .v (rwD N.toNumX x), .v (tbD N.toNumX t)]) Q E := by
  have htl := ht.len
  obtain ⟨t0, t', rfl⟩ : ∃ t0 t', t = t0 :: t' := by
    cases t with
    | nil => simp at htl; omega
    | cons a b => exact ⟨a, b, rfl⟩
  have ht0 := ht.r t0 (by simp)
  refine wc_fn rfl rfl ?_
  unfold b_through b_through_1 c_NOUGHT
  fail "s"
  refine ix_at (ds := rwD N.toNumX t0 :: t'.map (rwD N.toNumX)) rfl (by rw [atI_get (by decide) (by simp)]; rfl) ?_
  fail "s"
  refine wo_eq (a := .v (.int m)) (by unfold rwD opLen; simp [A.frz, seqD, ht0.len]) ?_
  fail "s"
  refine wo_eq (a := .m ((List.replicate m [D.tup [.int 0, .int 1]]).flatten.map A.v)) ?_ ?_
  · unfold opMul
    simp only [List.length_cons, List.length_nil, frzs, A.frz, Int.toNat_natCast]
    rw [if_pos]
    refine ⟨sz_of (by omega), by omega, by omega⟩
  fail "s"
  refine wo_eq rfl ?_
  fail "s"
  rw [zero_rwF (N := N)]
  refine wo_eq (a := zipD (x.map N.nm) ((t0 :: t').map (rwD N.toNumX))) ?_ ?_
  · exact if_pos (by simpa [hx.len] using htl.symm)
  refine w_forL (fun ds ρ => ∃ (ps : List (R × List R)) (acc : List R) (s4 s5 : Option A), ds = ps.map (fun p => D.tup [N.nm p.1, rwD N.toNumX p.2]) ∧ ρ = [some (.v (.int g)), some (.v (rwD N.toNumX x)), some (.v (tbD N.toNumX (t0 :: t'))), some (.v (rwD N.toNumX acc)), s4, s5] ∧ ps.foldl thrF acc = thr m x (t0 :: t') ∧ ps.length ≤ h ∧ Rw N m (L * K) (k + j + h - ps.length) acc ∧ ∀ p ∈ ps, Zn N L k p.1 ∧ Rw N m K j p.2)
    ⟨x.zip (t0 :: t'), List.replicate m 0, none, none, ?_, rfl, rfl, by rw [List.length_zip, hx.len]; omega, zero_Z (Nat.mul_pos hx.pos ht.pos) ((bdm hx.bd ht.bd).mono (by rw [List.length_zip, hx.len, ht.len]; omega)), fun p hp => ⟨hx.z (List.of_mem_zip hp).1, ht.r _ (List.of_mem_zip hp).2⟩⟩ ?_ ?_
  · unfold zipD
    rw [List.zip_map, List.map_map]
    rfl
  · rintro d ds _ ⟨ps, acc, s4, s5, e, rfl, hf, hlen, hacc, hps⟩
    cases ps with
    | nil => cases e
    | cons p ps =>
      cases e
      obtain ⟨hp1, hp2⟩ := hps p (by simp)
      have hpl : ps.length + 1 ≤ h := by simpa using hlen
      have hs := hp2.mulc hp1
      rw [Nat.mul_comm K L] at hs
      have hacc2 : Rw N m (L * K) (k + j + h - (ps.length + 1)) acc := by simpa using hacc
      have hn := hacc2.addr (hs.up (by omega))
      fail "s"
      refine wo_neZ (N := N.toNumX) fun b hb1 hb0 => ?_
      fail "s"
      refine wk_b (fun hh => ?_) (fun hh => ?_)
      · fail "s"
        refine scaled_s hg hg2 (by rw [hp2.len]; omega) (hp2.ok (by omega)) (hp1.ok (by omega)) (fun r hr => (hs.z (List.mem_map.mpr ⟨r, hr, rfl⟩)).ok (by omega)) ?_
        fail "s"
        refine added_s hg hg2 (by rw [hacc.len, hs.len]) (by rw [hacc.len]; omega) (hacc2.ok (by omega)) (hs.ok (by omega)) (hn.ok (by omega)) ?_
        fail "s"
        exact ⟨ps, thrF acc p, some (.v (N.nm p.1)), some (.v (rwD N.toNumX p.2)), rfl, rfl, hf, by omega, (show Rw N m (L * K) _ (thrF acc p) from hn).up (by omega), fun p hp => hps p (List.mem_cons_of_mem _ hp)⟩
      · fail "s"
        refine ⟨ps, acc, some (.v (N.nm p.1)), some (.v (rwD N.toNumX p.2)), rfl, rfl, ?_, by omega, hacc2.up (by omega), fun p hp => hps p (List.mem_cons_of_mem _ hp)⟩
        rw [List.foldl_cons, thrF_zero hacc.len hp2.len (hb0 hh)] at hf
        exact hf
  · rintro _ ⟨ps, acc, s4, s5, e, rfl, hf, _⟩
    have : ps = [] := by simpa using e.symm
    subst this
    fail "s"
    rw [← hf] at q
    exact q
theorem rows_frz {α : Type} {f : α → List R} {xs : List α} : frzs (xs.map fun x => A.v (rwD N.toNumX (f x))) = (xs.map f).map (rwD N.toNumX) := by
  rw [frzs_eq, List.map_map, List.map_map]
  rfl
theorem nums_frz {α : Type} {f : α → R} {xs : List α} : frzs (xs.map fun x => A.v (N.nm (f x))) = (xs.map f).map N.nm := by
  rw [frzs_eq, List.map_map, List.map_map]
  rfl
theorem nm_at {l : List R} {k : Nat} (h : k < l.length) : atI (l.map N.nm) (k : Int) = some (N.nm (l.getD k 0)) := by
  rw [atI_get (by omega) (by rw [List.length_map]; omega), Int.toNat_natCast, List.getElem?_map, List.getElem?_eq_getElem h, getD_at h]
  rfl
theorem rw_at {t : List (List R)} {k : Nat} (h : k < t.length) : atI (t.map (rwD N.toNumX)) (k : Int) = some (rwD N.toNumX (t.getD k [])) := by
  rw [atI_get (by omega) (by rw [List.length_map]; omega), Int.toNat_natCast, List.getElem?_map, List.getElem?_eq_getElem h, getD_at h]
  rfl
theorem turned_s (ht : ∀ l ∈ t, l.length = m) (h1 : 1 ≤ t.length) (h10 : t.length ≤ 10) (hm : 1 ≤ m) (hm10 : m ≤ 10)
    (q : Q (.v (tbD N.toNumX (trn m t))) [.v (tbD N.toNumX t)]) : Wc (n_turned [.v (tbD N.toNumX t)]) Q E := by
  have ht' := ht
  obtain ⟨t0, t', e0⟩ : ∃ t0 t', t = t0 :: t' := by
    cases t with
    | nil => simp at h1
    | cons a b => exact ⟨a, b, rfl⟩
  have ht0 := ht t0 (by rw [e0]; simp)
  refine wc_fn rfl rfl ?_
  unfold b_turned
  fail "s"
  refine ix_at (ds := t.map (rwD N.toNumX)) (d := rwD N.toNumX t0) rfl (by rw [e0, atI_get (by decide) (by simp)]; rfl) ?_
  fail "s"
  refine wo_eq (a := .v (.int m)) (by unfold rwD opLen; simp [A.frz, seqD, ht0]) ?_
  fail "s"
  refine ⟨⟨by omega, by omega⟩, ⟨sz_of (by simp; omega), ?_⟩⟩
  simp only [Int.toNat_natCast]
  fail "s"
  refine w_compMap (fun i : Nat => D.int i) (fun k => A.v (rwD N.toNumX (t.map fun l => l.getD k 0))) (xs := List.range m) rfl (fun k hk => ?_) ?_
  · have hk := List.mem_range.mp hk
    fail "s"
    refine wo_eq (a := t.map (rwD N.toNumX)) rfl ?_
    refine ⟨sz_of (by rw [List.length_map]; omega), ?_⟩
    fail "s"
    refine w_compMap (rwD N.toNumX) (fun l => A.v (N.nm (l.getD k 0))) (xs := t) rfl (fun l hl => ?_) ?_
    · fail "s"
      refine ix_at (ds := l.map N.nm) rfl (nm_at (by rw [ht' l hl]; exact hk)) ?_
      fail "s"
    fail "s"
    refine wo_eq rfl ?_
    fail "s"
    rw [nums_frz (N := N) (f := fun l : List R => l.getD k 0)]
    exact ⟨rfl, trivial⟩
  fail "s"
  refine wo_eq rfl ?_
  fail "s"
  rw [rows_frz (N := N) (f := fun k : Nat => t.map fun l => l.getD k 0)]
  exact q
theorem ones_s (hm : m ≤ 10) (q : Q (.v (tbD N.toNumX (onesL m))) [.v (.int m)]) : Wc (n_ones [.v (.int m)]) Q E := by
  refine wc_fn rfl rfl ?_
  unfold b_ones c_ONE c_NOUGHT
  fail "s"
  refine ⟨⟨by omega, by omega⟩, ⟨sz_of (by simp; omega), ?_⟩⟩
  simp only [Int.toNat_natCast]
  fail "s"
  refine w_compMap (fun i : Nat => D.int i) (fun i => A.v (rwD N.toNumX (eL m i))) (xs := List.range m) rfl (fun i hi => ?_) ?_
  · fail "s"
    refine ⟨⟨by omega, by omega⟩, ⟨sz_of (by simp; omega), ?_⟩⟩
    simp only [Int.toNat_natCast]
    fail "s"
    refine w_compMap (fun i : Nat => D.int i) (fun j => A.v (N.nm (if i = j then 1 else 0))) (xs := List.range m) rfl (fun j hj => ?_) ?_
    · fail "s"
      refine wk_d (fun e => ?_) (fun e => ?_)
      · have e : i = j := by omega
        fail "s"
        rw [if_pos e]
        exact ⟨congrArg A.v N.one.symm, trivial⟩
      · have e : ¬ i = j := by omega
        fail "s"
        rw [if_neg e]
        exact ⟨congrArg A.v N.zero.symm, trivial⟩
    fail "s"
    refine wo_eq rfl ?_
    fail "s"
    rw [nums_frz (N := N) (f := fun j : Nat => if i = j then (1 : R) else 0)]
    exact ⟨rfl, trivial⟩
  fail "s"
  refine wo_eq rfl ?_
  fail "s"
  rw [rows_frz (N := N) (f := fun i : Nat => eL m i)]
  exact q
theorem l_ones_s (hm : m ≤ 10) (q : Q (.v (tbD N.toNumX (onesL m))) [.v (.int m)]) : Wc (n_l_ones [.v (.int m)]) Q E := by
  refine wc_fn rfl rfl ?_
  unfold b_l_ones 
  fail "s"
  refine ⟨⟨by omega, by omega⟩, ⟨sz_of (by simp; omega), ?_⟩⟩
  simp only [Int.toNat_natCast]
  fail "s"
  refine w_compMap (fun i : Nat => D.int i) (fun i => A.v (rwD N.toNumX (eL m i))) (xs := List.range m) rfl (fun i hi => ?_) ?_
  · fail "s"
    refine ⟨⟨by omega, by omega⟩, ⟨sz_of (by simp; omega), ?_⟩⟩
    simp only [Int.toNat_natCast]
    fail "s"
    refine w_compMap (fun i : Nat => D.int i) (fun j => A.v (N.nm (if i = j then 1 else 0))) (xs := List.range m) rfl (fun j hj => ?_) ?_
    · fail "s"
      refine wo_eq (a := .v (.int (if i = j then 1 else 0))) (by simp [opInt]; split <;> omega) ?_
      fail "s"
      split
      · exact ⟨congrArg A.v N.one.symm, trivial⟩
      · exact ⟨congrArg A.v N.zero.symm, trivial⟩
    fail "s"
    refine wo_eq rfl ?_
    fail "s"
    rw [nums_frz (N := N) (f := fun j : Nat => if i = j then (1 : R) else 0)]
    exact ⟨rfl, trivial⟩
  fail "s"
  refine wo_eq rfl ?_
  fail "s"
  rw [rows_frz (N := N) (f := fun i : Nat => eL m i)]
  exact q
end
section
variable {g : Int} {R : Type} [Lean.Grind.CommRing R] {N : NumF g R} {L K L2 k j k2 m h : Nat} {x y r : List R} {t o : List (List R)} {c : R} {Q : A → List A → Prop} {E : Ex → List A → Prop}
/-- a form as it stands -/
def fD (N : NumF g R) (t : List (List R)) : D := .ins "Form" ["table", "ground"] [tbD N.toNumX t, .int g]
theorem wo_attrG {P : A → Prop} (h : P (.v (.int g))) : Wo (attrD "Form" "ground" (.v (fD N t))) P := wo_eq rfl h
theorem wo_attrT {P : A → Prop} (h : P (.v (tbD N.toNumX t))) : Wo (attrD "Form" "table" (.v (fD N t))) P := wo_eq rfl h
local macro_rules | `(tactic| fail "w") => `(tactic| with_reducible first
  | refine w_attr ?_
  | refine wo_attrG ?_
  | refine wo_attrT ?_)
theorem nought_nm : D.tup [.int 0, .int 1] = N.nm 0 := N.zero.symm
theorem one_nm : D.tup [.int 1, .int 1] = N.nm 1 := N.one.symm
theorem paired_s (hg : g = 0 ∨ 2 ≤ g) (hg2 : g ≤ 13) (hx : Rw N m L k x) (ht : Tw N m m K j t) (hy : Rw N m L2 k2 y) (hk : k + j + m + k2 + m ≤ 4300) (h1 : 1 ≤ m) (h10 : m ≤ 10)
    (q : Q (.v (N.nm (bl m t x y))) [.v (.int g), .v (tbD N.toNumX t), .v (rwD N.toNumX x), .v (rwD N.toNumX y)]) : Wc (n_paired [.v (.int g), .v (tbD N.toNumX t), .v (rwD N.toNumX x), .v (rwD N.toNumX y)]) Q E := by
  have hz := thr_Z hx ht
  refine wc_fn rfl rfl ?_
  unfold b_paired b_paired_1 c_NOUGHT
  fail "s"
  rw [nought_nm (N := N)]
  refine through_s hg hg2 hx ht (by omega) h1 h10 h10 ?_
  fail "s"
  refine wo_zipS (l := (thr m x t).map N.nm) (k := y.map N.nm) (by simp [hz.len, hy.len]) ?_
  refine w_forL (fun ds ρ => ∃ (ps : List (R × R)) (acc : R) (s5 s6 : Option A), ds = ps.map (fun p => D.tup [N.nm p.1, N.nm p.2]) ∧ ρ = [some (.v (.int g)), some (.v (tbD N.toNumX t)), some (.v (rwD N.toNumX x)), some (.v (rwD N.toNumX y)), some (.v (N.nm acc)), s5, s6] ∧ ps.foldl (fun s p => s + p.1 * p.2) acc = bl m t x y ∧ ps.length ≤ m ∧ Zn N (L * K * L2) (k + j + m + k2 + m - ps.length) acc ∧ ∀ p ∈ ps, Zn N (L * K) (k + j + m) p.1 ∧ Zn N L2 k2 p.2)
    ⟨(thr m x t).zip y, 0, none, none, ?_, rfl, rfl, by rw [List.length_zip, hz.len, hy.len]; omega, ⟨N.Szero _ _, Nat.mul_pos hz.pos hy.pos, (bdm hz.bd hy.bd).mono (by rw [List.length_zip, hz.len, hy.len]; omega)⟩, fun p hp => ⟨hz.z (List.of_mem_zip hp).1, hy.z (List.of_mem_zip hp).2⟩⟩ ?_ ?_
  · unfold zipD
    rw [List.zip_map, List.map_map]
    rfl
  · rintro d ds _ ⟨ps, acc, s5, s6, e, rfl, hf, hlen, hacc, hps⟩
    cases ps with
    | nil => cases e
    | cons p ps =>
      cases e
      obtain ⟨hp1, hp2⟩ := hps p (by simp)
      have hpl : ps.length + 1 ≤ m := by simpa using hlen
      have hs := hp1.mul hp2
      have hacc2 : Zn N (L * K * L2) (k + j + m + k2 + m - (ps.length + 1)) acc := by simpa using hacc
      have hn := hacc2.add (hs.up (by omega))
      fail "s"
      refine times_s hg hg2 (hp1.ok (by omega)) (hp2.ok (by omega)) (hs.ok (by omega)) ?_
      fail "s"
      refine plus_s hg hg2 (hacc2.ok (by omega)) (hs.ok (by omega)) (hn.ok (by omega)) ?_
      fail "s"
      exact ⟨ps, _, some (.v (N.nm p.1)), some (.v (N.nm p.2)), rfl, rfl, hf, by omega, hn.up (by omega), fun p hp => hps p (List.mem_cons_of_mem _ hp)⟩
  · rintro _ ⟨ps, acc, s5, s6, e, rfl, hf, _⟩
    have : ps = [] := by simpa using e.symm
    subst this
    fail "s"
    rw [← hf] at q
    exact q
theorem l_sum_s {l : List R} (hg : g = 0 ∨ 2 ≤ g) (hg2 : g ≤ 13) (hL : 0 < L) (hb : Bd k (L : Int)) (h : ∀ r ∈ l, Zn N L k r) (hk : k + l.length ≤ 4300) (hl : l.length ≤ 1000) (q : Q (.v (N.nm (l.foldl (· + ·) 0))) [.v (.int g), .v (.lst (l.map N.nm))]) :
    Wc (n_l_sum [.v (.int g), .v (.lst (l.map N.nm))]) Q E := by
  refine wc_fn rfl rfl ?_
  unfold b_l_sum b_l_sum_1
  fail "s"
  refine wo_eq (a := l.map N.nm) rfl ?_
  rw [nought_nm (N := N)]
  refine w_forL (fun ds ρ => ∃ (rs : List R) (acc : R) (s3 : Option A), ds = rs.map N.nm ∧ ρ = [some (.v (.int g)), some (.v (.lst (l.map N.nm))), some (.v (N.nm acc)), s3] ∧ rs.foldl (· + ·) acc = l.foldl (· + ·) 0 ∧ rs.length ≤ l.length ∧ Zn N L (k + l.length - rs.length) acc ∧ ∀ r ∈ rs, Zn N L k r)
    ⟨l, 0, none, rfl, rfl, rfl, Nat.le_refl _, ⟨N.Szero _ _, hL, hb.mono (by omega)⟩, h⟩ ?_ ?_
  · rintro d ds _ ⟨rs, acc, s3, e, rfl, hf, hlen, hacc, hrs⟩
    cases rs with
    | nil => cases e
    | cons r rs =>
      cases e
      have hr := hrs r (by simp)
      have hpl : rs.length + 1 ≤ l.length := by simpa using hlen
      have hacc2 : Zn N L (k + l.length - (rs.length + 1)) acc := by simpa using hacc
      have hn := hacc2.add (hr.up (by omega))
      fail "s"
      refine l_plus_s hg hg2 (hacc2.ok (by omega)) (hr.ok (by omega)) (hn.ok (by omega)) ?_
      fail "s"
      exact ⟨rs, acc + r, some (.v (N.nm r)), rfl, rfl, hf, by omega, hn.up (by omega), fun r hr => hrs r (List.mem_cons_of_mem _ hr)⟩
  · rintro _ ⟨rs, acc, s3, e, rfl, hf, _⟩
    have : rs = [] := by simpa using e.symm
    subst this
    fail "s"
    rw [← hf] at q
    exact q
theorem Bd.two : Bd 4300 2 := Bd.mono (n := 4) (by unfold Bd; decide) (by decide)
theorem okd1 : okd g 1 := by unfold okd; split <;> decide
/-- the mirror by r -/
def mR (N : NumF g R) (m : Nat) (t : List (List R)) (r x : List R) : List R := mirL m t (-(1 + 1) * N.inv (bl m t r r)) r x
/-- rows of mirrors, and what they come to -/
inductive Cost (N : NumF g R) (m j : Nat) (t : List (List R)) : List (List R) → Nat → Prop
  | nil : Cost N m j t [] 0
  | cons {r : List R} {rs : List (List R)} {L k C : Nat} : Rw N m L k r → bl m t r r ≠ 0 → 4 * k + 2 * j + 4 * m + 20 ≤ 4300 → Cost N m j t rs C → Cost N m j t (r :: rs) (k + k + j + m + m + m + 5 + C)
end
local macro_rules | `(tactic| fail "w") => `(tactic| with_reducible first | (show Wp _ _ _; first | refine w_var (by with_unfolding_all rfl) ?_ | refine w_vvalF ?_ | refine w_c ?_ | refine w_cons ?_ | refine w_op2 ?_ | refine w_nil ?_ | refine w_vnil ?_ | refine w_seq ?_ | refine w_call ?_ | refine w_test ?_ | refine w_setF ?_ | refine w_blt ?_ | refine w_ifS ?_ | refine w_ret ?_ | refine w_gset (by fail "z") ?_ | refine w_items ?_ | refine w_vref (by with_unfolding_all rfl) ?_ | refine w_comp ?_ | refine w_tup ?_ | refine w_op1 ?_ | refine w_orT ?_ | refine w_andT ?_ | refine w_notT ?_ | refine w_skip ?_ | refine w_expr ?_ | refine w_isi ?_ | refine w_lst ?_ | refine w_for ?_ | refine w_gtup (by with_unfolding_all rfl) ?_ | refine w_gcons ?_ | refine w_gnil ?_ | refine w_if ?_ | refine w_setT ?_ | refine w_frz (by with_unfolding_all rfl) ?_ | refine w_appendF (by with_unfolding_all rfl) ?_ | refine w_andV ?_ | refine w_orV ?_ | refine w_notV ?_ | refine w_attr ?_ | refine w_ixOwn (by with_unfolding_all rfl) ?_ | refine w_lenOwn (by with_unfolding_all rfl) ?_ | refine wp_pure ?_ | refine w_rng1 ?_ | refine w_no ?_ | refine w_so ?_ | refine w_sl ?_ | refine w_parF ?_ | refine w_asg ?_ | refine w_compcons ?_ | refine w_compnil ?_ | refine w_raise ?_ | refine w_lam ?_ | refine w_step ?_ | refine w_par3 ?_ | refine w_rng2 ?_ | refine w_vvalT ?_ | refine w_extend (by with_unfolding_all rfl) ?_ | refine w_setitemF ?_ | refine w_move (by with_unfolding_all rfl) ?_ | refine w_fmt ?_ | refine w_jscons ?_ | refine w_jsnil ?_ | refine w_join ?_ | refine w_zip ?_ | refine w_zipS ?_ | refine w_enum ?_ | refine w_bor ?_ | refine w_borT ?_ | refine w_rev ?_ | refine w_chain ?_) | (show Wo _ _; first | refine wo_some ?_ | refine ix_at (by with_unfolding_all rfl) (by with_unfolding_all rfl) ?_ | refine wo_eqI ?_ | refine wo_neI ?_ | refine wo_add ?_ | refine wo_sub ?_ | refine wo_gt ?_ | refine wo_lt ?_ | refine wo_lenT ?_ | refine wo_lenL ?_ | refine wo_lenM ?_ | refine wo_attrG ?_ | refine wo_attrT ?_ | refine wo_neg ?_ | refine wo_le ?_ | refine wo_ge ?_ | refine wo_notB ?_ | refine wo_isB ?_ | refine wo_abs ?_ | refine wo_lenF ?_ | refine wo_mod (by omega) ?_ | refine wo_div (divc64 (by omega) (by omega) (by omega)) ?_ | refine wo_mul (mulc64 (by omega) (by omega) (by omega) (by omega)) ?_ | refine wo_pow (cpow64 (by omega) (by omega) (by omega) (by omega)) ?_))
def okT (d : D) : Prop := kindD d ≠ "" ∧ ∀ l, d = .tup l → ∀ e ∈ l, kindD e ≠ ""
theorem numB_nt {g : Int} {d : D} (h : iTup d = false) : numB g d = false := by
  cases d <;> first | rfl | cases h
theorem numB_len {g : Int} {l : List D} (h : ¬ ((l.length : Int) = 2)) : numB g (.tup l) = false := by
  unfold numB
  split
  · rename_i e; cases e; exact absurd rfl h
  · rfl
theorem numB_el {g : Int} {x y : D} (h : [isI x, isI y].all id = false) : numB g (.tup [x, y]) = false := by
  cases x <;> cases y <;> first | rfl | simp [isI] at h
theorem is_number_s {g : Int} {d : D} {Q : A → List A → Prop} {E : Ex → List A → Prop} (hd : okT d) (q : Q (.v (.bl (numB g d))) [.v (.int g), .v d]) : Wc (n_is_number [.v (.int g), .v d]) Q E := by
  refine wc_fn rfl rfl ?_
  unfold b_is_number
  fail "e"
  repeat fail "w"
  refine wo_isTup hd.1 ?_
  repeat fail "w"
  refine wk_b (fun h => ?_) (fun h => ?_)
  case refine_2 =>
    repeat fail "w"
    rw [numB_nt h] at q
    exact wo_some q
  obtain ⟨l, rfl⟩ : ∃ l, d = .tup l := by cases d <;> first | exact ⟨_, rfl⟩ | cases h
  repeat fail "w"
  refine wk_d (fun h2 => ?_) (fun h2 => ?_)
  case refine_2 =>
    repeat fail "w"
    rw [numB_len h2] at q
    exact wo_some q
  obtain ⟨x, y, rfl⟩ : ∃ x y, l = [x, y] := by
    match l, h2 with
    | [x, y], _ => exact ⟨x, y, rfl⟩
    | [], h2 => simp at h2
    | [_], h2 => simp at h2
    | _ :: _ :: _ :: _, h2 => simp at h2; omega
  have hx := hd.2 _ rfl x (by simp)
  have hy := hd.2 _ rfl y (by simp)
  fail "s"
  refine wo_eq rfl ?_
  fail "s"
  refine is_whole_s hx ?_
  fail "s"
  refine is_whole_s hy ?_
  fail "s"
  refine wo_eq rfl ?_
  fail "s"
  refine wk_b (fun h3 => ?_) (fun h3 => ?_)
  case refine_2 =>
    fail "s"
    rw [numB_el h3] at q
    exact q
  obtain ⟨a, rfl⟩ : ∃ a, x = .int a := by cases x <;> first | exact ⟨_, rfl⟩ | simp [isI] at h3
  obtain ⟨b, rfl⟩ : ∃ b, y = .int b := by cases y <;> first | exact ⟨_, rfl⟩ | simp [isI] at h3
  fail "s"
  refine wk_d (fun hg => ?_) (fun hg => ?_)
  · fail "s"
    refine wk_d (fun ha => ?_) (fun ha => ?_)
    · fail "s"
      refine wk_d (fun hb => ?_) (fun hb => ?_)
      · fail "s"
        simpa [numB, hg, ha, hb] using q
      · fail "s"
        simpa [numB, hg, ha, hb] using q
    · fail "s"
      simpa [numB, hg, ha] using q
  · fail "s"
    refine wk_d (fun hb => ?_) (fun hb => ?_)
    · fail "s"
      refine shared_s ?_
      fail "s"
      have e : numB g (.tup [.int a, .int b]) = decide (((Int.gcd a b : Nat) : Int) = 1) := by
        unfold numB; dsimp only
        rw [if_neg hg, decide_eq_true hb, Bool.true_and]
      rwa [e] at q
    · fail "s"
      simpa [numB, hg, hb] using q
theorem okT_pl {n : Nat} {d : D} (h : Pl n d) : okT d := ⟨h.kind, fun l e x hx => by subst e; exact ((pl_tup.mp h) x hx).kind⟩
theorem is_row_s {n : Nat} {g m : Int} {d : D} {Q : A → List A → Prop} {E : Ex → List A → Prop} (hd : Pl n d) (hm : m ≤ 1000) (q : Q (.v (.bl (rowB g m d))) [.v (.int g), .v d, .v (.int m)]) : Wc (n_is_row [.v (.int g), .v d, .v (.int m)]) Q E := by
  refine wc_fn rfl rfl ?_
  unfold b_is_row
  fail "s"
  refine wo_isTup hd.kind ?_
  fail "s"
  refine wk_b (fun h => ?_) (fun h => ?_)
  case refine_2 =>
    fail "s"
    have e : rowB g m d = false := by cases d <;> first | rfl | cases h
    rw [e] at q
    exact q
  obtain ⟨l, rfl⟩ : ∃ l, d = .tup l := by cases d <;> first | exact ⟨_, rfl⟩ | cases h
  fail "s"
  refine wk_d (fun h2 => ?_) (fun h2 => ?_)
  case refine_2 =>
    fail "s"
    have e : rowB g m (.tup l) = false := by unfold rowB; dsimp only; rw [decide_eq_false h2, Bool.false_and]
    rw [e] at q
    exact q
  have e : rowB g m (.tup l) = l.all (numB g) := by unfold rowB; dsimp only; rw [decide_eq_true h2, Bool.true_and]
  rw [e] at q
  fail "s"
  refine wo_eq rfl ?_
  refine ⟨sz_of (by omega), ?_⟩
  fail "s"
  refine w_compMap (fun d => d) (fun d => A.v (.bl (numB g d))) (xs := l) (by simp) (fun x hx => ?_) ?_
  · fail "s"
    refine is_number_s (okT_pl ((pl_tup.mp hd) x hx)) ?_
    fail "s"
  fail "s"
  refine wo_eq all_map ?_
  fail "s"
  exact q
theorem is_table_s {n : Nat} {g h m : Int} {d : D} {Q : A → List A → Prop} {E : Ex → List A → Prop} (hd : Pl n d) (hh : h ≤ 1000) (hm : m ≤ 1000) (q : Q (.v (.bl (tabB g h m d))) [.v (.int g), .v d, .v (.int h), .v (.int m)]) : Wc (n_is_table [.v (.int g), .v d, .v (.int h), .v (.int m)]) Q E := by
  refine wc_fn rfl rfl ?_
  unfold b_is_table
  fail "s"
  refine wo_isTup hd.kind ?_
  fail "s"
  refine wk_b (fun h0 => ?_) (fun h0 => ?_)
  case refine_2 =>
    fail "s"
    have e : tabB g h m d = false := by cases d <;> first | rfl | cases h0
    rw [e] at q
    exact q
  obtain ⟨l, rfl⟩ : ∃ l, d = .tup l := by cases d <;> first | exact ⟨_, rfl⟩ | cases h0
  fail "s"
  refine wk_d (fun h2 => ?_) (fun h2 => ?_)
  case refine_2 =>
    fail "s"
    have e : tabB g h m (.tup l) = false := by unfold tabB; dsimp only; rw [decide_eq_false h2, Bool.false_and]
    rw [e] at q
    exact q
  have e : tabB g h m (.tup l) = l.all (rowB g m) := by unfold tabB; dsimp only; rw [decide_eq_true h2, Bool.true_and]
  rw [e] at q
  fail "s"
  refine wo_eq rfl ?_
  refine ⟨sz_of (by omega), ?_⟩
  fail "s"
  refine w_compMap (fun d => d) (fun d => A.v (.bl (rowB g m d))) (xs := l) (by simp) (fun x hx => ?_) ?_
  · fail "s"
    refine is_row_s ((pl_tup.mp hd) x hx) hm ?_
    fail "s"
  fail "s"
  refine wo_eq all_map ?_
  fail "s"
  exact q
theorem is_ground_s {d : D} {Q : A → List A → Prop} {E : Ex → List A → Prop} (hd : kindD d ≠ "") (q : Q (.v (.bl (isI d && inD d [.int 0, .int 3, .int 5, .int 7, .int 11, .int 13]))) [.v d]) : Wc (n_is_ground [.v d]) Q E := by
  refine wc_fn rfl rfl ?_
  unfold b_is_ground
  fail "s"
  refine is_whole_s hd ?_
  fail "s"
  refine wk_b (fun h => ?_) (fun h => ?_)
  · fail "s"
    obtain ⟨a, rfl⟩ : ∃ a, d = .int a := by cases d <;> first | exact ⟨_, rfl⟩ | cases h
    refine wo_eq rfl ?_
    fail "s"
    exact q
  · fail "s"
    rw [h] at q
    exact q
theorem look_ground_s {g : Int} {Q : A → List A → Prop} {E : Ex → List A → Prop} (hg : Gr g) (q : Q (.v .non) [.v (.int g)]) : Wc (n_look_ground [.v (.int g)]) Q E := by
  refine wc_fn rfl rfl ?_
  unfold b_look_ground
  fail "s"
  refine is_ground_s (kind_of rfl) ?_
  have e : (isI (D.int g) && inD (D.int g) [.int 0, .int 3, .int 5, .int 7, .int 11, .int 13]) = true := by
    rcases hg with rfl | rfl | rfl | rfl | rfl | rfl <;> rfl
  rw [e]
  fail "s"
  exact q
theorem w_popAt {ρ : DEnv} {E : Ex → DEnv → Prop} {f : M A} {Q : A → DEnv → Prop} {i : Nat} {l0 : List A} (e0 : ρ[i]? = some (some (.m l0))) (k : Wp (f ρ) (fun a ρ1 => ∃ (l : List A) (n : Nat) (d : D), ρ1[i]? = some (some (.m l)) ∧ a = .v (.int n) ∧ n < 1000000 ∧ n < l.length ∧ l[n]? = some (.v d) ∧ Q (.v d) (ρ1.set i (some (.m (l.eraseIdx n))))) E) : Wp (dPopAt i f ρ) Q E := by
  unfold dPopAt
  rw [e0]
  refine wp_bind (wp_mono k (fun a ρ1 ⟨l, n, d, h1, h2, h3, h4, h5, h6⟩ => ?_) fun _ _ z => z)
  subst h2
  rw [h1]
  dsimp only
  have e1 : seqIndex? (n : Int) l.length = some n := by
    unfold seqIndex?
    have : ¬ ((n : Int) < 0) := by omega
    simp only [this, if_false]
    have h : (decide ((0 : Int) ≤ n) && decide ((n : Int) < l.length)) = true := by simp; omega
    rw [if_pos h]
    simp
  rw [if_pos ⟨by omega, by omega⟩, e1]
  dsimp only
  rw [h5]
  exact Wp.mk h6
section
variable {g : Int} {R : Type} [Lean.Grind.CommRing R] {N : NumF g R} {L K L2 k j k2 m h : Nat} {x y r : List R} {t o : List (List R)} {c : R} {Q : A → List A → Prop} {E : Ex → List A → Prop}
theorem pl_rw (hx : ∀ r ∈ x, Ok N r) : Pl 4300 (rwD N.toNumX x) := pl_tup.mpr fun d hd => by
  obtain ⟨r, hr, rfl⟩ := List.mem_map.mp hd
  exact pl_tup.mpr fun e he => by
    simp only [List.mem_cons, List.not_mem_nil, or_false] at he
    rcases he with rfl | rfl
    · exact pl_int.mpr (hx r hr).p
    · exact pl_int.mpr (hx r hr).q
theorem pl_tb (hx : ∀ l ∈ t, ∀ r ∈ l, Ok N r) : Pl 4300 (tbD N.toNumX t) := pl_tup.mpr fun d hd => by
  obtain ⟨l, hl, rfl⟩ := List.mem_map.mp hd
  exact pl_rw (hx l hl)
theorem tab_true (ht : SqT_ m t) : tabB g m m (tbD N.toNumX t) = true := by
  unfold tabB tbD
  dsimp only
  rw [List.length_map, decide_eq_true (by rw [ht.1]), Bool.true_and]
  refine List.all_eq_true.mpr fun d hd => ?_
  obtain ⟨l, hl, rfl⟩ := List.mem_map.mp hd
  rw [rowB_rw, ht.2 l hl]
  simp
/-- the places of the rows that don't begin with nought -/
theorem heads_comp {left : List (List R)} {ρ0 : DEnv} {QL : List A → DEnv → Prop} {E : Ex → DEnv → Prop} (hlen : ∀ l ∈ left, 0 < l.length) (hρ : 8 ≤ ρ0.length) (he : wipeE ρ0 [6, 7] = ρ0)
    (k : ∀ is : List Nat, (∀ i ∈ is, i < left.length ∧ vc (left.getD i []) 0 ≠ 0) → (∀ i, i < left.length → vc (left.getD i []) 0 ≠ 0 → i ∈ is) → QL (is.map fun i : Nat => A.v (.int i)) ρ0) :
    Wp (compL [6, 7] (gTupD 2 (gConsD (gSet 6) (gConsD (gSet 7) (gNilD)))) (dTest (dOp2 (opNe) (dOp2 opIx (dVar 7) (dC (.int 0))) (dC c_NOUGHT))) (dVar 6) (enumD (left.map (rwD N.toNumX))) ρ0) QL E := by
  refine w_compL (fun l ds ρ => ρ = ρ0 ∧ ∃ (pre suf : List (List R)) (is : List Nat), left = pre ++ suf ∧ ds = ((suf.map (rwD N.toNumX)).zipIdx pre.length).map (fun q => D.tup [.int (q.2 : Nat), q.1]) ∧ l = is.map (fun i : Nat => A.v (.int i)) ∧ (∀ i ∈ is, i < pre.length ∧ vc (left.getD i []) 0 ≠ 0) ∧ (∀ i, i < pre.length → vc (left.getD i []) 0 ≠ 0 → i ∈ is)) (l := [])
    ⟨rfl, [], left, [], rfl, rfl, rfl, fun i hi => by simp at hi, fun i hi => by simp at hi⟩ ?_ ?_
  · rintro l d ds ρ ⟨rfl, pre, suf, is, e1, e2, rfl, h1, h2⟩
    cases suf with
    | nil => simp at e2
    | cons row suf =>
      rw [List.map_cons, List.zipIdx_cons, List.map_cons, List.cons.injEq] at e2
      obtain ⟨rfl, rfl⟩ := e2
      have hrow := hlen row (by rw [e1]; simp)
      have hat : left.getD pre.length [] = row := by rw [e1]; simp [List.getD_eq_getElem?_getD]
      have g6 : 6 < ρ.length := by omega
      have g7 : 7 < ρ.length := by omega
      refine w_gtup (by with_unfolding_all rfl) ?_
      refine w_gcons ?_
      refine w_gset g6 ?_
      refine w_gcons ?_
      refine w_gset (by rw [List.length_set]; exact g7) ?_
      refine w_gnil ?_
      refine w_test ?_
      refine w_op2 ?_
      refine w_op2 ?_
      refine w_var (d := rwD N.toNumX row) (by rw [List.getElem?_set_self (by rw [List.length_set]; exact g7)]) ?_
      refine w_c ?_
      refine ix_at (ds := row.map N.nm) rfl (nm_at (k := 0) hrow) ?_
      refine w_c ?_
      unfold c_NOUGHT
      have hw : wipeE ((ρ.set 6 (some (.v (.int (pre.length : Nat))))).set 7 (some (.v (rwD N.toNumX row)))) [6, 7] = ρ := by
        have : wipeE ρ [6, 7] = (ρ.set 7 none).set 6 none := rfl
        rw [this] at he
        show ((((ρ.set 6 _).set 7 _).set 7 none).set 6 none) = ρ
        rw [List.set_set, List.set_comm _ _ (by decide : (6 : Nat) ≠ 7), List.set_set]
        exact he
      refine wo_neZ (N := N.toNumX) fun b hb1 hb0 => ?_
      refine wb ?_
      have e3 : left = (pre ++ [row]) ++ suf := by rw [e1, List.append_assoc]; rfl
      have hz : vc (left.getD pre.length []) 0 = row.getD 0 0 := by rw [hat]; rfl
      refine wk_b (fun hh => ?_) (fun hh => ?_)
      · refine w_var (d := .int (pre.length : Nat)) (by rw [List.getElem?_set_ne (by decide), List.getElem?_set_self g6]) ?_
        rw [hw]
        refine ⟨rfl, pre ++ [row], suf, is ++ [pre.length], e3, by simp, by simp, fun i hi => ?_, fun i hi h3 => ?_⟩
        · rcases List.mem_append.mp hi with hi | hi
          · have := h1 i hi
            exact ⟨by simp; omega, this.2⟩
          · rw [List.mem_singleton] at hi
            subst hi
            exact ⟨by simp, by rw [hz]; exact hb1 hh⟩
        · by_cases hip : i = pre.length
          · subst hip; simp
          · exact List.mem_append_left _ (h2 i (by simp at hi; omega) h3)
      · rw [hw]
        refine ⟨rfl, pre ++ [row], suf, is, e3, by simp, rfl, fun i hi => ?_, fun i hi h3 => ?_⟩
        · have := h1 i hi
          exact ⟨by simp; omega, this.2⟩
        · by_cases hip : i = pre.length
          · subst hip
            exact absurd (hz.trans (hb0 hh)) h3
          · exact h2 i (by simp at hi; omega) h3
  · rintro l' ρ ⟨rfl, pre, suf, is, e1, e2, e3, h1, h2⟩
    cases suf with
    | cons _ _ => simp at e2
    | nil =>
      rw [List.append_nil] at e1
      subst e1
      rw [List.nil_append] at e3
      rw [e3]
      exact k is h1 h2
end
local macro_rules | `(tactic| fail "w") => `(tactic| with_reducible first | (show Wp _ _ _; first | refine w_var (by with_unfolding_all rfl) ?_ | refine w_vvalF ?_ | refine w_c ?_ | refine w_cons ?_ | refine w_op2 ?_ | refine w_nil ?_ | refine w_vnil ?_ | refine w_seq ?_ | refine w_call ?_ | refine w_test ?_ | refine w_setF ?_ | refine w_blt ?_ | refine w_ifS ?_ | refine w_ret ?_ | refine w_gset (by fail "z") ?_ | refine w_items ?_ | refine w_vref (by with_unfolding_all rfl) ?_ | refine w_comp ?_ | refine w_tup ?_ | refine w_op1 ?_ | refine w_orT ?_ | refine w_andT ?_ | refine w_notT ?_ | refine w_skip ?_ | refine w_expr ?_ | refine w_isi ?_ | refine w_lst ?_ | refine w_for ?_ | refine w_gtup (by with_unfolding_all rfl) ?_ | refine w_gcons ?_ | refine w_gnil ?_ | refine w_if ?_ | refine w_setT ?_ | refine w_frz (by with_unfolding_all rfl) ?_ | refine w_appendF (by with_unfolding_all rfl) ?_ | refine w_andV ?_ | refine w_orV ?_ | refine w_notV ?_ | refine w_attr ?_ | refine w_ixOwn (by with_unfolding_all rfl) ?_ | refine w_lenOwn (by with_unfolding_all rfl) ?_ | refine wp_pure ?_ | refine w_rng1 ?_ | refine w_no ?_ | refine w_so ?_ | refine w_sl ?_ | refine w_parF ?_ | refine w_asg ?_ | refine w_compcons ?_ | refine w_compnil ?_ | refine w_borM ?_ | refine w_raise ?_ | refine w_lam ?_ | refine w_step ?_ | refine w_par3 ?_ | refine w_rng2 ?_ | refine w_vvalT ?_ | refine w_extend (by with_unfolding_all rfl) ?_ | refine w_setitemF ?_ | refine w_move (by with_unfolding_all rfl) ?_ | refine w_fmt ?_ | refine w_jscons ?_ | refine w_jsnil ?_ | refine w_join ?_ | refine w_zip ?_ | refine w_zipS ?_ | refine w_enum ?_ | refine w_bor ?_ | refine w_borT ?_ | refine w_rev ?_ | refine w_chain ?_))
theorem frzE_o {o : Option D} {ρ : DEnv} : frzE (Option.map A.v o :: ρ) = Option.map A.v o :: frzE ρ := by cases o <;> rfl
local macro_rules | `(tactic| fail "e") => `(tactic| simp only [frzE_o])
section
variable {g : Int} {R : Type} [Lean.Grind.CommRing R] {N : NumF g R} {L K L2 k j k2 m h : Nat} {x y r : List R} {t o : List (List R)} {c : R} {Q : A → List A → Prop} {E : Ex → List A → Prop}
theorem rows_lst : frzs (o.map fun l => A.v (rwD N.toNumX l)) = o.map (rwD N.toNumX) := by
  have := rows_frz (N := N) (f := fun l : List R => l) (xs := o)
  rwa [List.map_id'] at this
theorem lst_ok : okc 3 (.lst (o.map (rwD N.toNumX))) = true := okc_lst fun d hd => by
  obtain ⟨l, _, rfl⟩ := List.mem_map.mp hd
  exact okc_rw
theorem erase_map {α β : Type} (f : α → β) : ∀ (l : List α) (i : Nat), (l.map f).eraseIdx i = (l.eraseIdx i).map f
  | [], _ => rfl
  | _ :: _, 0 => rfl
  | a :: l, i + 1 => by rw [List.map_cons, List.eraseIdx_cons_succ, List.eraseIdx_cons_succ, List.map_cons, erase_map f l i]
theorem cut_from {α : Type} {l : List α} {k : Nat} : cutL l (some (k : Int)) none = l.drop k := by
  unfold cutL
  rw [HT.sIx_nat, HT.sIx_none]
  by_cases h : k ≤ l.length
  · rw [Nat.min_eq_left h]
    exact List.take_of_length_le (by rw [List.length_drop]; omega)
  · rw [Nat.min_eq_right (by omega), List.drop_of_length_le (Nat.le_refl _), List.drop_of_length_le (by omega)]
    simp
theorem ints_frz {is : List Nat} : frzs (is.map fun i : Nat => A.v (.int i)) = is.map fun i : Nat => D.int i := by
  rw [frzs_eq, List.map_map]
  rfl
theorem ints_ok {is : List Nat} : okc 1 (.lst (is.map fun i : Nat => D.int i)) = true := okc_lst fun d hd => by
  obtain ⟨l, _, rfl⟩ := List.mem_map.mp hd
  exact okc_int
theorem determinant_s (hgr : Gr g) (ht : Tw N m m L k t) (hk : k ≤ 110) (hm : m ≤ 5) (ker : KerL m t) (q : ∀ r, r ≠ 0 → Q (.v (N.nm r)) [.v (.int g), .v (tbD N.toNumX t)]) : Wc (n_determinant [.v (.int g), .v (tbD N.toNumX t)]) Q E := by
  obtain ⟨hg, hg2⟩ := hgr.le
  refine wc_fn rfl rfl ?_
  unfold b_determinant b_determinant_1
  fail "s"
  refine wo_eq (a := .m ((t.map (rwD N.toNumX)).map A.v)) rfl ?_
  fail "s"
  rw [show c_ONE = N.nm 1 from one_nm (N := N), List.map_map]
  refine w_while (fun n ρ => ∃ (left : List (List R)) (found : R) (s4 s5 : Option D) (L' k' Lf c : Nat), ρ = [some (.v (.int g)), some (.v (tbD N.toNumX t)), some (.m (left.map fun l => A.v (rwD N.toNumX l))), some (.v (N.nm found)), s4.map A.v, s5.map A.v, none, none] ∧ left.length = n ∧ (∀ l ∈ left, Rw N n L' k' l) ∧ 0 < L' ∧ Bd k' (L' : Int) ∧ KerL n left ∧ found ≠ 0 ∧ Zn N Lf c found ∧ k' + 4 ≤ c ∧ c * 2 ^ n ≤ 3648 ∧ n ≤ 5)
    ⟨t, 1, none, none, L, k, 1, 114, rfl, ht.len, ht.r, ht.pos, ht.bd, ker, N.one0, Zn.one.up (by decide), by omega, by have : 2 ^ m ≤ 2 ^ 5 := Nat.pow_le_pow_right (by decide) hm; omega, hm⟩ ?_
  rintro n _ ⟨left, found, s4, s5, L', k', Lf, c, rfl, hlen, hrow, L0, hLb, hker, hf0, hfZ, hkc, hc, hn5⟩
  fail "s"
  rw [rows_lst]
  refine wo_neNil (k := 3) lst_ok (by decide) ?_
  fail "s"
  refine wk_b (fun hne => ?_) (fun hne => ?_)
  · fail "s"
    exact q found hf0
  have hn : 1 ≤ n := by
    cases left with
    | nil => simp at hne
    | cons a b => simp at hlen; omega
  obtain ⟨n', rfl⟩ : ∃ n', n = n' + 1 := ⟨n - 1, by omega⟩
  rw [Nat.pow_succ] at hc
  have hc2 : c * 2 ≤ 3648 := by
    have : 1 ≤ 2 ^ n' := Nat.one_le_two_pow
    have : c * 1 ≤ c * 2 ^ n' := Nat.mul_le_mul_left _ this
    rw [← Nat.mul_assoc] at hc
    omega
  have hnn : n' + 1 ≤ 3648 := by
    have h1 : n' + 1 ≤ 2 ^ (n' + 1) := Nat.le_of_lt Nat.lt_two_pow_self
    rw [Nat.pow_succ] at h1
    have : 2 ^ n' * 2 ≤ c * (2 ^ n' * 2) := Nat.le_mul_of_pos_left _ (by omega)
    omega
  have hw : ∀ l ∈ left, l.length = n' + 1 := fun l hl => (hrow l hl).len
  fail "s"
  rw [rows_lst]
  refine wo_eq rfl ?_
  refine ⟨sz_of (by unfold enumD; rw [List.length_map, List.length_zipIdx, List.length_map, hlen]; omega), ?_⟩
  refine heads_comp (fun l hl => by rw [hw l hl]; omega) (by with_unfolding_all exact Nat.le_refl 8) (by with_unfolding_all rfl) fun is hi1 hi2 => ?_
  obtain ⟨kk, hd0, hkk, h00⟩ := ker_head N.one0 hker
  have hkl := (List.getElem?_eq_some_iff.mp hkk).1
  have hkg : left.getD kk [] = hd0 := by rw [List.getD_eq_getElem?_getD, hkk]; rfl
  have hin := hi2 kk hkl (by rw [hkg]; exact h00)
  cases is with
  | nil => cases hin
  | cons i0 is =>
    clear hkk hkl hkg h00 hin hi2
    obtain ⟨hil, hi0⟩ := hi1 i0 (by simp)
    generalize hhd : left.getD i0 [] = head at hi0
    have hget : left[i0]? = some head := by rw [← hhd, List.getD_eq_getElem?_getD, List.getElem?_eq_getElem hil]; rfl
    have hhm := List.mem_of_getElem? hget
    have hhR := hrow head hhm
    have hh0 : head.getD 0 0 ≠ 0 := hi0
    have hhZ : Zn N L' k' (head.getD 0 0) := hhR.vc 0
    have hatl : ∀ l : List R, l.length = n' + 1 → atI (l.map N.nm) 0 = some (N.nm (l.getD 0 0)) := fun l h => nm_at (k := 0) (by omega)
    refine ⟨_, rfl, List.all_eq_true.mpr fun a ha => ?_, ?_⟩
    · obtain ⟨i, _, rfl⟩ := List.mem_map.mp ha
      rfl
    dsimp only
    rw [ints_frz]
    fail "s"
    refine wo_eqNil (k := 1) (ints_ok (is := i0 :: is)) (by decide) ?_
    fail "s"
    refine wk_b (fun hh => absurd hh (by simp)) (fun _ => ?_)
    fail "s"
    refine w_popAt (by with_unfolding_all rfl) ?_
    have ix0 : ∀ {P : A → Prop}, P (.v (.int i0)) → Wo (opIx (.v (.lst (.int i0 :: is.map fun i : Nat => D.int i))) (.v (.int 0))) P := fun h => ix_at (d := .int i0) rfl (by rw [atI_get (by decide) (by simp)]; rfl) h
    fail "s"
    refine ix0 ?_
    refine ⟨_, i0, rwD N.toNumX head, rfl, rfl, by omega, by rw [List.length_map]; exact hil, by rw [List.getElem?_map, hget]; rfl, ?_⟩
    rw [erase_map]
    repeat' (fail_if_success (with_reducible refine w_if ?_)); first | fail "w" | fail "e"
    refine wp_mono (Q := fun a ρ1 => ρ1 = [some (.v (.int g)), some (.v (tbD N.toNumX t)), some (.m ((left.eraseIdx i0).map fun l => A.v (rwD N.toNumX l))), some (.v (N.nm found)), some (.v (.lst (.int i0 :: is.map fun i : Nat => D.int i))), some (.v (rwD N.toNumX head)), none, none] ∧ ∃ z, a = A.v (N.nm z) ∧ z ≠ 0 ∧ Zn N L' (k' + 1) z) ?_ ?_ (fun _ _ z => z)
    · fail "s"
      refine ix0 ?_
      fail "s"
      refine wk_d (fun _ => ?_) (fun _ => ?_)
      · fail "s"
        refine ix_at (ds := head.map N.nm) rfl (hatl head hhR.len) ?_
        fail "s"
        exact ⟨_, rfl, hh0, hhZ.up (by omega)⟩
      · fail "s"
        refine ix_at (ds := head.map N.nm) rfl (hatl head hhR.len) ?_
        fail "s"
        refine minus_s hg hg2 (hhZ.ok (by omega)) ?_
        fail "s"
        exact ⟨-(head.getD 0 0), rfl, fun z => hh0 (by grind), hhZ.neg⟩
    rintro _ _ ⟨rfl, z, rfl, hz0, hzZ⟩
    have hfz := hfZ.mul hzZ
    fail "s"
    refine times_s hg hg2 (hfZ.ok (by omega)) (hzZ.ok (by omega)) (hfz.ok (by omega)) ?_
    fail "s"
    rw [rows_lst]
    refine wo_eq (a := (left.eraseIdx i0).map (rwD N.toNumX)) rfl ?_
    have hel : (left.eraseIdx i0).length = n' := by rw [List.length_eraseIdx_of_lt hil]; omega
    refine ⟨sz_of (by rw [List.length_map, hel]; omega), ?_⟩
    obtain ⟨M, m0, mb, iv⟩ := hhZ.inv (n := k' + 1) hh0
    have step : ∀ row ∈ left, Rw N n' (L' * M) (k' + k' + 3) (stepR N.inv head row) ∧ Ok N (row.getD 0 0 * N.inv (head.getD 0 0)) ∧ (∀ r ∈ head, Ok N (r * -(row.getD 0 0 * N.inv (head.getD 0 0)))) ∧ ∀ r ∈ List.zipWith (· + ·) row (head.map (· * -(row.getD 0 0 * N.inv (head.getD 0 0)))), Ok N r := fun row hr => by
      have hR := hrow row hr
      have hq := iv _ ((hR.vc 0).up (by omega)) (by omega)
      have hS := hhR.mulc hq.neg
      have hA := (hR.scale m0 mb).up (n := k' + k' + 2) (by omega)
      have hZ := hA.addr (hS.up (by omega))
      refine ⟨⟨stepR_len hhR.len hR.len, fun r hr => ?_, hZ.pos, hZ.bd.mono (by omega)⟩, hq.ok (by omega), fun r hr => (hS.z (List.mem_map.mpr ⟨r, hr, rfl⟩)).ok (by omega), hZ.ok (by omega)⟩
      exact NumF.sle (hZ.s r (List.mem_of_mem_drop hr)) (by omega)
    fail "s"
    refine w_compMap (rwD N.toNumX) (fun row => A.v (rwD N.toNumX (stepR N.inv head row))) (xs := left.eraseIdx i0) rfl (fun row hr => ?_) ?_
    · have hr := List.mem_of_mem_eraseIdx hr
      have hR := hrow row hr
      obtain ⟨s1, s2, s3, s4⟩ := step row hr
      fail "s"
      refine ix_at (ds := row.map N.nm) rfl (hatl row hR.len) ?_
      fail "s"
      refine ix_at (ds := head.map N.nm) rfl (hatl head hhR.len) ?_
      fail "s"
      refine over_s hg hg2 ((hR.vc 0).ok (by omega)) (hhZ.ok (by omega)) hh0 s2 ?_
      fail "s"
      refine taken_off_s hg hg2 (by rw [hR.len, hhR.len]) (by rw [hR.len]; omega) (hR.ok (by omega)) (hhR.ok (by omega)) s2 s3 s4 ?_
      fail "s"
      refine wo_eq (a := .v (rwD N.toNumX (stepR N.inv head row))) ?_ ?_
      · unfold rwD opSl
        simp only [A.frz]
        rw [show (some (1 : Int)) = some ((1 : Nat) : Int) from rfl, cut_from, ← List.map_drop]
        rfl
      fail "s"
    fail "s"
    refine ⟨n', by omega, (left.eraseIdx i0).map (stepR N.inv head), found * z, some (.lst (D.int i0 :: is.map fun i : Nat => D.int i)), some (rwD N.toNumX head), L' * M, k' + k' + 3, Lf * L', c * 2, by rw [List.map_map]; rfl, by rw [List.length_map, hel], fun l hl => ?_, Nat.mul_pos L0 m0, (bdm hLb mb).mono (by omega), ker_step N.mi hw hget hh0 hker, fun e => ?_, hfz.up (by omega), by omega, by rw [Nat.mul_assoc, Nat.mul_comm 2]; exact hc, by omega⟩
    · obtain ⟨row, hr, rfl⟩ := List.mem_map.mp hl
      exact (step row (List.mem_of_mem_eraseIdx hr)).1
    · have := N.mi found hf0
      exact hz0 (by grind)
end
local macro_rules | `(tactic| fail "w") => `(tactic| with_reducible first | (show Wp _ _ _; first | refine w_var (by with_unfolding_all rfl) ?_ | refine w_vvalF ?_ | refine w_c ?_ | refine w_cons ?_ | refine w_op2 ?_ | refine w_nil ?_ | refine w_vnil ?_ | refine w_seq ?_ | refine w_call ?_ | refine w_test ?_ | refine w_setF ?_ | refine w_blt ?_ | refine w_ifS ?_ | refine w_ret ?_ | refine w_gset (by fail "z") ?_ | refine w_items ?_ | refine w_vref (by with_unfolding_all rfl) ?_ | refine w_comp ?_ | refine w_tup ?_ | refine w_op1 ?_ | refine w_orT ?_ | refine w_andT ?_ | refine w_notT ?_ | refine w_skip ?_ | refine w_expr ?_ | refine w_isi ?_ | refine w_lst ?_ | refine w_for ?_ | refine w_gtup (by with_unfolding_all rfl) ?_ | refine w_gcons ?_ | refine w_gnil ?_ | refine w_if ?_ | refine w_setT ?_ | refine w_frz (by with_unfolding_all rfl) ?_ | refine w_appendF (by with_unfolding_all rfl) ?_ | refine w_andV ?_ | refine w_orV ?_ | refine w_notV ?_ | refine w_attr ?_ | refine w_ixOwn (by with_unfolding_all rfl) ?_ | refine w_lenOwn (by with_unfolding_all rfl) ?_ | refine wp_pure ?_ | refine w_rng1 ?_ | refine w_no ?_ | refine w_so ?_ | refine w_sl ?_ | refine w_parF ?_ | refine w_asg ?_ | refine w_compcons ?_ | refine w_compnil ?_ | refine w_borM ?_ | refine w_setFld ?_ | refine w_raise ?_ | refine w_lam ?_ | refine w_step ?_ | refine w_par3 ?_ | refine w_rng2 ?_ | refine w_vvalT ?_ | refine w_extend (by with_unfolding_all rfl) ?_ | refine w_setitemF ?_ | refine w_move (by with_unfolding_all rfl) ?_ | refine w_fmt ?_ | refine w_jscons ?_ | refine w_jsnil ?_ | refine w_join ?_ | refine w_zip ?_ | refine w_zipS ?_ | refine w_enum ?_ | refine w_bor ?_ | refine w_borT ?_ | refine w_rev ?_ | refine w_chain ?_))
section
variable {g : Int} {R : Type} [Lean.Grind.CommRing R] {N : NumF g R} {L K L2 k j k2 m h : Nat} {x y r : List R} {t o : List (List R)} {c : R} {Q : A → List A → Prop} {E : Ex → List A → Prop}
theorem is_form_table_s (hgr : Gr g) (ht : Tw N m m L k t) (hk : k ≤ 110) (hm : 1 ≤ m) (hm5 : m ≤ 5) (hgm : 0 < g → m ≤ 4) (hf : FormT m t) (q : Q (.v (.bl true)) [.v (.int g), .v (tbD N.toNumX t)]) : Wc (n_is_form_table [.v (.int g), .v (tbD N.toNumX t)]) Q E := by
  obtain ⟨hg, hg2⟩ := hgr.le
  have hlen : opLen [A.v (tbD N.toNumX t)] = some (.v (.int m)) := by unfold tbD opLen; simp [A.frz, seqD, ht.len]
  have hpl : Pl 4300 (tbD N.toNumX t) := pl_tb fun l hl => (ht.r l hl).ok (by omega)
  refine wc_fn rfl rfl ?_
  unfold b_is_form_table c_MOST_LETTERS c_NOUGHT
  fail "s"
  refine wo_isTup hpl.kind ?_
  rw [show iTup (tbD N.toNumX t) = true from rfl]
  fail "s"
  refine wo_eq hlen ?_
  fail "s"
  refine wk_d (fun _ => ?_) (fun h => absurd (by omega) h)
  fail "s"
  refine wo_eq (a := .v (.int (if 0 < g then 1 else 0))) (by simp [opInt]) ?_
  fail "s"
  have hup : (m : Int) ≤ 5 - (if 0 < g then 1 else 0) := by split <;> omega
  refine wk_d (fun _ => ?_) (fun h => absurd hup h)
  fail "s"
  refine wo_eq hlen ?_
  fail "s"
  refine wo_eq hlen ?_
  fail "s"
  refine is_table_s (n := 4300) hpl (by omega) (by omega) ?_
  rw [tab_true ht.sq]
  fail "s"
  refine turned_s (m := m) (fun l hl => (ht.r l hl).len) (by rw [ht.len]; omega) (by rw [ht.len]; omega) hm (by omega) ?_
  fail "s"
  refine wo_eqS (k := 3) (by rw [hf.trn]) okc_tb (by decide) ?_
  fail "s"
  refine determinant_s hgr ht hk hm5 hf.ker fun r hr => ?_
  fail "s"
  refine wo_neZ (N := N.toNumX) fun b hb1 hb0 => ?_
  cases b with
  | false => exact absurd (hb0 rfl) hr
  | true =>
    fail "s"
    exact q
end
local macro_rules | `(tactic| fail "w") => `(tactic| with_reducible first | (show Wp _ _ _; first | refine w_var (by with_unfolding_all rfl) ?_ | refine w_vvalF ?_ | refine w_c ?_ | refine w_cons ?_ | refine w_op2 ?_ | refine w_nil ?_ | refine w_vnil ?_ | refine w_seq ?_ | refine w_call ?_ | refine w_test ?_ | refine w_setF ?_ | refine w_blt ?_ | refine w_ifS ?_ | refine w_ret ?_ | refine w_gset (by fail "z") ?_ | refine w_items ?_ | refine w_vref (by with_unfolding_all rfl) ?_ | refine w_comp ?_ | refine w_tup ?_ | refine w_op1 ?_ | refine w_orT ?_ | refine w_andT ?_ | refine w_notT ?_ | refine w_skip ?_ | refine w_expr ?_ | refine w_isi ?_ | refine w_lst ?_ | refine w_for ?_ | refine w_gtup (by with_unfolding_all rfl) ?_ | refine w_gcons ?_ | refine w_gnil ?_ | refine w_if ?_ | refine w_setT ?_ | refine w_frz (by with_unfolding_all rfl) ?_ | refine w_appendF (by with_unfolding_all rfl) ?_ | refine w_andV ?_ | refine w_orV ?_ | refine w_notV ?_ | refine w_attr ?_ | refine w_ixOwn (by with_unfolding_all rfl) ?_ | refine w_lenOwn (by with_unfolding_all rfl) ?_ | refine wp_pure ?_ | refine w_rng1 ?_ | refine w_no ?_ | refine w_so ?_ | refine w_sl ?_ | refine w_parF ?_ | refine w_asg ?_ | refine w_compcons ?_ | refine w_compnil ?_ | refine w_borM ?_ | refine w_setFld ?_ | refine w_isOwn ?_ | refine w_raise ?_ | refine w_lam ?_ | refine w_step ?_ | refine w_par3 ?_ | refine w_rng2 ?_ | refine w_vvalT ?_ | refine w_extend (by with_unfolding_all rfl) ?_ | refine w_setitemF ?_ | refine w_move (by with_unfolding_all rfl) ?_ | refine w_fmt ?_ | refine w_jscons ?_ | refine w_jsnil ?_ | refine w_join ?_ | refine w_zip ?_ | refine w_zipS ?_ | refine w_enum ?_ | refine w_bor ?_ | refine w_borT ?_ | refine w_rev ?_ | refine w_chain ?_))
section
variable {g : Int} {R : Type} [Lean.Grind.CommRing R] {N : NumF g R} {L K L2 k j k2 m h : Nat} {x y r : List R} {t o : List (List R)} {c : R} {Q : A → List A → Prop} {E : Ex → List A → Prop}
theorem form_init_s (hgr : Gr g) (ht : Tw N m m L k t) (hk : k ≤ 110) (hm : 1 ≤ m) (hm5 : m ≤ 5) (hgm : 0 < g → m ≤ 4) (hf : FormT m t)
    (q : Q (.v .non) [.mi "Form" ["table", "ground"] [.v (tbD N.toNumX t), .v (.int g)], .v (tbD N.toNumX t), .v (.int g)]) : Wc (n_Form_init [.mi "Form" [] [], .v (tbD N.toNumX t), .v (.int g)]) Q E := by
  refine wc_fn rfl rfl ?_
  unfold b_Form_init
  fail "s"
  refine wc_noX (look_ground_s hgr ?_)
  fail "s"
  refine wc_noX (is_form_table_s hgr ht hk hm hm5 hgm hf ?_)
  fail "s"
  refine ⟨_, _, rfl, ⟨by decide, by decide⟩, ?_⟩
  fail "s"
  refine ⟨_, _, rfl, ⟨by decide, by decide⟩, ?_⟩
  fail "s"
  exact q
theorem look_form_s (q : Q (.v .non) [.v (fD N t)]) : Wc (n_look_form [.v (fD N t)]) Q E := by
  refine wc_fn rfl rfl ?_
  unfold b_look_form
  fail "s"
  refine wo_eq (a := .v (.bl true)) rfl ?_
  fail "s"
  exact q
end
theorem bd10 (z : Int) (h1 : -1000 < z) (h2 : z < 1000) : Bd 10 z := by
  unfold Bd
  have : (2:Nat) ^ 10 = 1024 := by decide
  omega
theorem canon_pos {g u : Int} (h0 : 0 ≤ u) (h : u < g) : canon g u 1 = dN u 1 := by
  unfold canon
  rw [if_pos (by omega), Int.fmod_eq_of_lt h0 h]
section
variable {g : Int} {R : Type} [Lean.Grind.CommRing R] {N : NumF g R} {L K L2 k j k2 m h : Nat} {x y r : List R} {t o : List (List R)} {c : R} {Q : A → List A → Prop} {E : Ex → List A → Prop}
theorem num_exS {u d : Int} (hu : -100 < u) (hu2 : u < 100) (hd : 1 ≤ d) (hd2 : d ≤ 9) (ok : okd g d) : ∃ r, canon g u d = N.nm r ∧ N.S 2520 20 r := by
  obtain ⟨r, e⟩ := N.ex u d (by omega) ok
  have hdv : d.toNat ∣ 2520 := by
    have : d = 1 ∨ d = 2 ∨ d = 3 ∨ d = 4 ∨ d = 5 ∨ d = 6 ∨ d = 7 ∨ d = 8 ∨ d = 9 := by omega
    rcases this with rfl | rfl | rfl | rfl | rfl | rfl | rfl | rfl | rfl <;> decide
  refine ⟨r, e, N.Sex e (by omega) hdv (by decide) ?_⟩
  have hq : 2520 / d.toNat ≤ 2520 := Nat.div_le_self _ _
  have hu3 : u.natAbs ≤ 99 := by omega
  unfold Bd
  rw [Int.natAbs_mul, Int.natAbs_natCast]
  have := Nat.mul_le_mul hu3 hq
  have : (2:Nat) ^ 20 = 1048576 := by decide
  omega
theorem zn20 {r : R} (h : N.S 2520 20 r) : Zn N 2520 20 r := ⟨h, by decide, by unfold Bd; decide⟩
theorem number_s {a b : Int} (hg : g = 0 ∨ 2 ≤ g) (hg2 : g ≤ 13) (ha : 0 ≤ a) (hb : 0 ≤ b) (hb2 : b < 2147483647)
    (q : ∀ r a' b', 0 ≤ a' → 0 ≤ b' → b' < 2147483647 → Zn N 2520 20 r → Q (.v (N.nm r)) [.m [.v (.int a'), .v (.int b')], .v (.int g)]) : Wc (n_l_number [.m [.v (.int a), .v (.int b)], .v (.int g)]) Q E := by
  refine wc_fn rfl rfl ?_
  unfold b_l_number
  fail "s"
  refine wk_d (fun h => ?_) (fun h => ?_)
  · fail "s"
    refine take_s ha hb hb2 h (by omega) ?_
    intro d a1 b1' ha1 hb1 hb11 h0 h1
    fail "s"
    obtain ⟨r, e, hr⟩ := num_exS (N := N) (u := d) (d := 1) (by omega) (by omega) (by decide) (by decide) okd1
    have e2 := (canon_pos h0 h1).symm.trans e
    have := q r _ _ ha1 hb1 hb11 (zn20 hr)
    rw [← e2] at this
    exact this
  · have g0 : g = 0 := by omega
    subst g0
    fail "s"
    fail "t"
    intro d2 a2 b2 ha2 hb2 hb21 h20 h21
    fail "s"
    refine wo_ixM (fun i => 3 ≤ i ∧ i ≤ 99) h20 h21 (by simp) fun wd hwd => ?_
    fail "s"
    fail "t"
    intro d3 a3 b3 ha3 hb3 hb31 h30 h31
    fail "s"
    fail "t"
    intro d4 a4 b4 ha4 hb4 hb41 h40 h41
    fail "s"
    refine wo_ixM (fun i => 1 ≤ i ∧ i ≤ 9) h40 h41 (by simp; omega) fun dn hdn => ?_
    fail "s"
    fail "t"
    intro d5 a5 b5 ha5 hb5 hb51 h50 h51
    fail "s"
    have hf := fdiv_range (i := wd) (j := 2) (by omega) (by decide)
    have okn : okd 0 dn := by unfold okd; rw [if_neg (by decide)]; omega
    obtain ⟨r, e, hr⟩ := num_exS (N := N) (u := d5 - wd.fdiv 2) (d := dn) (by omega) (by omega) hdn.1 hdn.2 okn
    refine l_low_s (.inl rfl) (by decide) ((bd10 _ (by omega) (by omega)).mono (by decide)) okn e ((zn20 hr).ok (by decide)).p ((zn20 hr).ok (by decide)).q ?_
    fail "s"
    exact q _ _ _ ha5 hb5 hb51 (zn20 hr)
theorem wo_eqZ {r : R} {P : A → Prop} (q : ∀ b : Bool, (b = true → r = 0) → (b = false → r ≠ 0) → P (.v (.bl b))) : Wo (opEq (.v (N.nm r)) (.v (.tup [.int 0, .int 1]))) P := by
  by_cases h : r = 0
  · subst h
    refine wo_eqS (k := 1) ?_ okc_nmX (by decide) (q true (fun _ => rfl) fun z => by cases z)
    exact (N.zero.symm : D.tup [.int 0, .int 1] = N.nm 0)
  · refine wo_eqD (k := 1) (j := 1) okc_nmX (by simp [okc, okcs, A.frz]) (by decide) (by decide) ?_
    have ne : PyData.eqv (A.v (N.nm r)).frz.py (A.v (.tup [.int 0, .int 1])).frz.py = false := by
      have e := eqv_dN (a := N.p r) (b := N.q r) (c := 0) (d := 1)
      have z := N.pz _ h
      have : PyData.eqv (A.v (N.nm r)).frz.py (A.v (.tup [.int 0, .int 1])).frz.py = PyData.eqv (dN (N.p r) (N.q r)).py (dN 0 1).py := rfl
      rw [this, e, decide_eq_false z]
      rfl
    rw [ne]
    exact q false (fun z => by cases z) fun _ => h
theorem row_s {a b : Int} (hg : g = 0 ∨ 2 ≤ g) (hg2 : g ≤ 13) (ha : 0 ≤ a) (hb : 0 ≤ b) (hb2 : b < 2147483647) (hm2 : m ≤ 100)
    (q : ∀ l a' b', 0 ≤ a' → 0 ≤ b' → b' < 2147483647 → Rw N m 2520 20 l → Q (.v (rwD N.toNumX l)) [.m [.v (.int a'), .v (.int b')], .v (.int g), .v (.int m)]) : Wc (n_l_row [.m [.v (.int a), .v (.int b)], .v (.int g), .v (.int m)]) Q E := by
  refine wc_fn rfl rfl ?_
  unfold b_l_row
  fail "s"
  refine ⟨⟨by omega, by omega⟩, ⟨sz_of (by simp; omega), ?_⟩⟩
  fail "s"
  refine w_compL (fun k ds ρ => ∃ a b l, ρ = [some (.m [.v (.int a), .v (.int b)]), some (.v (.int g)), some (.v (.int m)), none] ∧ 0 ≤ a ∧ 0 ≤ b ∧ b < 2147483647 ∧ k = l.map (fun r => A.v (N.nm r)) ∧ l.length + ds.length = m ∧ ∀ r ∈ l, Zn N 2520 20 r) (l := []) ⟨a, b, [], rfl, ha, hb, hb2, rfl, by simp, fun r hr => by cases hr⟩ ?_ ?_
  · rintro k d ds _ ⟨a1, b1, l, rfl, ha1, hb1, hb11, rfl, hl, hA⟩
    fail "s"
    refine number_s (N := N) hg hg2 ha1 hb1 hb11 fun r a2 b2 ha2 hb2 hb21 hr => ?_
    fail "s"
    refine ⟨_, _, l ++ [r], rfl, ha2, hb2, hb21, by simp, by simp at hl ⊢; omega, fun s hs => ?_⟩
    rcases List.mem_append.mp hs with hs | hs
    · exact hA s hs
    · simp at hs; exact hs ▸ hr
  · rintro k _ ⟨a1, b1, l, rfl, ha1, hb1, hb11, e, hl, hA⟩
    fail "s"
    refine wo_eq rfl ?_
    fail "s"
    have e : k = l.map fun r => A.v (N.nm r) := by simpa using e
    rw [e, nums_frz (N := N) (f := fun r : R => r), List.map_id']
    exact q l _ _ ha1 hb1 hb11 ⟨by simpa using hl, fun r hr => (hA r hr).s, by decide, by unfold Bd; decide⟩
end
local macro_rules | `(tactic| fail "w") => `(tactic| with_reducible first | (show Wp _ _ _; first | refine w_var (by with_unfolding_all rfl) ?_ | refine w_vvalF ?_ | refine w_c ?_ | refine w_cons ?_ | refine w_op2 ?_ | refine w_nil ?_ | refine w_vnil ?_ | refine w_seq ?_ | refine w_call ?_ | refine w_test ?_ | refine w_setF ?_ | refine w_blt ?_ | refine w_ifS ?_ | refine w_ret ?_ | refine w_gset (by fail "z") ?_ | refine w_items ?_ | refine w_vref (by with_unfolding_all rfl) ?_ | refine w_comp ?_ | refine w_tup ?_ | refine w_op1 ?_ | refine w_orT ?_ | refine w_andT ?_ | refine w_notT ?_ | refine w_skip ?_ | refine w_expr ?_ | refine w_isi ?_ | refine w_lst ?_ | refine w_for ?_ | refine w_gtup (by with_unfolding_all rfl) ?_ | refine w_gcons ?_ | refine w_gnil ?_ | refine w_if ?_ | refine w_setT ?_ | refine w_frz (by with_unfolding_all rfl) ?_ | refine w_appendF (by with_unfolding_all rfl) ?_ | refine w_andV ?_ | refine w_orV ?_ | refine w_notV ?_ | refine w_ixOwn (by with_unfolding_all rfl) ?_ | refine w_lenOwn (by with_unfolding_all rfl) ?_ | refine wp_pure ?_ | refine w_rng1 ?_ | refine w_no ?_ | refine w_so ?_ | refine w_sl ?_ | refine w_parF ?_ | refine w_asg ?_ | refine w_compcons ?_ | refine w_compnil ?_ | refine w_borM ?_ | refine w_setitem2 ?_ | refine w_raise ?_ | refine w_lam ?_ | refine w_step ?_ | refine w_par3 ?_ | refine w_rng2 ?_ | refine w_vvalT ?_ | refine w_extend (by with_unfolding_all rfl) ?_ | refine w_setitemF ?_ | refine w_move (by with_unfolding_all rfl) ?_ | refine w_fmt ?_ | refine w_jscons ?_ | refine w_jsnil ?_ | refine w_join ?_ | refine w_zip ?_ | refine w_zipS ?_ | refine w_enum ?_ | refine w_bor ?_ | refine w_borT ?_ | refine w_rev ?_ | refine w_chain ?_))
section
variable {g : Int} {R : Type} [Lean.Grind.CommRing R] {N : NumF g R} {L K L2 k j k2 m h : Nat} {x y r : List R} {t o : List (List R)} {c : R} {Q : A → List A → Prop} {E : Ex → List A → Prop}
end
section
variable {g : Int} {R : Type} [Lean.Grind.CommRing R] {N : NumF g R} {L K L2 k j k2 m h : Nat} {x y r : List R} {t o : List (List R)} {c : R} {Q : A → List A → Prop} {E : Ex → List A → Prop}
end
section
variable {g : Int} {R : Type} [Lean.Grind.CommRing R] {N : NumF g R} {L K L2 k j k2 m h : Nat} {x y r : List R} {t o : List (List R)} {c : R} {Q : A → List A → Prop} {E : Ex → List A → Prop}
theorem eL_Z {i : Nat} : Rw N m 2520 20 (eL m i) := ⟨by simp [eL], fun r hr => by
  obtain ⟨a, _, rfl⟩ := List.mem_map.mp hr
  split
  · exact N.Sone (by unfold Bd; decide)
  · exact N.Szero _ _, by decide, by unfold Bd; decide⟩
end
section
variable {g : Int} {R : Type} [Lean.Grind.CommRing R] {N : NumF g R} {L K L2 k j k2 m h : Nat} {x y r : List R} {t o : List (List R)} {c : R} {Q : A → List A → Prop} {E : Ex → List A → Prop}
end
local macro_rules | `(tactic| fail "w") => `(tactic| with_reducible first | (show Wp _ _ _; first | refine w_var (by with_unfolding_all rfl) ?_ | refine w_vvalF ?_ | refine w_c ?_ | refine w_cons ?_ | refine w_op2 ?_ | refine w_nil ?_ | refine w_vnil ?_ | refine w_seq ?_ | refine w_call ?_ | refine w_test ?_ | refine w_setF ?_ | refine w_blt ?_ | refine w_ifS ?_ | refine w_ret ?_ | refine w_gset (by fail "z") ?_ | refine w_items ?_ | refine w_vref (by with_unfolding_all rfl) ?_ | refine w_comp ?_ | refine w_tup ?_ | refine w_op1 ?_ | refine w_orT ?_ | refine w_andT ?_ | refine w_notT ?_ | refine w_skip ?_ | refine w_expr ?_ | refine w_isi ?_ | refine w_lst ?_ | refine w_for ?_ | refine w_gtup (by with_unfolding_all rfl) ?_ | refine w_gcons ?_ | refine w_gnil ?_ | refine w_if ?_ | refine w_setT ?_ | refine w_frz (by with_unfolding_all rfl) ?_ | refine w_appendF (by with_unfolding_all rfl) ?_ | refine w_andV ?_ | refine w_orV ?_ | refine w_notV ?_ | refine w_ixOwn (by with_unfolding_all rfl) ?_ | refine w_lenOwn (by with_unfolding_all rfl) ?_ | refine wp_pure ?_ | refine w_rng1 ?_ | refine w_no ?_ | refine w_so ?_ | refine w_sl ?_ | refine w_parF ?_ | refine w_asg ?_ | refine w_compcons ?_ | refine w_compnil ?_ | refine w_callK ?_ | refine w_clear (by with_unfolding_all rfl) ?_ | refine w_raise ?_ | refine w_lam ?_ | refine w_step ?_ | refine w_par3 ?_ | refine w_rng2 ?_ | refine w_vvalT ?_ | refine w_extend (by with_unfolding_all rfl) ?_ | refine w_setitemF ?_ | refine w_move (by with_unfolding_all rfl) ?_ | refine w_fmt ?_ | refine w_jscons ?_ | refine w_jsnil ?_ | refine w_join ?_ | refine w_zip ?_ | refine w_zipS ?_ | refine w_enum ?_ | refine w_bor ?_ | refine w_borT ?_ | refine w_rev ?_ | refine w_chain ?_))
section
variable {g : Int} {R : Type} [Lean.Grind.CommRing R] {N : NumF g R} {L K L2 k j k2 m h : Nat} {x y r a b : List R} {t o : List (List R)} {c : R} {Q : A → List A → Prop} {E : Ex → List A → Prop}
theorem Cost.all : ∀ {rows : List (List R)}, (∀ r ∈ rows, Rw N m L k r ∧ bl m t r r ≠ 0) → 4 * k + 2 * j + 4 * m + 20 ≤ 4300 → Cost N m j t rows (rows.length * (k + k + j + m + m + m + 5))
  | [], _, _ => by rw [List.length_nil, Nat.zero_mul]; exact .nil
  | r :: rows, h, hk => by
    have := Cost.cons (h r (by simp)).1 (h r (by simp)).2 hk (Cost.all (fun s hs => h s (List.mem_cons_of_mem _ hs)) hk)
    rw [List.length_cons, Nat.succ_mul, Nat.add_comm]
    exact this
end
local macro_rules | `(tactic| fail "w") => `(tactic| with_reducible first | (show Wp _ _ _; first | refine w_var (by with_unfolding_all rfl) ?_ | refine w_vvalF ?_ | refine w_c ?_ | refine w_cons ?_ | refine w_op2 ?_ | refine w_nil ?_ | refine w_vnil ?_ | refine w_seq ?_ | refine w_call ?_ | refine w_test ?_ | refine w_setF ?_ | refine w_blt ?_ | refine w_ifS ?_ | refine w_ret ?_ | refine w_gset (by fail "z") ?_ | refine w_items ?_ | refine w_vref (by with_unfolding_all rfl) ?_ | refine w_comp ?_ | refine w_tup ?_ | refine w_op1 ?_ | refine w_orT ?_ | refine w_andT ?_ | refine w_notT ?_ | refine w_skip ?_ | refine w_expr ?_ | refine w_isi ?_ | refine w_lst ?_ | refine w_for ?_ | refine w_gtup (by with_unfolding_all rfl) ?_ | refine w_gcons ?_ | refine w_gnil ?_ | refine w_if ?_ | refine w_setT ?_ | refine w_frz (by with_unfolding_all rfl) ?_ | refine w_appendF (by with_unfolding_all rfl) ?_ | refine w_andV ?_ | refine w_orV ?_ | refine w_notV ?_ | refine w_attr ?_ | refine w_ixOwn (by with_unfolding_all rfl) ?_ | refine w_lenOwn (by with_unfolding_all rfl) ?_ | refine wp_pure ?_ | refine w_rng1 ?_ | refine w_no ?_ | refine w_so ?_ | refine w_sl ?_ | refine w_parF ?_ | refine w_asg ?_ | refine w_compcons ?_ | refine w_compnil ?_ | refine w_borM ?_ | refine w_setFld ?_ | refine w_isOwn ?_ | refine w_callK ?_ | refine w_clear (by with_unfolding_all rfl) ?_ | refine w_obj ?_ | refine w_makeK ?_ | refine w_lrg ?_ | refine w_raise ?_ | refine w_lam ?_ | refine w_step ?_ | refine w_par3 ?_ | refine w_rng2 ?_ | refine w_vvalT ?_ | refine w_extend (by with_unfolding_all rfl) ?_ | refine w_setitemF ?_ | refine w_move (by with_unfolding_all rfl) ?_ | refine w_fmt ?_ | refine w_jscons ?_ | refine w_jsnil ?_ | refine w_join ?_ | refine w_zip ?_ | refine w_zipS ?_ | refine w_enum ?_ | refine w_bor ?_ | refine w_borT ?_ | refine w_rev ?_ | refine w_chain ?_))
section
variable {g : Int} {R : Type} [Lean.Grind.CommRing R] {N : NumF g R} {L K L2 k j k2 m h : Nat} {x y r u v a b : List R} {t o : List (List R)} {c : R} {Q : A → List A → Prop} {E : Ex → List A → Prop}
theorem thr_ones (hx : x.length = m) : thr m x (onesL m) = x := by
  refine vc_ext (m := m) (thr_len onesT.2) hx fun j hj => ?_
  rw [thr_vc (by rw [hx, onesT.1]) onesT.2 hj, onesT.1]
  have e : ∀ k, k < m → vc x k * tb (onesL m) k j = vc x k * (if k = j then 1 else 0) := fun k hk => by
    unfold onesL
    rw [tb_map hk, eL_vc hj]
  rw [sm_congr e, sm_one hj (fun i hi ne => by rw [if_neg ne]; grind), if_pos rfl]
  grind
/-- x and c times y -/
def axL (x y : List R) (c : R) : List R := List.zipWith (· + ·) x (y.map (· * c))
end
section
variable {g : Int} {R : Type} [Lean.Grind.CommRing R] {N : NumF g R} {L K L2 k j k2 m h : Nat} {x y r u v a b : List R} {t o : List (List R)} {c : R} {Q : A → List A → Prop} {E : Ex → List A → Prop}
theorem up2 (hx : Rw N m L k x) (hy : Rw N m L2 k2 y) : Rw N m (L * L2) (k + k2 + 2) y := by
  have a2 := (hy.scale hx.pos hx.bd).up (n := k + k2 + 2) (by omega)
  rwa [Nat.mul_comm L2 L] at a2
/-- rows whose mirrors lead x to y -/
structure Led (N : NumF g R) (m L k : Nat) (t : List (List R)) (x y : List R) (rows : List (List R)) : Prop where
  w : ∀ r ∈ rows, Rw N m L k r ∧ bl m t r r ≠ 0
  same : x = y → rows.length = 0
  one : x ≠ y → bl m t (axL x y (-1)) (axL x y (-1)) ≠ 0 → rows.length = 1
  two : x ≠ y → bl m t (axL x y (-1)) (axL x y (-1)) = 0 → rows.length = 2
  led : rows.foldl (fun x r => mR N m t r x) x = y
theorem Led.le {rows : List (List R)} (h : Led N m L k t x y rows) : rows.length ≤ 2 := by
  by_cases e : x = y
  · rw [h.same e]; decide
  · by_cases z : bl m t (axL x y (-1)) (axL x y (-1)) = 0
    · rw [h.two e z]; decide
    · rw [h.one e z]; decide
end
section
variable {g : Int} {R : Type} [Lean.Grind.CommRing R] {N : NumF g R} {L K L2 k j k2 m h : Nat} {x y r u v a b : List R} {t o : List (List R)} {c : R} {Q : A → List A → Prop} {E : Ex → List A → Prop}
end
section
variable {g : Int} {R : Type} [Lean.Grind.CommRing R] {N : NumF g R} {L K L2 k j k2 m h : Nat} {x y r u v a b : List R} {t o : List (List R)} {c : R} {Q : A → List A → Prop} {E : Ex → List A → Prop}
/-- a thing tried: what is a row of it is one of few figures -/
structure Th (N : NumF g R) (m : Nat) (d : D) : Prop where
  pl : Pl 700 d
  row : rowB g m d = true → ∃ x, d = rwD N.toNumX x ∧ Rw N m 2520 26 x
theorem Th.of (hx : Rw N m 2520 k x) (hk : k ≤ 26) : Th N m (rwD N.toNumX x) := ⟨Pl.mono (n := 26) (by decide) _ (pl_tup.mpr fun d hd => by
  obtain ⟨r, hr, rfl⟩ := List.mem_map.mp hd
  have := (hx.z hr).B (n := 26) (by decide) hk
  exact pl_tup.mpr fun e he => by
    simp only [List.mem_cons, List.not_mem_nil, or_false] at he
    rcases he with rfl | rfl
    · exact pl_int.mpr this.p
    · exact pl_int.mpr this.q), fun _ => ⟨x, rfl, hx.up hk⟩⟩
end
section
variable {g : Int} {R : Type} [Lean.Grind.CommRing R] {N : NumF g R} {L K L2 k j k2 m h : Nat} {x y r u v a b : List R} {t o : List (List R)} {c : R} {Q : A → List A → Prop} {E : Ex → List A → Prop}
end
local macro_rules | `(tactic| fail "w") => `(tactic| with_reducible first | (show Wp _ _ _; first | refine w_var (by with_unfolding_all rfl) ?_ | refine w_vvalF ?_ | refine w_c ?_ | refine w_cons ?_ | refine w_op2 ?_ | refine w_nil ?_ | refine w_vnil ?_ | refine w_seq ?_ | refine w_call ?_ | refine w_test ?_ | refine w_setF ?_ | refine w_blt ?_ | refine w_ifS ?_ | refine w_ret ?_ | refine w_gset (by fail "z") ?_ | refine w_items ?_ | refine w_vref (by with_unfolding_all rfl) ?_ | refine w_comp ?_ | refine w_tup ?_ | refine w_op1 ?_ | refine w_orT ?_ | refine w_andT ?_ | refine w_notT ?_ | refine w_skip ?_ | refine w_expr ?_ | refine w_isi ?_ | refine w_lst ?_ | refine w_for ?_ | refine w_gtup (by with_unfolding_all rfl) ?_ | refine w_gcons ?_ | refine w_gnil ?_ | refine w_if ?_ | refine w_setT ?_ | refine w_frz (by with_unfolding_all rfl) ?_ | refine w_appendF (by with_unfolding_all rfl) ?_ | refine w_andV ?_ | refine w_orV ?_ | refine w_notV ?_ | refine w_ixOwn (by with_unfolding_all rfl) ?_ | refine w_lenOwn (by with_unfolding_all rfl) ?_ | refine wp_pure ?_ | refine w_rng1 ?_ | refine w_no ?_ | refine w_so ?_ | refine w_sl ?_ | refine w_parF ?_ | refine w_asg ?_ | refine w_compcons ?_ | refine w_compnil ?_ | refine w_lenSet ?_ | refine w_enumT ?_ | refine w_raise ?_ | refine w_lam ?_ | refine w_step ?_ | refine w_par3 ?_ | refine w_rng2 ?_ | refine w_vvalT ?_ | refine w_extend (by with_unfolding_all rfl) ?_ | refine w_setitemF ?_ | refine w_move (by with_unfolding_all rfl) ?_ | refine w_fmt ?_ | refine w_jscons ?_ | refine w_jsnil ?_ | refine w_join ?_ | refine w_zip ?_ | refine w_zipS ?_ | refine w_enum ?_ | refine w_bor ?_ | refine w_borT ?_ | refine w_rev ?_ | refine w_chain ?_))
section
variable {g : Int} {R : Type} [Lean.Grind.CommRing R] {N : NumF g R} {L K L2 k j k2 m n h e M : Nat} {x y r u v a b : List R} {t o F G T rows : List (List R)} {hs : List Nat} {c : R} {Q : DD.A → List DD.A → Prop} {E : Ex → List DD.A → Prop}
theorem headed_s (hl : x.length ≤ 1000) (q : Q (.v (.int (hd x))) [.v (rwD N.toNumX x)]) : Wc (n_headed [.v (rwD N.toNumX x)]) Q E := by
  refine wc_fn rfl rfl ?_
  unfold b_headed c_NOUGHT
  fail "s"
  refine wo_eq (a := x.map N.nm) rfl ?_
  refine ⟨sz_of (by unfold enumD; rw [List.length_map, List.length_zipIdx, List.length_map]; omega), ?_⟩
  fail "s"
  refine w_compL (fun l ds ρ => ρ = [some (.v (rwD N.toNumX x)), none, none, none] ∧ ∃ (pre suf : List R) (is : List Nat), x = pre ++ suf ∧ ds = ((suf.map N.nm).zipIdx pre.length).map (fun q => D.tup [.int (q.2 : Nat), q.1]) ∧ l = is.map (fun i : Nat => DD.A.v (.int i)) ∧ (hd x < pre.length → ∃ t, is = hd x :: t) ∧ (pre.length ≤ hd x → is = [])) (l := [])
    ⟨rfl, [], x, [], rfl, rfl, rfl, fun h => by simp at h, fun _ => rfl⟩ ?_ ?_
  · rintro l d ds ρ ⟨rfl, pre, suf, is, e1, e2, rfl, h1, h2⟩
    cases suf with
    | nil => simp at e2
    | cons a suf =>
      rw [List.map_cons, List.zipIdx_cons, List.map_cons, List.cons.injEq] at e2
      obtain ⟨rfl, rfl⟩ := e2
      have hat : vc x pre.length = a := by
        unfold vc
        rw [e1]
        simp [List.getD_eq_getElem?_getD]
      have e3 : x = (pre ++ [a]) ++ suf := by rw [e1, List.append_assoc]; rfl
      fail "s"
      refine wo_neZ (N := N.toNumX) fun b hb1 hb0 => ?_
      fail "s"
      refine wk_b (fun hh => ?_) (fun hh => ?_)
      · fail "s"
        refine ⟨pre ++ [a], suf, is ++ [pre.length], e3, by simp, by simp, fun h3 => ?_, fun h3 => ?_⟩
        · rcases Nat.lt_or_ge (hd x) pre.length with h4 | h4
          · obtain ⟨t, ht⟩ := h1 h4
            exact ⟨t ++ [pre.length], by rw [ht]; rfl⟩
          · have : hd x = pre.length := by simp at h3; omega
            exact ⟨[], by rw [h2 h4, this]; rfl⟩
        · exfalso
          have := hd_low (l := x) (i := pre.length) (by simp at h3; omega)
          exact hb1 hh (hat.symm.trans this)
      · fail "s"
        have ne : hd x ≠ pre.length := fun z => by
          have hlt : hd x < x.length := by rw [z, e1]; simp
          have := hd_ne hlt
          rw [z, hat] at this
          exact this (hb0 hh)
        refine ⟨pre ++ [a], suf, is, e3, by simp, rfl, fun h3 => h1 (by simp at h3; omega), fun h3 => h2 (by simp at h3; omega)⟩
  rintro l' _ ⟨rfl, pre, suf, is, e1, e2, e3, h1, h2⟩
  cases suf with
  | cons _ _ => simp at e2
  | nil =>
    rw [List.append_nil] at e1
    subst e1
    rw [List.nil_append] at e3
    subst e3
    fail "s"
    rw [ints_frz]
    refine wo_neNil ints_ok (by decide) ?_
    cases is with
    | nil =>
      have : hd x = x.length := by
        have := hd_le (l := x)
        rcases Nat.lt_or_ge (hd x) x.length with h4 | h4
        · obtain ⟨t, ht⟩ := h1 h4; cases ht
        · omega
      rw [this] at q
      simp only [List.map_nil, List.isEmpty_nil]
      fail "s"
      refine wo_eq (a := .v (.int x.length)) (by unfold rwD opLen; simp [A.frz, seqD]) ?_
      fail "s"
      exact q
    | cons i is =>
      have : i = hd x := by
        rcases Nat.lt_or_ge (hd x) x.length with h4 | h4
        · obtain ⟨t, ht⟩ := h1 h4; cases ht; rfl
        · cases h2 h4
      subst this
      simp only [List.map_cons, List.isEmpty_cons]
      fail "s"
      refine ix_at (ds := D.int (hd x) :: is.map fun i : Nat => D.int i) rfl (by rw [atI_get (by decide) (by simp)]; rfl) ?_
      fail "s"
      exact q
theorem headed_ok (hl : x.length ≤ 1000) : ∃ l', n_headed [.v (rwD N.toNumX x)] = .ok (.v (.int (hd x))) l' := by
  obtain ⟨a, l, e, rfl⟩ := ex_wc (headed_s (N := N) (x := x) (Q := fun a _ => a = .v (.int (hd x))) (E := fun _ _ => False) hl rfl)
  exact ⟨l, e⟩
end
section
variable {g : Int} {R : Type} [Lean.Grind.CommRing R] {N : NumF g R} {L K L2 k j k2 m n h e M : Nat} {x y r u v a b : List R} {t o F G T rows : List (List R)} {hs : List Nat} {c : R} {Q : DD.A → List DD.A → Prop} {E : Ex → List DD.A → Prop}
/-- taking off one row after another -/
theorem axp_off (x y : List R) (c : R) : List.zipWith (· + ·) x (y.map (· * -c)) = axp x y (-c) := rfl
/-- the bits of a reduced row -/
def eb (k s : Nat) : Nat := dz k s + 1
theorem dz_mono {k s s' : Nat} (h : s ≤ s') : dz k s ≤ dz k s' := by
  induction h with
  | refl => exact Nat.le_refl _
  | step _ ih => exact Nat.le_trans ih (by show _ ≤ 1 + k + dz k _ + (_ + 1); omega)
theorem red_Z {e : Nat} (ha : Rw N n L k a) (M0 : 0 < M) (mb : Bd e (M : Int)) (hF : ∀ f ∈ F, Rw N n M e f) (h : Rf n F) (hT : ∀ f ∈ T, f ∈ F) (nd : T.Nodup) (hl : T.length ≤ 20) : Rw N n (L * M) (k + e + 22) (redF T a) := by
  obtain ⟨h1, h2⟩ := red_vc h hT nd ha.len
  refine Rw.of_vc h1 (Nat.mul_pos ha.pos M0) ((bdm ha.bd mb).mono (by omega)) fun j hj => ?_
  rw [h2 j hj]
  exact (rem_Z ha M0 mb (fun f hf => hF f (hT f hf)) j).up (by omega)
/-- the program's inner loop -/
theorem inner {d0 : D} {s5 : Option DD.A} {QF : Flow → DEnv → Prop} {E2 : Ex → DEnv → Prop} {e : Nat} {s4 : Option DD.A} (hgr : Gr g) (ha : Rw N n L k a) (M0 : 0 < M) (mb : Bd e (M : Int)) (hF : ∀ f ∈ F, Rw N n M e f) (h : Rf n F) (hn : n ≤ 100) (hl : F.length ≤ 20) (hke : k + e + e + k + 100 ≤ 4300)
    (q : ∀ s4, QF .nx [some (.v (.int g)), some (.v d0), some (.v (.lst (F.map (rwD N.toNumX)))), some (.v (rwD N.toNumX (redF F a))), s4, s5]) :
    Wp (forL (gSet 4) b_least_rows_1 (F.map (rwD N.toNumX)) [some (.v (.int g)), some (.v d0), some (.v (.lst (F.map (rwD N.toNumX)))), some (.v (rwD N.toNumX a)), s4, s5]) QF E2 := by
  obtain ⟨hg, hg2⟩ := hgr.le
  unfold b_least_rows_1
  refine w_forL (fun ds ρ => ∃ (T T2 : List (List R)) (s4 : Option DD.A), F = T ++ T2 ∧ ds = T2.map (rwD N.toNumX) ∧ ρ = [some (.v (.int g)), some (.v d0), some (.v (.lst (F.map (rwD N.toNumX)))), some (.v (rwD N.toNumX (redF T a))), s4, s5])
    ⟨[], F, s4, rfl, rfl, rfl⟩ ?_ ?_
  · rintro d ds _ ⟨T, T2, s4, e1, e2, rfl⟩
    cases T2 with
    | nil => cases e2
    | cons f T2 =>
      rw [List.map_cons, List.cons.injEq] at e2
      obtain ⟨rfl, rfl⟩ := e2
      have hfF : f ∈ F := by rw [e1]; simp
      have hTF : ∀ t ∈ T, t ∈ F := fun t ht => by rw [e1]; exact List.mem_append_left _ ht
      have hTF2 : ∀ t ∈ T ++ [f], t ∈ F := fun t ht => by
        rcases List.mem_append.mp ht with ht | ht
        · exact hTF t ht
        · rw [List.mem_singleton] at ht; subst ht; exact hfF
      have e3 : F = (T ++ [f]) ++ T2 := by rw [e1]; simp
      have nd2 : (T ++ [f]).Nodup := (List.nodup_append.mp (e3 ▸ h.nd)).1
      have nd1 : T.Nodup := (List.nodup_append.mp nd2).1
      have hlT : T.length + 1 + T2.length ≤ 20 := by rw [e3] at hl; simp at hl; omega
      have hf := hF f hfF
      have z1 := red_Z ha M0 mb hF h hTF nd1 (by omega)
      have z2 := red_Z ha M0 mb hF h hTF2 nd2 (by simp; omega)
      obtain ⟨l1, v1⟩ := red_vc h hTF nd1 ha.len
      have hfl : hd f < n := h.hd f hfF
      have hc : vc (redF T a) (hd f) = vc a (hd f) := by
        rw [v1 _ hfl]
        unfold rem
        rw [ls_zero fun t ht => by
          rw [h.zero f hfF t (hTF t ht) fun z => ?_]; grind
          have := (List.nodup_append.mp nd2).2.2 t ht f (by simp)
          exact this z.symm]
        grind
      have zc : Zn N L k (vc (redF T a) (hd f)) := by rw [hc]; exact ha.vc _
      have zm : Rw N n (M * L) (e + (k + 1)) (f.map (· * -(vc (redF T a) (hd f)))) := hf.mulc zc.neg
      fail "s"
      refine headed_s (by rw [hf.len]; omega) ?_
      fail "s"
      refine ix_at (ds := (redF T a).map N.nm) rfl (nm_at (by rw [l1]; exact hfl)) ?_
      fail "s"
      have e5 : (redF T a).getD (hd f) 0 = vc (redF T a) (hd f) := rfl
      rw [e5]
      refine taken_off_s (N := N) hg hg2 (by rw [l1, hf.len]) (by rw [l1]; omega) (z1.ok (by omega)) (hf.ok (by omega)) (zc.ok (by omega)) (fun r hr => (zm.ok (by omega)) _ (List.mem_map.mpr ⟨r, hr, rfl⟩)) (by rw [axp_off]; have := redF_snoc (T := T) (f := f) (a := a); rw [← this]; exact z2.ok (by omega)) ?_
      rw [axp_off]
      have e4 : axp (redF T a) f (-(vc (redF T a) (hd f))) = redF (T ++ [f]) a := redF_snoc.symm
      rw [e4]
      fail "s"
      exact ⟨T ++ [f], T2, _, e3, rfl, rfl⟩
  · rintro _ ⟨T, T2, s4, e1, e2, rfl⟩
    have : T2 = [] := by simpa using e2.symm
    subst this
    rw [List.append_nil] at e1
    subst e1
    exact q s4
end
local macro_rules | `(tactic| fail "w") => `(tactic| with_reducible first | (show Wp _ _ _; first | refine w_var (by with_unfolding_all rfl) ?_ | refine w_vvalF ?_ | refine w_c ?_ | refine w_cons ?_ | refine w_op2 ?_ | refine w_nil ?_ | refine w_vnil ?_ | refine w_seq ?_ | refine w_call ?_ | refine w_test ?_ | refine w_setF ?_ | refine w_blt ?_ | refine w_ifS ?_ | refine w_ret ?_ | refine w_gset (by fail "z") ?_ | refine w_items ?_ | refine w_vref (by with_unfolding_all rfl) ?_ | refine w_comp ?_ | refine w_tup ?_ | refine w_op1 ?_ | refine w_orT ?_ | refine w_andT ?_ | refine w_notT ?_ | refine w_skip ?_ | refine w_expr ?_ | refine w_isi ?_ | refine w_lst ?_ | refine w_for ?_ | refine w_gtup (by with_unfolding_all rfl) ?_ | refine w_gcons ?_ | refine w_gnil ?_ | refine w_if ?_ | refine w_setT ?_ | refine w_frz (by with_unfolding_all rfl) ?_ | refine w_appendF (by with_unfolding_all rfl) ?_ | refine w_andV ?_ | refine w_orV ?_ | refine w_notV ?_ | refine w_ixOwn (by with_unfolding_all rfl) ?_ | refine w_lenOwn (by with_unfolding_all rfl) ?_ | refine wp_pure ?_ | refine w_rng1 ?_ | refine w_no ?_ | refine w_so ?_ | refine w_sl ?_ | refine w_parF ?_ | refine w_asg ?_ | refine w_compcons ?_ | refine w_compnil ?_ | refine w_sortK ?_ | refine w_lenSet ?_ | refine w_enumT ?_ | refine w_raise ?_ | refine w_lam ?_ | refine w_step ?_ | refine w_par3 ?_ | refine w_rng2 ?_ | refine w_vvalT ?_ | refine w_extend (by with_unfolding_all rfl) ?_ | refine w_setitemF ?_ | refine w_move (by with_unfolding_all rfl) ?_ | refine w_fmt ?_ | refine w_jscons ?_ | refine w_jsnil ?_ | refine w_join ?_ | refine w_zip ?_ | refine w_zipS ?_ | refine w_enum ?_ | refine w_bor ?_ | refine w_borT ?_ | refine w_rev ?_ | refine w_chain ?_))
section
variable {g : Int} {R : Type} [Lean.Grind.CommRing R] {N : NumF g R} {L K L2 k j k2 m n h e M : Nat} {x y r u v a b : List R} {t o F G T rows : List (List R)} {hs : List Nat} {AA : List (List R)} {c : R} {Q : DD.A → List DD.A → Prop} {E : Ex → List DD.A → Prop}
/-- no row is spanned by those ahead of it -/
def Ind (n : Nat) (rows : List (List R)) : Prop := ∀ P a P2, rows = P ++ a :: P2 → ¬ Spn n P a
theorem noz (N : NumF g R) : ∀ p q : R, p ≠ 0 → q ≠ 0 → p * q ≠ 0 := fun p q h1 h2 z => by
  have := N.mi p h1
  exact h2 (by
    have e : q = p * q * N.inv p := by grind
    rw [e, z]; grind)
theorem wp_at {α : Type} {m : DD.M α} {ρ ρ' : DEnv} {Q : α → DEnv → Prop} {E : Ex → DEnv → Prop} (e : ρ = ρ') (k : Wp (m ρ') Q E) : Wp (m ρ) Q E := e ▸ k
/-- a place after a comprehension has borrowed it -/
def s4n : Option DD.A → Option DD.A
  | some (.v d) => some (.v d)
  | _ => none
theorem zip_hd {X : List (List R)} : (X.map fun f => ((hd f : Nat) : Int)).zip (X.map (rwD N.toNumX)) = (X.map fun f => (((hd f : Nat) : Int), f)).map fun q => (q.1, rwD N.toNumX q.2) := by
  induction X with
  | nil => rfl
  | cons f X ih => rw [List.map_cons, List.map_cons, List.zip_cons_cons, ih]; rfl
theorem srt_rows {X : List (List R)} : (sortP ((X.map fun f => ((hd f : Nat) : Int)).zip (X.map (rwD N.toNumX)))).map (·.2) = (srtH X).map (rwD N.toNumX) := by
  rw [zip_hd, ← sortP_map (f := fun f => rwD N.toNumX f), List.map_map]
  unfold srtH
  rw [List.map_map]
  rfl
theorem least_rows_s {d0 : D} (hgr : Gr g) (e0 : seqD d0 = some (rows.map (rwD N.toNumX))) (L0 : 0 < L) (hb : Bd k (L : Int)) (hr : ∀ a ∈ rows, Rw N n L k a) (hl : rows.length ≤ 10) (hn : n ≤ 100) (hB : 2 * dz k 10 + 2 * k + 200 ≤ 4300)
    (q : ∀ (G : List (List R)) (M : Nat), Lst n rows G → (Ind n rows → G.length = rows.length) → 0 < M → Bd (dz k 10 + 1) (M : Int) → (∀ f ∈ G, Rw N n M (dz k 10 + 1) f) → G.length ≤ rows.length → Q (.v (tbD N.toNumX G)) [.v (.int g), .v d0]) : Wc (n_least_rows [.v (.int g), .v d0]) Q E := by
  obtain ⟨hg, hg2⟩ := hgr.le
  have o := N.one0
  have hwr : Wid n rows := fun a ha => (hr a ha).len
  refine wc_fn rfl rfl ?_
  unfold b_least_rows b_least_rows_2 c_ONE
  fail "s"
  refine wo_eq (a := rows.map (rwD N.toNumX)) (by simpa [A.frz] using e0) ?_
  refine w_forL (fun ds ρ => ∃ (P P2 AA F : List (List R)) (hs : List Nat) (s3 s4 s5 : Option A), rows = P ++ P2 ∧ ds = P2.map (rwD N.toNumX) ∧ Rdc n AA F hs ∧ (∀ a ∈ AA, a ∈ P) ∧ AA.length ≤ P.length ∧ (∀ a ∈ P, Spn n F a) ∧ (Ind n rows → AA.length = P.length) ∧ ρ = [some (.v (.int g)), some (.v d0), some (.v (.lst (F.reverse.map (rwD N.toNumX)))), s3, s4, s5])
    ⟨[], rows, [], [], [], none, none, none, rfl, rfl, Rdc.nil o, fun a ha => absurd ha (by simp), Nat.le_refl _, fun a ha => absurd ha (by simp), fun _ => rfl, rfl⟩ ?_ ?_
  · rintro d ds _ ⟨P, P2, AA, F, hs, s3, s4, s5, er, e2, hR, hAP, hAl, hsp, hind, rfl⟩
    cases P2 with
    | nil => cases e2
    | cons a P2 =>
      rw [List.map_cons, List.cons.injEq] at e2
      obtain ⟨rfl, rfl⟩ := e2
      have hra := hr a (by rw [er]; simp)
      have er2 : rows = (P ++ [a]) ++ P2 := by rw [er]; simp
      have hPl : P.length + 1 + P2.length ≤ 10 := by rw [er] at hl; simp at hl; omega
      have hsl : hs.length ≤ 9 := by rw [← hR.lA]; omega
      have hAr : ∀ b ∈ AA, Rw N n L k b := fun b hb => hr b (by rw [er]; exact List.mem_append_left _ (hAP b hb))
      obtain ⟨M, M0, mb0, hF0⟩ := hR.size L0 hb hAr
      have hmono : dz k hs.length + 1 ≤ dz k 10 + 1 := by have := dz_mono (k := k) (show hs.length ≤ 10 by omega); omega
      have mb : Bd (dz k 10 + 1) (M : Int) := mb0.mono hmono
      have hF : ∀ f ∈ F, Rw N n M (dz k 10 + 1) f := fun f hf => (hF0 f hf).up hmono
      have hrf := hR.rf o
      have hrf2 : Rf n F.reverse := hrf.perm (List.reverse_perm F)
      have hFl : F.length = hs.length := hR.lF
      have hFr : ∀ f ∈ F.reverse, f ∈ F := fun f hf => List.mem_reverse.mp hf
      obtain ⟨lc, vcur⟩ := red_vc hrf hFr hrf2.nd hra.len
      have zcur := red_Z hra M0 mb hF hrf hFr hrf2.nd (by rw [List.length_reverse]; omega)
      have hrs : ∀ j, j < n → rsd F hs a j = vc (redF F.reverse a) j := fun j hj => by rw [vcur j hj, rem_rev, hR.rsd_rem o]
      have spP : ∀ f ∈ F, Spn n P f := fun f hf => (hR.sA f hf).mono hAP
      fail "s"
      refine wo_eq (a := F.reverse.map (rwD N.toNumX)) rfl ?_
      refine inner (F := F.reverse) hgr hra M0 mb (fun f hf => hF f (hFr f hf)) hrf2 hn (by rw [List.length_reverse]; omega) (by omega) fun s4 => ?_
      generalize hcur : redF F.reverse a = cur at *
      fail "s"
      refine headed_s (by rw [lc]; omega) ?_
      fail "s"
      refine wo_eq (a := .v (.int n)) (by unfold rwD opLen; simp [A.frz, seqD, lc]) ?_
      fail "s"
      refine wk_d (fun hp => ?_) (fun hp => ?_)
      · have hp : hd cur < n := by omega
        have hw0 : vc cur (hd cur) ≠ 0 := hd_ne (by omega)
        have zw := zcur.vc (hd cur)
        obtain ⟨M3, m30, mb3, q3⟩ := zw.inv (n := k + (dz k 10 + 1) + 23) hw0
        have z1 : Zn N (L * M) (k + (dz k 10 + 1) + 23) (1 : R) := ⟨N.Sone ((zcur.bd).mono (by omega)), zcur.pos, (zcur.bd).mono (by omega)⟩
        have zi := q3 1 z1 (by omega)
        have hst : Stp n F hs a (cur.map (· * (1 * N.inv (vc cur (hd cur))))) (hd cur) (1 * N.inv (vc cur (hd cur))) := ⟨hra.len, by simp [lc], hp, by rw [hrs _ hp]; exact hw0, by rw [hrs _ hp]; have := N.mi _ hw0; grind, fun c hc => by rw [hrs c (by omega)]; exact hd_low hc, fun c hc => by rw [vc_scale, hrs c hc]⟩
        have wA : Wid n (a :: AA) := fun b hb => by
          rcases List.mem_cons.mp hb with rfl | hb
          · exact hra.len
          · exact hR.wA b hb
        have sx : Spn n (a :: AA) (cur.map (· * (1 * N.inv (vc cur (hd cur))))) := by
          refine Spn.scale wA ?_ _
          rw [← hcur]
          exact redF_sp wA (fun f hf => hR.sA f (hFr f hf)) (.mem wA (by simp))
        have hR2 := hR.grow (noz N) hst sx
        have hAr2 : ∀ b ∈ a :: AA, Rw N n L k b := fun b hb => by
          rcases List.mem_cons.mp hb with rfl | hb
          · exact hra
          · exact hAr b hb
        obtain ⟨M2, M20, mb20, hF20⟩ := hR2.size L0 hb hAr2
        have hmono2 : dz k (hd cur :: hs).length + 1 ≤ dz k 10 + 1 := by have := dz_mono (k := k) (show (hd cur :: hs).length ≤ 10 by rw [List.length_cons]; omega); omega
        have hF2 : ∀ f ∈ (cur.map (· * (1 * N.inv (vc cur (hd cur))))) :: F.map (fun f => axp f (cur.map (· * (1 * N.inv (vc cur (hd cur))))) (-(vc f (hd cur)))), Rw N n M2 (dz k 10 + 1) f := fun f hf => (hF20 f hf).up hmono2
        have hrr := hF2 _ List.mem_cons_self
        generalize hii : 1 * N.inv (vc cur (hd cur)) = ii at *
        fail "s"
        rw [one_nm (N := N)]
        refine ix_at (ds := cur.map N.nm) rfl (nm_at (by rw [lc]; exact hp)) ?_
        fail "s"
        have egd : cur.getD (hd cur) 0 = vc cur (hd cur) := rfl
        rw [egd]
        refine over_s hg hg2 (Zn.one.ok (by decide)) (zw.ok (by omega)) hw0 (by rw [hii]; exact zi.ok (by omega)) ?_
        rw [hii]
        fail "s"
        refine scaled_s hg hg2 (by rw [lc]; omega) (zcur.ok (by omega)) (zi.ok (by omega)) (fun r hr => (hrr.z (List.mem_map.mpr ⟨r, hr, rfl⟩)).ok (by omega)) ?_
        generalize hrw : cur.map (· * ii) = rw_ at *
        fail "s"
        refine wo_eq (a := F.reverse.map (rwD N.toNumX)) rfl ?_
        refine ⟨sz_of (by simp; omega), ?_⟩
        fail "s"
        refine w_compMap (rwD N.toNumX) (fun f => A.v (rwD N.toNumX (axp f rw_ (-(vc f (hd cur)))))) (xs := F.reverse) rfl (fun f hf => ?_) ?_
        · have hfF := hFr f hf
          have zf := hF f hfF
          have zc := zf.vc (hd cur)
          have zm : Rw N n (M2 * M) (dz k 10 + 1 + (dz k 10 + 1 + 1)) (rw_.map (· * -(vc f (hd cur)))) := hrr.mulc zc.neg
          have hz := hF2 (axp f rw_ (-(vc f (hd cur)))) (List.mem_cons_of_mem _ (List.mem_map.mpr ⟨f, hfF, rfl⟩))
          fail "s"
          refine ix_at (ds := f.map N.nm) rfl (nm_at (by rw [zf.len]; exact hp)) ?_
          fail "s"
          have egf : f.getD (hd cur) 0 = vc f (hd cur) := rfl
          rw [egf]
          refine taken_off_s (N := N) hg hg2 (by rw [zf.len, hrr.len]) (by rw [zf.len]; omega) (zf.ok (by omega)) (hrr.ok (by omega)) (zc.ok (by omega)) (fun r hr => (zm.ok (by omega)) _ (List.mem_map.mpr ⟨r, hr, rfl⟩)) (by rw [axp_off]; exact hz.ok (by omega)) ?_
          rw [axp_off]
          fail "s"
          try exact ⟨rfl, trivial⟩
        refine wp_at (ρ' := [some (.v (.int g)), some (.v d0), some (.v (.lst (F.reverse.map (rwD N.toNumX)))), some (.v (rwD N.toNumX rw_)), s4n s4, some (.v (.int (hd cur)))]) (by rcases s4 with _ | (_ | _) <;> rfl) ?_
        fail "s"
        refine wo_eq (a := A.m (((F.reverse.map fun f => axp f rw_ (-(vc f (hd cur)))) ++ [rw_]).map fun f => A.v (rwD N.toNumX f))) ?_ ?_
        · unfold opAdd
          simp only
          rw [if_pos (sz_of (by simp; omega)), rows_frz (N := N) (f := fun f => axp f rw_ (-(vc f (hd cur))))]
          simp [frzs, A.frz]
        fail "s"
        rw [rows_lst]
        refine ⟨P ++ [a], P2, a :: AA, rw_ :: F.map (fun f => axp f rw_ (-(vc f (hd cur)))), hd cur :: hs, _, _, _, er2, rfl, hR2, fun b hb => ?_, by simp; omega, fun b hb => ?_, fun hi => by simp [hind hi], by rw [List.reverse_cons, List.map_reverse]⟩
        · rcases List.mem_cons.mp hb with rfl | hb
          · simp
          · exact List.mem_append_left _ (hAP b hb)
        · have hb0 : ∀ c, c < n → rsd (rw_ :: F.map (fun f => axp f rw_ (-(vc f (hd cur))))) (hd cur :: hs) a c = 0 := fun c hc => hR2.ex a (by simp) c hc
          have subF : ∀ f ∈ F, Spn n (rw_ :: F.map (fun f => axp f rw_ (-(vc f (hd cur))))) f := fun f hf => by
            have w2 := hR2.wF
            have m1 : Spn n (rw_ :: F.map (fun f => axp f rw_ (-(vc f (hd cur))))) (axp f rw_ (-(vc f (hd cur)))) := .mem w2 (List.mem_cons_of_mem _ (List.mem_map.mpr ⟨f, hf, rfl⟩))
            have m2 : Spn n (rw_ :: F.map (fun f => axp f rw_ (-(vc f (hd cur))))) rw_ := .mem w2 (by simp)
            have lf := hR.wF f hf
            have lw : rw_.length = n := hrr.len
            have e : f = axp (axp f rw_ (-(vc f (hd cur)))) rw_ (vc f (hd cur)) := vc_ext (m := n) lf (axp_len (axp_len lf lw) lw) fun j hj => by
              rw [axp_vc (axp_len lf lw) lw hj, axp_vc lf lw hj]; grind
            rw [e]
            exact m1.ax w2 m2 _
          rcases List.mem_append.mp hb with hb | hb
          · exact (hsp b hb).trans hR2.wF subF
          · rw [List.mem_singleton] at hb
            subst hb
            exact hR2.sp hra.len hb0
      · fail "s"
        have hz : hd cur = cur.length := by have := hd_le (l := cur); omega
        have ha0 : Spn n F a := hR.sp hra.len fun c hc => by rw [hrs c hc]; exact hd_all hz c
        refine ⟨P ++ [a], P2, AA, F, hs, _, _, _, er2, rfl, hR, fun b hb => List.mem_append_left _ (hAP b hb), by simp; omega, fun b hb => ?_, fun hi => absurd (ha0.trans (fun b hb => hwr b (by rw [er]; exact List.mem_append_left _ hb)) spP) (hi P a P2 er), rfl⟩
        rcases List.mem_append.mp hb with hb | hb
        · exact hsp b hb
        · rw [List.mem_singleton] at hb; subst hb; exact ha0
  · rintro _ ⟨P, P2, AA, F, hs, s3, s4, s5, er, e2, hR, hAP, hAl, hsp, hind, rfl⟩
    have : P2 = [] := by simpa using e2.symm
    subst this
    rw [List.append_nil] at er
    subst er
    have hrf := hR.rf o
    have hrf2 : Rf n F.reverse := hrf.perm (List.reverse_perm F)
    have hFr : ∀ f ∈ F.reverse, f ∈ F := fun f hf => List.mem_reverse.mp hf
    obtain ⟨M, M0, mb0, hF0⟩ := hR.size L0 hb fun b hb => hr b (hAP b hb)
    have hmono : dz k hs.length + 1 ≤ dz k 10 + 1 := by have := dz_mono (k := k) (show hs.length ≤ 10 by rw [← hR.lA]; omega); omega
    have hG : Lst n rows (srtH F.reverse) := ⟨hrf2.perm srtH_perm, srtH_sort o hrf2, fun f hf => (hR.sA f (hFr f (srtH_perm.mem_iff.mp hf))).mono hAP, fun a ha => (hsp a ha).mono fun f hf => srtH_perm.mem_iff.mpr (List.mem_reverse.mpr hf)⟩
    have hGl : (srtH F.reverse).length = AA.length := by rw [srtH_perm.length_eq, List.length_reverse, hR.lF, hR.lA]
    fail "s"
    refine ⟨F.reverse.map (rwD N.toNumX), F.reverse.map fun f => ((hd f : Nat) : Int), rfl, keysD_of (f := rwD N.toNumX) fun f hf => headed_ok (by rw [hR.wF f (hFr f hf)]; omega), ?_, ?_⟩
    · rw [List.Nodup, List.pairwise_map]
      refine hrf2.nd.imp_of_mem fun {f1 f2} h1 h2 ne z => ne (hrf2.ne o h1 h2 (by omega))
    rw [srt_rows]
    fail "s"
    refine wo_eq rfl ?_
    fail "s"
    exact q _ M hG (fun hi => by rw [hGl, hind hi]) M0 (mb0.mono hmono) (fun f hf => (hF0 f (hFr f (srtH_perm.mem_iff.mp hf))).up hmono) (by rw [hGl]; exact hAl)
end
section
variable {g : Int} {R : Type} [Lean.Grind.CommRing R] {N : NumF g R} {L K L2 k j k2 m n h e M : Nat} {x y r u v a b : List R} {t o F G T rows : List (List R)} {hs : List Nat} {AA : List (List R)} {c : R} {Q : DD.A → List DD.A → Prop} {E : Ex → List DD.A → Prop}
end
structure Q4 (R : Type) where
  a : R
  b : R
  c : R
  d : R
section
variable {g : Int} {R : Type} [Lean.Grind.CommRing R]
def Q4.mul (x y : Q4 R) : Q4 R := ⟨x.a * y.a - x.b * y.b - x.c * y.c - x.d * y.d, x.a * y.b + x.b * y.a + x.c * y.d - x.d * y.c, x.a * y.c - x.b * y.d + x.c * y.a + x.d * y.b, x.a * y.d + x.b * y.c - x.c * y.b + x.d * y.a⟩
def Q4.norm (x : Q4 R) : R := x.a * x.a + x.b * x.b + x.c * x.c + x.d * x.d
def Q4.turn (x : Q4 R) : Q4 R := ⟨x.a, -x.b, -x.c, -x.d⟩
def Q4.sc (x : Q4 R) (c : R) : Q4 R := ⟨x.a * c, x.b * c, x.c * c, x.d * c⟩
def fl (x : Q4 R) : List R := [x.a, x.b, x.c, x.d]
def one4 (R : Type) [Lean.Grind.CommRing R] (i : Nat) : Q4 R := ⟨if i = 0 then 1 else 0, if i = 1 then 1 else 0, if i = 2 then 1 else 0, if i = 3 then 1 else 0⟩
theorem Q4.ext {x y : Q4 R} (h1 : x.a = y.a) (h2 : x.b = y.b) (h3 : x.c = y.c) (h4 : x.d = y.d) : x = y := by cases x; cases y; simp_all
/-- a four of numbers over one bottom -/
structure Z4 (N : NumF g R) (L k : Nat) (x : Q4 R) : Prop where
  a : Zn N L k x.a
  b : Zn N L k x.b
  c : Zn N L k x.c
  d : Zn N L k x.d
variable {N : NumF g R} {L M n m k j : Nat} {x y : Q4 R} {r t c : R} {Q : A → List A → Prop} {E : Ex → List A → Prop}
theorem Z4.rw (h : Z4 N L k x) : Rw N 4 L k (fl x) := Rw.of rfl h.a.pos h.a.bd fun r hr => by
  simp only [fl, List.mem_cons, List.not_mem_nil, or_false] at hr
  rcases hr with rfl | rfl | rfl | rfl
  · exact h.a.s
  · exact h.b.s
  · exact h.c.s
  · exact h.d.s
theorem Z4.of (h : Rw N 4 L k (fl x)) : Z4 N L k x := ⟨h.z (by simp [fl]), h.z (by simp [fl]), h.z (by simp [fl]), h.z (by simp [fl])⟩
theorem _root_.DD.Zn.zero' (h : Zn N L k r) : Zn N L k (0 : R) := ⟨N.Szero _ _, h.pos, h.bd⟩
theorem Z4.up (h : Z4 N L k x) (j : k ≤ n) : Z4 N L n x := ⟨h.a.up j, h.b.up j, h.c.up j, h.d.up j⟩
theorem _root_.DD.Zn.sub (h : Zn N L k r) (i : Zn N L k t) : Zn N L (k + 2) (r - t) := by
  have := (h.up (n := k + 1) (by omega)).add i.neg
  rw [show r - t = r + -t by grind]
  exact this
theorem Z4.mul (h : Z4 N L k x) (i : Z4 N M j y) : Z4 N (L * M) (k + j + 6) (x.mul y) := ⟨
  ((((h.a.mul i.a).sub (h.b.mul i.b)).sub ((h.c.mul i.c).up (by omega))).sub ((h.d.mul i.d).up (by omega))),
  ((((h.a.mul i.b).add (h.b.mul i.a)).add ((h.c.mul i.d).up (by omega))).sub ((h.d.mul i.c).up (by omega))).up (by omega),
  ((((h.a.mul i.c).sub (h.b.mul i.d)).add ((h.c.mul i.a).up (by omega))).add ((h.d.mul i.b).up (by omega))).up (by omega),
  ((((h.a.mul i.d).add (h.b.mul i.c)).sub ((h.c.mul i.b).up (by omega))).add ((h.d.mul i.a).up (by omega))).up (by omega)⟩
theorem Z4.norm (h : Z4 N L k x) : Zn N (L * L) (k + k + 3) x.norm :=
  (((h.a.mul h.a).add (h.b.mul h.b)).add ((h.c.mul h.c).up (by omega))).add ((h.d.mul h.d).up (by omega))
theorem Z4.turn (h : Z4 N L k x) : Z4 N L (k + 1) x.turn := ⟨h.a.up (by omega), h.b.neg, h.c.neg, h.d.neg⟩
theorem Z4.sc (h : Z4 N L k x) (i : Zn N M j c) : Z4 N (L * M) (k + j) (x.sc c) := ⟨h.a.mul i, h.b.mul i, h.c.mul i, h.d.mul i⟩
theorem rwD_fl : rwD N.toNumX (fl x) = .tup [N.nm x.a, N.nm x.b, N.nm x.c, N.nm x.d] := rfl
theorem less_s (hg : g = 0 ∨ 2 ≤ g) (hg2 : g ≤ 13) (hr : Ok N r) (hs : Ok N t) (hn : Ok N (-t)) (hq : Ok N (r + -t)) (q : Q (.v (N.nm (r + -t))) [.v (.int g), .v (N.nm r), .v (N.nm t)]) : Wc (n_less [.v (.int g), .v (N.nm r), .v (N.nm t)]) Q E := by
  refine wc_fn rfl rfl ?_
  unfold b_less
  fail "s"
  refine minus_s hg hg2 hs ?_
  fail "s"
  refine plus_s hg hg2 hr hn hq ?_
  fail "s"
  exact q
theorem norm_of_s (hg : g = 0 ∨ 2 ≤ g) (hg2 : g ≤ 13) (h : Z4 N L k x) (hk : k + k + 4 ≤ 4300) (q : Q (.v (N.nm x.norm)) [.v (.int g), .v (rwD N.toNumX (fl x))]) : Wc (n_norm_of [.v (.int g), .v (rwD N.toNumX (fl x))]) Q E := by
  have za := h.a.mul h.a
  have z1 := (Zn.zero' za).add za
  have z2 := z1.add ((h.b.mul h.b).up (by omega))
  have z3 := z2.add ((h.c.mul h.c).up (by omega))
  have z4 := z3.add ((h.d.mul h.d).up (by omega))
  refine wc_fn rfl rfl ?_
  unfold b_norm_of b_norm_of_1
  rw [rwD_fl] at q ⊢
  unfold c_NOUGHT at *
  fail "s"
  refine wo_eq rfl ?_
  fail "s"
  refine w_for_cons ?_
  rw [nought_nm (N := N)]
  fail "s"
  refine times_s hg hg2 (h.a.ok (by omega)) (h.a.ok (by omega)) (za.ok (by omega)) ?_
  fail "s"
  refine plus_s hg hg2 ((Zn.zero' za).ok (by omega)) (za.ok (by omega)) (z1.ok (by omega)) ?_
  fail "s"
  refine w_for_cons ?_
  fail "s"
  refine times_s hg hg2 (h.b.ok (by omega)) (h.b.ok (by omega)) ((h.b.mul h.b).ok (by omega)) ?_
  fail "s"
  refine plus_s hg hg2 (z1.ok (by omega)) ((h.b.mul h.b).ok (by omega)) (z2.ok (by omega)) ?_
  fail "s"
  refine w_for_cons ?_
  fail "s"
  refine times_s hg hg2 (h.c.ok (by omega)) (h.c.ok (by omega)) ((h.c.mul h.c).ok (by omega)) ?_
  fail "s"
  refine plus_s hg hg2 (z2.ok (by omega)) ((h.c.mul h.c).ok (by omega)) (z3.ok (by omega)) ?_
  fail "s"
  refine w_for_cons ?_
  fail "s"
  refine times_s hg hg2 (h.d.ok (by omega)) (h.d.ok (by omega)) ((h.d.mul h.d).ok (by omega)) ?_
  fail "s"
  refine plus_s hg hg2 (z3.ok (by omega)) ((h.d.mul h.d).ok (by omega)) (z4.ok (by omega)) ?_
  fail "s"
  refine w_for_nil ?_
  fail "s"
  have e : 0 + x.a * x.a + x.b * x.b + x.c * x.c + x.d * x.d = x.norm := by unfold Q4.norm; grind
  rw [e]
  exact q
theorem l_norm_s (hg : g = 0 ∨ 2 ≤ g) (hg2 : g ≤ 13) (h : Z4 N L k x) (hk : k + k + 4 ≤ 4300) (q : Q (.v (N.nm x.norm)) [.v (.int g), .v (rwD N.toNumX (fl x))]) : Wc (n_l_norm [.v (.int g), .v (rwD N.toNumX (fl x))]) Q E := by
  refine wc_fn rfl rfl ?_
  unfold b_l_norm
  rw [rwD_fl] at q ⊢
  fail "s"
  refine wo_eq rfl ?_
  fail "s"
  refine l_times_s hg hg2 (h.a.ok (by omega)) (h.a.ok (by omega)) ((h.a.mul h.a).ok (by omega)) ?_
  fail "s"
  refine l_times_s hg hg2 (h.b.ok (by omega)) (h.b.ok (by omega)) ((h.b.mul h.b).ok (by omega)) ?_
  fail "s"
  refine l_times_s hg hg2 (h.c.ok (by omega)) (h.c.ok (by omega)) ((h.c.mul h.c).ok (by omega)) ?_
  fail "s"
  refine l_times_s hg hg2 (h.d.ok (by omega)) (h.d.ok (by omega)) ((h.d.mul h.d).ok (by omega)) ?_
  fail "s"
  refine l_sum_s (N := N) (L := L * L) (k := k + k) (l := [x.a * x.a, x.b * x.b, x.c * x.c, x.d * x.d]) hg hg2 (h.a.mul h.a).pos (h.a.mul h.a).bd (fun r hr => ?_) (by simp; omega) (by simp) ?_
  · simp only [List.mem_cons, List.not_mem_nil, or_false] at hr
    rcases hr with rfl | rfl | rfl | rfl
    · exact h.a.mul h.a
    · exact h.b.mul h.b
    · exact h.c.mul h.c
    · exact h.d.mul h.d
  have e : [x.a * x.a, x.b * x.b, x.c * x.c, x.d * x.d].foldl (· + ·) 0 = x.norm := by simp only [List.foldl_cons, List.foldl_nil]; unfold Q4.norm; grind
  rw [e]
  fail "s"
  exact q
def sgI (s : Int) {R : Type} [Lean.Grind.CommRing R] (z : R) : R := if 0 < s then z else -z
theorem _root_.DD.Zn.sgI {s : Int} (h : Zn N L k r) : Zn N L (k + 1) (sgI s r) := by unfold K41.sgI; split; exact h.up (by omega); exact h.neg
theorem ft1 {i b : Nat} {j s : Int} {l : List A} {line one two : D} {s9 : Option A} {QF : Flow → DEnv → Prop} {E : Ex → DEnv → Prop} (hg : g = 0 ∨ 2 ≤ g) (hg2 : g ≤ 13) (hr : Zn N L n r) (ht : Zn N M m t) (hc : Zn N (L * M) b c) (hb : n + m ≤ b) (hk : b + 3 ≤ 4300) (hl : l.length = 4) (hi : i < 4) (hj : j = i) (hlc : l[i]? = some (.v (N.nm c)))
    (q : Zn N (L * M) (b + 2) (c + sgI s (r * t)) → QF .nx [some (.v (.int g)), some (.v one), some (.v two), some (.m (l.set i (.v (N.nm (c + sgI s (r * t)))))), some (.v line), some (.v (N.nm r)), some (.v (.int j)), some (.v (.int s)), some (.v (N.nm t)), some (.v (N.nm (r * t)))]) :
    Wp (b_four_times_1 [some (.v (.int g)), some (.v one), some (.v two), some (.m l), some (.v line), some (.v (N.nm r)), some (.v (.int j)), some (.v (.int s)), some (.v (N.nm t)), s9]) QF E := by
  subst hj
  have zp := hr.mul ht
  unfold b_four_times_1
  fail "s"
  refine times_s hg hg2 (hr.ok (by omega)) (ht.ok (by omega)) (zp.ok (by omega)) ?_
  fail "s"
  have hat : atI l (i : Int) = some (.v (N.nm c)) := by rw [atI_get (by omega) (by omega)]; simpa using hlc
  have hix : ixN l.length (i : Int) = some i := by rw [ixN_nat (by omega) (by omega)]; simp
  unfold sgI at q
  refine wk_d (fun h => ?_) (fun h => ?_)
  · rw [if_pos h] at q
    have zq := (hc.up (n := b + 1) (by omega)).add (zp.up (by omega))
    fail "s"
    refine wix (by with_unfolding_all rfl) hat ?_
    fail "s"
    refine plus_s hg hg2 (hc.ok (by omega)) (zp.ok (by omega)) (zq.ok (by omega)) ?_
    fail "s"
    refine wst (by with_unfolding_all rfl) hix ?_
    fail "s"
    exact q zq
  · rw [if_neg h] at q
    have zq := (hc.up (n := b + 1) (by omega)).add (zp.neg.up (n := b + 1) (by omega))
    fail "s"
    refine wix (by with_unfolding_all rfl) hat ?_
    fail "s"
    refine less_s hg hg2 (hc.ok (by omega)) (zp.ok (by omega)) (zp.neg.ok (by omega)) (zq.ok (by omega)) ?_
    fail "s"
    refine wst (by with_unfolding_all rfl) hix ?_
    fail "s"
    exact q zq
theorem four_times_s (hg : g = 0 ∨ 2 ≤ g) (hg2 : g ≤ 13) (hx : Z4 N L n x) (hy : Z4 N M m y) (hk : n + m + 12 ≤ 4300) (q : Q (.v (rwD N.toNumX (fl (x.mul y)))) [.v (.int g), .v (rwD N.toNumX (fl x)), .v (rwD N.toNumX (fl y))]) :
    Wc (n_four_times [.v (.int g), .v (rwD N.toNumX (fl x)), .v (rwD N.toNumX (fl y))]) Q E := by
  refine wc_fn rfl rfl ?_
  unfold b_four_times b_four_times_2
  unfold c_NOUGHT c_PARTS c_PRODUCTS
  fail "s"
  refine wo_eq (a := .m [.v (N.nm 0), .v (N.nm 0), .v (N.nm 0), .v (N.nm 0)]) (by rw [← nought_nm (N := N)]; unfold opMul; dsimp only; rw [if_pos ⟨sz_of (by decide), by decide, by decide⟩]; rfl) ?_
  have hz : Zn N (L * M) (n + m) (0 : R) := Zn.zero' (hx.a.mul hy.a)
  rw [rwD_fl, rwD_fl, rwD_fl] at q
  rw [rwD_fl, rwD_fl]
  fail "s"
  refine wo_eq rfl ?_
  unfold zipD
  fail "s"
  refine w_for_cons ?_
  fail "s"
  refine wo_eq rfl ?_
  unfold zipD
  fail "s"
  refine w_for_cons ?_
  fail "s"
  refine ft1 (i := 0) (b := n + m + 0) hg hg2 hx.a hy.a hz (by omega) (by omega) rfl (by decide) rfl rfl fun h00 => ?_
  fail "s"
  refine w_for_cons ?_
  fail "s"
  refine ft1 (i := 1) (b := n + m + 0) hg hg2 hx.a hy.b hz (by omega) (by omega) rfl (by decide) rfl rfl fun h01 => ?_
  fail "s"
  refine w_for_cons ?_
  fail "s"
  refine ft1 (i := 2) (b := n + m + 0) hg hg2 hx.a hy.c hz (by omega) (by omega) rfl (by decide) rfl rfl fun h02 => ?_
  fail "s"
  refine w_for_cons ?_
  fail "s"
  refine ft1 (i := 3) (b := n + m + 0) hg hg2 hx.a hy.d hz (by omega) (by omega) rfl (by decide) rfl rfl fun h03 => ?_
  fail "s"
  refine w_for_nil ?_
  fail "s"
  refine w_for_cons ?_
  fail "s"
  refine wo_eq rfl ?_
  unfold zipD
  fail "s"
  refine w_for_cons ?_
  fail "s"
  refine ft1 (i := 1) (b := n + m + 2) hg hg2 hx.b hy.a h01 (by omega) (by omega) rfl (by decide) rfl rfl fun h10 => ?_
  fail "s"
  refine w_for_cons ?_
  fail "s"
  refine ft1 (i := 0) (b := n + m + 2) hg hg2 hx.b hy.b h00 (by omega) (by omega) rfl (by decide) rfl rfl fun h11 => ?_
  fail "s"
  refine w_for_cons ?_
  fail "s"
  refine ft1 (i := 3) (b := n + m + 2) hg hg2 hx.b hy.c h03 (by omega) (by omega) rfl (by decide) rfl rfl fun h12 => ?_
  fail "s"
  refine w_for_cons ?_
  fail "s"
  refine ft1 (i := 2) (b := n + m + 2) hg hg2 hx.b hy.d h02 (by omega) (by omega) rfl (by decide) rfl rfl fun h13 => ?_
  fail "s"
  refine w_for_nil ?_
  fail "s"
  refine w_for_cons ?_
  fail "s"
  refine wo_eq rfl ?_
  unfold zipD
  fail "s"
  refine w_for_cons ?_
  fail "s"
  refine ft1 (i := 2) (b := n + m + 4) hg hg2 hx.c hy.a h13 (by omega) (by omega) rfl (by decide) rfl rfl fun h20 => ?_
  fail "s"
  refine w_for_cons ?_
  fail "s"
  refine ft1 (i := 3) (b := n + m + 4) hg hg2 hx.c hy.b h12 (by omega) (by omega) rfl (by decide) rfl rfl fun h21 => ?_
  fail "s"
  refine w_for_cons ?_
  fail "s"
  refine ft1 (i := 0) (b := n + m + 4) hg hg2 hx.c hy.c h11 (by omega) (by omega) rfl (by decide) rfl rfl fun h22 => ?_
  fail "s"
  refine w_for_cons ?_
  fail "s"
  refine ft1 (i := 1) (b := n + m + 4) hg hg2 hx.c hy.d h10 (by omega) (by omega) rfl (by decide) rfl rfl fun h23 => ?_
  fail "s"
  refine w_for_nil ?_
  fail "s"
  refine w_for_cons ?_
  fail "s"
  refine wo_eq rfl ?_
  unfold zipD
  fail "s"
  refine w_for_cons ?_
  fail "s"
  refine ft1 (i := 3) (b := n + m + 6) hg hg2 hx.d hy.a h21 (by omega) (by omega) rfl (by decide) rfl rfl fun h30 => ?_
  fail "s"
  refine w_for_cons ?_
  fail "s"
  refine ft1 (i := 2) (b := n + m + 6) hg hg2 hx.d hy.b h20 (by omega) (by omega) rfl (by decide) rfl rfl fun h31 => ?_
  fail "s"
  refine w_for_cons ?_
  fail "s"
  refine ft1 (i := 1) (b := n + m + 6) hg hg2 hx.d hy.c h23 (by omega) (by omega) rfl (by decide) rfl rfl fun h32 => ?_
  fail "s"
  refine w_for_cons ?_
  fail "s"
  refine ft1 (i := 0) (b := n + m + 6) hg hg2 hx.d hy.d h22 (by omega) (by omega) rfl (by decide) rfl rfl fun h33 => ?_
  fail "s"
  refine w_for_nil ?_
  fail "s"
  refine w_for_nil ?_
  fail "s"
  refine wo_eq rfl ?_
  fail "s"
  have p : ∀ z : R, sgI 1 z = z := fun z => if_pos (by decide)
  have o : ∀ z : R, sgI (-1) z = -z := fun z => if_neg (by decide)
  simp only [p, o]
  have e0 : (0 : R) + x.a * y.a + -(x.b * y.b) + -(x.c * y.c) + -(x.d * y.d) = (x.mul y).a := by unfold Q4.mul; grind
  have e1 : (0 : R) + x.a * y.b + x.b * y.a + x.c * y.d + -(x.d * y.c) = (x.mul y).b := by unfold Q4.mul; grind
  have e2 : (0 : R) + x.a * y.c + -(x.b * y.d) + x.c * y.a + x.d * y.b = (x.mul y).c := by unfold Q4.mul; grind
  have e3 : (0 : R) + x.a * y.d + x.b * y.c + -(x.c * y.b) + x.d * y.a = (x.mul y).d := by unfold Q4.mul; grind
  rw [e0, e1, e2, e3]
  exact q
theorem l_turned_four_s (hg : g = 0 ∨ 2 ≤ g) (hg2 : g ≤ 13) (hx : Z4 N L k x) (hk : k + 2 ≤ 4300) (q : Q (.v (rwD N.toNumX (fl x.turn))) [.v (.int g), .v (rwD N.toNumX (fl x))]) : Wc (n_l_turned_four [.v (.int g), .v (rwD N.toNumX (fl x))]) Q E := by
  refine wc_fn rfl rfl ?_
  unfold b_l_turned_four
  rw [rwD_fl] at q ⊢
  rw [rwD_fl] at q
  fail "s"
  refine wo_eq rfl ?_
  fail "s"
  refine wo_eq rfl ?_
  fail "s"
  refine wo_eq rfl ?_
  fail "s"
  rw [show cutL [N.nm x.a, N.nm x.b, N.nm x.c, N.nm x.d] (some 1) none = [N.nm x.b, N.nm x.c, N.nm x.d] from rfl, show cutL [N.nm x.a, N.nm x.b, N.nm x.c, N.nm x.d] none (some 1) = [N.nm x.a] from rfl]
  fail "s"
  refine l_minus_s hg hg2 (hx.b.ok (by omega)) ?_
  fail "s"
  refine l_minus_s hg hg2 (hx.c.ok (by omega)) ?_
  fail "s"
  refine l_minus_s hg hg2 (hx.d.ok (by omega)) ?_
  fail "s"
  refine wo_eq rfl ?_
  fail "s"
  refine wo_eq (a := .v (.tup [N.nm x.a, N.nm (-x.b), N.nm (-x.c), N.nm (-x.d)])) (by unfold opAdd; exact if_pos (sz_of (by simp))) ?_
  fail "s"
  exact q
theorem canon_one {g : Int} (hg : g = 0 ∨ 2 ≤ g) : canon g 1 1 = dN 1 1 := by
  rcases hg with rfl | hg
  · exact canon_nat (u := 1) (d := 1) (by decide)
  · unfold canon
    rw [if_pos (by omega), Int.fmod_eq_of_lt (by decide) (by omega)]
def sr (s : Int) (R : Type) [Lean.Grind.CommRing R] : R := if 0 < s then 1 else -1
theorem sr_Z {s : Int} : Zn N 1 2 (sr s R) := by
  unfold sr
  split
  · exact Zn.one.up (by decide)
  · exact Zn.one.neg
theorem low_sgn {s : Int} (hg : g = 0 ∨ 2 ≤ g) (hg2 : g ≤ 13) (hs : s = 1 ∨ s = -1) (q : Q (.v (N.nm (sr s R))) [.v (.int g), .v (.int s), .v (.int 1)]) : Wc (n_l_low [.v (.int g), .v (.int s), .v (.int 1)]) Q E := by
  have e : canon g s 1 = N.nm (sr s R) := by
    rcases hs with rfl | rfl
    · exact (canon_one hg).trans one_nm
    · exact N.mone
  have hb := (sr_Z (N := N) (s := s)).ok (by decide)
  refine l_low_s hg hg2 (Bd.one (by decide)) okd1 e hb.p hb.q ?_
  rw [show dN (N.p (sr s R)) (N.q (sr s R)) = N.nm (sr s R) from rfl]
  exact q
end

section
variable {g : Int} {R : Type} [Lean.Grind.CommRing R] {N : NumF g R} {L M n m k j : Nat} {x y z : Q4 R} {r t c : R} {Q : A → List A → Prop} {E : Ex → List A → Prop}
theorem _root_.DD.Zn.sr {s : Int} (h : Zn N L k r) : Zn N (1 * L) (2 + k) (sr s R * r) := sr_Z.mul h
theorem lft1 {s3 s4 s5 s6 s7 s8 s9 s10 s11 s14 : Option A} {l : List A} {x1 x2 x3 x4 y1 y2 y3 y4 : R} {t1 t2 t3 t4 : Int} {one two : D} {QF : Flow → DEnv → Prop} {E : Ex → DEnv → Prop} (hg : g = 0 ∨ 2 ≤ g) (hg2 : g ≤ 13) (hk : n + m + 10 ≤ 4300) (hl : l.length ≤ 100)
    (h1 : Zn N L n x1) (h2 : Zn N L n x2) (h3 : Zn N L n x3) (h4 : Zn N L n x4) (k1 : Zn N M m y1) (k2 : Zn N M m y2) (k3 : Zn N M m y3) (k4 : Zn N M m y4) (c1 : t1 = 1 ∨ t1 = -1) (c2 : t2 = 1 ∨ t2 = -1) (c3 : t3 = 1 ∨ t3 = -1) (c4 : t4 = 1 ∨ t4 = -1)
    (q : ∀ s14, QF .nx [some (.v (.int g)), some (.v one), some (.v two), s3, s4, s5, s6, s7, s8, s9, s10, s11, some (.m (l ++ [.v (N.nm (sr t1 R * (x1 * y1) + sr t2 R * (x2 * y2) + sr t3 R * (x3 * y3) + sr t4 R * (x4 * y4)))])), some (.v (.lst [.tup [N.nm x1, N.nm y1, .int t1], .tup [N.nm x2, N.nm y2, .int t2], .tup [N.nm x3, N.nm y3, .int t3], .tup [N.nm x4, N.nm y4, .int t4]])), s14, none, none, none]) :
    Wp (b_l_four_times_1 [some (.v (.int g)), some (.v one), some (.v two), s3, s4, s5, s6, s7, s8, s9, s10, s11, some (.m l), some (.v (.lst [.tup [N.nm x1, N.nm y1, .int t1], .tup [N.nm x2, N.nm y2, .int t2], .tup [N.nm x3, N.nm y3, .int t3], .tup [N.nm x4, N.nm y4, .int t4]])), s14, none, none, none]) QF E := by
  unfold b_l_four_times_1
  fail "s"
  refine wo_eq rfl ?_
  fail "s"
  refine low_sgn (N := N) hg hg2 c1 ?_
  fail "s"
  refine l_times_s hg hg2 (h1.ok (by omega)) (k1.ok (by omega)) ((h1.mul k1).ok (by omega)) ?_
  fail "s"
  refine l_times_s hg hg2 (sr_Z.ok (by decide)) ((h1.mul k1).ok (by omega)) ((Zn.sr (h1.mul k1)).ok (by omega)) ?_
  fail "s"
  refine low_sgn (N := N) hg hg2 c2 ?_
  fail "s"
  refine l_times_s hg hg2 (h2.ok (by omega)) (k2.ok (by omega)) ((h2.mul k2).ok (by omega)) ?_
  fail "s"
  refine l_times_s hg hg2 (sr_Z.ok (by decide)) ((h2.mul k2).ok (by omega)) ((Zn.sr (h2.mul k2)).ok (by omega)) ?_
  fail "s"
  refine low_sgn (N := N) hg hg2 c3 ?_
  fail "s"
  refine l_times_s hg hg2 (h3.ok (by omega)) (k3.ok (by omega)) ((h3.mul k3).ok (by omega)) ?_
  fail "s"
  refine l_times_s hg hg2 (sr_Z.ok (by decide)) ((h3.mul k3).ok (by omega)) ((Zn.sr (h3.mul k3)).ok (by omega)) ?_
  fail "s"
  refine low_sgn (N := N) hg hg2 c4 ?_
  fail "s"
  refine l_times_s hg hg2 (h4.ok (by omega)) (k4.ok (by omega)) ((h4.mul k4).ok (by omega)) ?_
  fail "s"
  refine l_times_s hg hg2 (sr_Z.ok (by decide)) ((h4.mul k4).ok (by omega)) ((Zn.sr (h4.mul k4)).ok (by omega)) ?_
  fail "s"
  refine l_sum_s (N := N) (L := 1 * (L * M)) (k := 2 + (n + m)) (l := [sr t1 R * (x1 * y1), sr t2 R * (x2 * y2), sr t3 R * (x3 * y3), sr t4 R * (x4 * y4)]) hg hg2 (Zn.sr (s := t1) (h1.mul k1)).pos (Zn.sr (s := t1) (h1.mul k1)).bd (fun r hr => ?_) (by simp; omega) (by simp) ?_
  · simp only [List.mem_cons, List.not_mem_nil, or_false] at hr
    rcases hr with rfl | rfl | rfl | rfl
    · exact Zn.sr (h1.mul k1)
    · exact Zn.sr (h2.mul k2)
    · exact Zn.sr (h3.mul k3)
    · exact Zn.sr (h4.mul k4)
  have e : [sr t1 R * (x1 * y1), sr t2 R * (x2 * y2), sr t3 R * (x3 * y3), sr t4 R * (x4 * y4)].foldl (· + ·) 0 = sr t1 R * (x1 * y1) + sr t2 R * (x2 * y2) + sr t3 R * (x3 * y3) + sr t4 R * (x4 * y4) := by simp only [List.foldl_cons, List.foldl_nil]; grind
  rw [e]
  fail "s"
  refine wap (by with_unfolding_all rfl) (szl_of (by omega)) ?_
  fail "s"
  exact q _
theorem l_four_times_s (hg : g = 0 ∨ 2 ≤ g) (hg2 : g ≤ 13) (hx : Z4 N L n x) (hy : Z4 N M m y) (hk : n + m + 12 ≤ 4300) (q : Q (.v (rwD N.toNumX (fl (x.mul y)))) [.v (.int g), .v (rwD N.toNumX (fl x)), .v (rwD N.toNumX (fl y))]) :
    Wc (n_l_four_times [.v (.int g), .v (rwD N.toNumX (fl x)), .v (rwD N.toNumX (fl y))]) Q E := by
  refine wc_fn rfl rfl ?_
  unfold b_l_four_times
  rw [rwD_fl, rwD_fl, rwD_fl] at q
  rw [rwD_fl, rwD_fl]
  fail "s"
  refine wo_eq rfl ?_
  fail "s"
  refine w_for_cons ?_
  fail "s"
  refine lft1 hg hg2 (by omega) (by simp) hx.a hx.b hx.c hx.d hy.a hy.b hy.c hy.d (.inl rfl) (.inr rfl) (.inr rfl) (.inr rfl) fun _ => ?_
  fail "s"
  refine w_for_cons ?_
  fail "s"
  refine lft1 hg hg2 (by omega) (by simp) hx.a hx.b hx.c hx.d hy.b hy.a hy.d hy.c (.inl rfl) (.inl rfl) (.inl rfl) (.inr rfl) fun _ => ?_
  fail "s"
  refine w_for_cons ?_
  fail "s"
  refine lft1 hg hg2 (by omega) (by simp) hx.a hx.b hx.c hx.d hy.c hy.d hy.a hy.b (.inl rfl) (.inr rfl) (.inl rfl) (.inl rfl) fun _ => ?_
  fail "s"
  refine w_for_cons ?_
  fail "s"
  refine lft1 hg hg2 (by omega) (by simp) hx.a hx.b hx.c hx.d hy.d hy.c hy.b hy.a (.inl rfl) (.inl rfl) (.inr rfl) (.inl rfl) fun _ => ?_
  fail "s"
  refine w_for_nil ?_
  fail "s"
  refine wo_eq rfl ?_
  fail "s"
  have p : sr 1 R = 1 := if_pos (by decide)
  have k : sr (-1) R = -1 := if_neg (by decide)
  rw [p, k]
  have e0 : (1 : R) * (x.a * y.a) + -1 * (x.b * y.b) + -1 * (x.c * y.c) + -1 * (x.d * y.d) = (x.mul y).a := by unfold Q4.mul; grind
  have e1 : (1 : R) * (x.a * y.b) + 1 * (x.b * y.a) + 1 * (x.c * y.d) + -1 * (x.d * y.c) = (x.mul y).b := by unfold Q4.mul; grind
  have e2 : (1 : R) * (x.a * y.c) + -1 * (x.b * y.d) + 1 * (x.c * y.a) + 1 * (x.d * y.b) = (x.mul y).c := by unfold Q4.mul; grind
  have e3 : (1 : R) * (x.a * y.d) + 1 * (x.b * y.c) + -1 * (x.c * y.b) + 1 * (x.d * y.a) = (x.mul y).d := by unfold Q4.mul; grind
  rw [e0, e1, e2, e3]
  exact q
theorem norm_mul : (x.mul y).norm = x.norm * y.norm := by unfold Q4.norm Q4.mul; grind
theorem norm_turn : x.turn.norm = x.norm := by unfold Q4.norm Q4.turn; grind
theorem norm_sc : (x.sc c).norm = x.norm * (c * c) := by unfold Q4.norm Q4.sc; grind
theorem mul_assoc4 : (x.mul y).mul z = x.mul (y.mul z) := by unfold Q4.mul; exact Q4.ext (by dsimp only; grind) (by dsimp only; grind) (by dsimp only; grind) (by dsimp only; grind)
theorem turn_turn : x.turn.turn = x := by unfold Q4.turn; exact Q4.ext rfl (by dsimp only; grind) (by dsimp only; grind) (by dsimp only; grind)
theorem sc_mul : (x.sc c).mul y = (x.mul y).sc c := by unfold Q4.mul Q4.sc; exact Q4.ext (by dsimp only; grind) (by dsimp only; grind) (by dsimp only; grind) (by dsimp only; grind)
theorem mul_sc : x.mul (y.sc c) = (x.mul y).sc c := by unfold Q4.mul Q4.sc; exact Q4.ext (by dsimp only; grind) (by dsimp only; grind) (by dsimp only; grind) (by dsimp only; grind)
theorem sc_sc : (x.sc c).sc r = x.sc (c * r) := by unfold Q4.sc; exact Q4.ext (by dsimp only; grind) (by dsimp only; grind) (by dsimp only; grind) (by dsimp only; grind)
theorem mul_turn : x.mul x.turn = ⟨x.norm, 0, 0, 0⟩ := by unfold Q4.mul Q4.turn Q4.norm; exact Q4.ext (by dsimp only; grind) (by dsimp only; grind) (by dsimp only; grind) (by dsimp only; grind)
theorem turn_mul_self : x.turn.mul x = ⟨x.norm, 0, 0, 0⟩ := by unfold Q4.mul Q4.turn Q4.norm; exact Q4.ext (by dsimp only; grind) (by dsimp only; grind) (by dsimp only; grind) (by dsimp only; grind)
theorem real_mul : (⟨c, 0, 0, 0⟩ : Q4 R).mul y = y.sc c := by unfold Q4.mul Q4.sc; exact Q4.ext (by dsimp only; grind) (by dsimp only; grind) (by dsimp only; grind) (by dsimp only; grind)
theorem mul_real : x.mul ⟨c, 0, 0, 0⟩ = x.sc c := by unfold Q4.mul Q4.sc; exact Q4.ext (by dsimp only; grind) (by dsimp only; grind) (by dsimp only; grind) (by dsimp only; grind)
end

local macro_rules | `(tactic| fail "w") => `(tactic| with_reducible first | refine wo_attrG ?_ | refine wo_attrT ?_)
section
variable {g : Int} {R : Type} [Lean.Grind.CommRing R] {N : NumF g R} {L K L2 k j k2 m : Nat} {x y : List R} {t s u v : List (List R)} {r c : R} {Q : A → List A → Prop} {E : Ex → List A → Prop}
/-- a keeper as it stands -/
def kD (N : NumF g R) (t s : List (List R)) : D := .ins "Keeper" ["form", "table"] [fD N t, tbD N.toNumX s]
theorem wo_attrKF {P : A → Prop} (h : P (.v (fD N t))) : Wo (attrD "Keeper" "form" (.v (kD N t s))) P := wo_eq rfl h
theorem wo_attrKT {P : A → Prop} (h : P (.v (tbD N.toNumX s))) : Wo (attrD "Keeper" "table" (.v (kD N t s))) P := wo_eq rfl h
local macro_rules | `(tactic| fail "w") => `(tactic| with_reducible first | refine wo_attrKF ?_ | refine wo_attrKT ?_)
theorem wo_lenTb {P : A → Prop} (e : t.length = m) (h : P (.v (.int m))) : Wo (opLen [.v (tbD N.toNumX t)]) P := by
  refine ⟨_, rfl, ?_⟩
  show P (.v (.int (((t.map (rwD N.toNumX)).length : Nat) : Int)))
  rw [List.length_map, e]
  exact h
/-- a table that keeps all products of letters -/
structure Kept (m : Nat) (t s : List (List R)) : Prop where
  sq : SqT_ m s
  k : ∀ i j, i < m → j < m → bl m t (s.getD i []) (s.getD j []) = tb t i j
theorem first_changed_s (hgr : Gr g) (ht : Tw N m m K j t) (hs : Tw N m m L k s) (hk : k + j + m + k + m ≤ 4300) (h1 : 1 ≤ m) (h10 : m ≤ 10) (ke : Kept m t s) (q : Q (.v .non) [.v (fD N t), .v (tbD N.toNumX s)]) : Wc (n_first_changed [.v (fD N t), .v (tbD N.toNumX s)]) Q E := by
  obtain ⟨hg, hg2⟩ := hgr.le
  refine wc_fn rfl rfl ?_
  unfold b_first_changed
  fail "s"
  refine wo_lenTb ht.len ?_
  fail "s"
  refine ⟨⟨by omega, by omega⟩, ?_⟩
  refine w_forL (fun ds ρ => (∃ (s2 s3 : Option A), ρ = [some (.v (fD N t)), some (.v (tbD N.toNumX s)), s2, s3]) ∧ ∀ d ∈ ds, ∃ i : Nat, d = .int i ∧ i < m) ⟨⟨_, _, rfl⟩, fun d hd => ?_⟩ ?_ ?_
  · obtain ⟨i, hi, rfl⟩ := List.mem_map.mp hd
    have := List.mem_range.mp hi
    exact ⟨i, rfl, by omega⟩
  · rintro d ds _ ⟨⟨s2, s3, rfl⟩, hds⟩
    obtain ⟨i, rfl, hi⟩ := hds d (by simp)
    unfold b_first_changed_2
    fail "s"
    refine wo_lenTb ht.len ?_
    fail "s"
    refine ⟨⟨⟨by omega, by omega⟩, ⟨by omega, by omega⟩⟩, ?_⟩
    refine w_forL (fun ds ρ => (∃ (s3 : Option A), ρ = [some (.v (fD N t)), some (.v (tbD N.toNumX s)), some (.v (.int i)), s3]) ∧ ∀ d ∈ ds, ∃ i : Nat, d = .int i ∧ i < m) ⟨⟨_, rfl⟩, fun d hd => ?_⟩ ?_ ?_
    · obtain ⟨n, hn, rfl⟩ := List.mem_map.mp hd
      have := List.mem_range.mp hn
      exact ⟨i + n, by simp, by omega⟩
    · rintro d ds2 _ ⟨⟨s3, rfl⟩, hds2⟩
      obtain ⟨a, rfl, ha⟩ := hds2 d (by simp)
      unfold b_first_changed_1
      fail "s"
      refine ix_at rfl (rw_at (by rw [hs.len]; exact hi)) ?_
      fail "s"
      refine ix_at rfl (rw_at (by rw [hs.len]; exact ha)) ?_
      fail "s"
      refine paired_s hg hg2 (hs.r _ (row_mem (by rw [hs.len]; exact hi))) ht (hs.r _ (row_mem (by rw [hs.len]; exact ha))) hk h1 h10 ?_
      rw [ke.k i a hi ha]
      fail "s"
      refine ix_at rfl (rw_at (by rw [ht.len]; exact hi)) ?_
      fail "s"
      have hl := (ht.r _ (row_mem (t := t) (i := i) (by rw [ht.len]; exact hi))).len
      refine ix_at rfl (nm_at (by rw [hl]; exact ha)) ?_
      fail "s"
      refine wo_neS (a := .v (N.nm (tb t i a))) rfl okc_nmX (by decide) ?_
      fail "s"
      exact ⟨⟨_, rfl⟩, fun d hd => hds2 d (List.mem_cons_of_mem _ hd)⟩
    · rintro _ ⟨⟨s3, rfl⟩, _⟩
      exact ⟨⟨_, _, rfl⟩, fun d hd => hds d (List.mem_cons_of_mem _ hd)⟩
  · rintro _ ⟨⟨s2, s3, rfl⟩, _⟩
    fail "s"
    exact q
theorem keeper_init_s (hgr : Gr g) (ht : Tw N m m K j t) (hs : Tw N m m L k s) (hk : k + j + m + k + m ≤ 4300) (h1 : 1 ≤ m) (h10 : m ≤ 10) (ke : Kept m t s)
    (q : Q (.v .non) [.mi "Keeper" ["form", "table"] [.v (fD N t), .v (tbD N.toNumX s)], .v (fD N t), .v (tbD N.toNumX s)]) : Wc (n_Keeper_init [.mi "Keeper" [] [], .v (fD N t), .v (tbD N.toNumX s)]) Q E := by
  have hp : Pl 4300 (tbD N.toNumX s) := pl_tb fun l hl r hr => (hs.r l hl).ok (by omega) r hr
  refine wc_fn rfl rfl ?_
  unfold b_Keeper_init
  fail "s"
  refine wc_noX (look_form_s ?_)
  fail "s"
  refine wo_lenTb ht.len ?_
  fail "s"
  refine wo_lenTb ht.len ?_
  fail "s"
  refine wc_noX (is_table_s hp (by omega) (by omega) ?_)
  rw [tab_true hs.sq]
  fail "s"
  refine wc_noX (first_changed_s hgr ht hs hk h1 h10 ke ?_)
  fail "s"
  refine wo_eq (a := .v (.bl false)) rfl ?_
  fail "s"
  refine ⟨_, _, rfl, ⟨by decide, by decide⟩, ?_⟩
  fail "s"
  refine ⟨_, _, rfl, ⟨by decide, by decide⟩, ?_⟩
  fail "s"
  exact q
end

section
variable {g : Int} {R : Type} [Lean.Grind.CommRing R] {N : NumF g R} {L M n m k j : Nat} {x y z : Q4 R} {r t c : R} {Q : A → List A → Prop} {E : Ex → List A → Prop}
theorem onesL4 : (onesL 4 : List (List R)) = [fl (one4 R 0), fl (one4 R 1), fl (one4 R 2), fl (one4 R 3)] := rfl
theorem one4_Z {i : Nat} : Z4 N 1 1 (one4 R i) := by
  have h : ∀ p : Prop, [Decidable p] → Zn N 1 1 (if p then (1 : R) else 0) := fun p _ => by split; exact Zn.one; exact Zn.zero
  exact ⟨h _, h _, h _, h _⟩
theorem fl_sc : fl (x.sc c) = (fl x).map (· * c) := rfl
/-- what comes of a unit between two fours -/
def btw (N : NumF g R) (x y : Q4 R) (i : Nat) : Q4 R := ((x.mul (one4 R i)).mul y).sc (1 * N.inv x.norm)
theorem Zn.one' (h : Zn N L k r) : Zn N L k (1 : R) := ⟨N.Sone h.bd, h.pos, h.bd⟩
theorem part_Z (hx : Z4 N L n x) (h0 : x.norm ≠ 0) : ∃ M0, Zn N M0 (n + n + 4) (1 * N.inv x.norm) := by
  obtain ⟨M0, p0, b0, hi⟩ := hx.norm.inv h0
  exact ⟨M0, hi 1 ((Zn.one' hx.norm).up (by omega)) (by omega)⟩
theorem btw_Z (hx : Z4 N L n x) (hy : Z4 N M m y) (h0 : x.norm ≠ 0) : ∃ M0, ∀ i, Z4 N M0 (3 * n + m + 17) (btw N x y i) := by
  obtain ⟨M0, hc⟩ := part_Z hx h0
  exact ⟨_, fun i => (((hx.mul one4_Z).mul hy).sc hc).up (by omega)⟩
def btwA (N : NumF g R) (x y : Q4 R) (i : Nat) : A := .v (rwD N.toNumX (fl (btw N x y i)))
theorem between_s (hgr : Gr g) (hx : Z4 N L n x) (hy : Z4 N M m y) (h0 : x.norm ≠ 0) (hk : 3 * n + m + 40 ≤ 4300) (q : Q (.m [btwA N x y 0, btwA N x y 1, btwA N x y 2, btwA N x y 3]) [.v (.int g), .v (rwD N.toNumX (fl x)), .v (rwD N.toNumX (fl y))]) : Wc (n_between [.v (.int g), .v (rwD N.toNumX (fl x)), .v (rwD N.toNumX (fl y))]) Q E := by
  obtain ⟨hg, hg2⟩ := hgr.le
  obtain ⟨M0, hc⟩ := part_Z hx h0
  refine wc_fn rfl rfl ?_
  unfold b_between
  unfold c_ONE c_PARTS
  rw [one_nm (N := N)]
  fail "s"
  refine norm_of_s hg hg2 hx (by omega) ?_
  fail "s"
  refine over_s hg hg2 ((Zn.one (N := N)).ok (by omega)) (hx.norm.ok (by omega)) h0 (hc.ok (by omega)) ?_
  fail "s"
  refine ones_s (N := N) (m := 4) (by decide) ?_
  rw [onesL4]
  fail "s"
  refine wo_eq rfl ?_
  refine ⟨sz_of (by simp), ?_⟩
  refine w_compMap (fun i : Nat => rwD N.toNumX (fl (one4 R i))) (btwA N x y) (xs := [0, 1, 2, 3]) rfl (fun i hi => ?_) ?_
  · have z1 := hx.mul (one4_Z (N := N) (i := i))
    have z2 := z1.mul hy
    have z3 := z2.sc hc
    fail "s"
    refine four_times_s hg hg2 hx one4_Z (by omega) ?_
    fail "s"
    refine four_times_s hg hg2 z1 hy (by omega) ?_
    fail "s"
    refine scaled_s hg hg2 (by simp [fl]) (z2.rw.ok (by omega)) (hc.ok (by omega)) (fun r hr => z3.rw.ok (by omega) _ (by rw [fl_sc]; exact List.mem_map.mpr ⟨r, hr, rfl⟩)) ?_
    fail "s"
    try exact ⟨rfl, trivial⟩
  fail "s"
  exact q
theorem l_between_s (hgr : Gr g) (hx : Z4 N L n x) (hy : Z4 N M m y) (h0 : x.norm ≠ 0) (hk : 3 * n + m + 40 ≤ 4300) (q : Q (.v (tbD N.toNumX [fl (btw N x y 0), fl (btw N x y 1), fl (btw N x y 2), fl (btw N x y 3)])) [.v (.int g), .v (rwD N.toNumX (fl x)), .v (rwD N.toNumX (fl y))]) : Wc (n_l_between [.v (.int g), .v (rwD N.toNumX (fl x)), .v (rwD N.toNumX (fl y))]) Q E := by
  obtain ⟨hg, hg2⟩ := hgr.le
  obtain ⟨M0, hc⟩ := part_Z hx h0
  have step : ∀ {i : Nat} {l : List A} {QF : Flow → DEnv → Prop} {EE : Ex → DEnv → Prop}, l.length ≤ 10 → QF .nx [some (.v (.int g)), some (.v (rwD N.toNumX (fl x))), some (.v (rwD N.toNumX (fl y))), some (.v (N.nm (1 * N.inv x.norm))), some (.m (l ++ [btwA N x y i])), some (.v (rwD N.toNumX (fl (one4 R i))))] →
      Wp (b_l_between_1 [some (.v (.int g)), some (.v (rwD N.toNumX (fl x))), some (.v (rwD N.toNumX (fl y))), some (.v (N.nm (1 * N.inv x.norm))), some (.m l), some (.v (rwD N.toNumX (fl (one4 R i))))]) QF EE := by
    intro i l QF EE hl qa
    have z1 := hx.mul (one4_Z (N := N) (i := i))
    have z2 := z1.mul hy
    have z3 := z2.sc hc
    unfold b_l_between_1
    fail "s"
    refine l_four_times_s hg hg2 hx one4_Z (by omega) ?_
    fail "s"
    refine l_four_times_s hg hg2 z1 hy (by omega) ?_
    fail "s"
    refine l_scaled_s hg hg2 (by simp [fl]) (z2.rw.ok (by omega)) (hc.ok (by omega)) (fun r hr => z3.rw.ok (by omega) _ (by rw [fl_sc]; exact List.mem_map.mpr ⟨r, hr, rfl⟩)) ?_
    fail "s"
    refine wap (by with_unfolding_all rfl) (szl_of (by omega)) ?_
    fail "s"
    exact qa
  refine wc_fn rfl rfl ?_
  unfold b_l_between
  fail "s"
  refine l_norm_s hg hg2 hx (by omega) ?_
  rw [one_nm (N := N)]
  fail "s"
  refine l_over_s hg hg2 ((Zn.one (N := N)).ok (by omega)) (hx.norm.ok (by omega)) h0 (hc.ok (by omega)) ?_
  fail "s"
  refine l_ones_s (N := N) (m := 4) (by decide) ?_
  rw [onesL4]
  fail "s"
  refine wo_eq rfl ?_
  refine w_for_cons ?_
  fail "s"
  refine step (by simp) ?_
  fail "s"
  refine w_for_cons ?_
  fail "s"
  refine step (by simp) ?_
  fail "s"
  refine w_for_cons ?_
  fail "s"
  refine step (by simp) ?_
  fail "s"
  refine w_for_cons ?_
  fail "s"
  refine step (by simp) ?_
  fail "s"
  refine w_for_nil ?_
  fail "s"
  refine wo_eq rfl ?_
  fail "s"
  exact q
end

section
variable {g : Int} {R : Type} [Lean.Grind.CommRing R] {N : NumF g R} {L M n m k j : Nat} {x y z v : Q4 R} {p r t c : R}
theorem inv_one (h : r ≠ 0) (e : r * c = 1) : c = N.inv r := by
  have := N.mi r h
  have e2 : c * (r * N.inv r) = N.inv r * (r * c) := by grind
  rw [this, e] at e2
  grind
theorem ne_of_mul (N : NumF g R) (h : r * c = 1) : r ≠ 0 := fun z => by
  rw [z] at h
  exact N.one0 (by grind)
theorem mul_ne0 (N : NumF g R) (h1 : r ≠ 0) (h2 : c ≠ 0) : r * c ≠ 0 := ne_of_mul N (c := N.inv r * N.inv c) (by
  have a := N.mi r h1
  have b := N.mi c h2
  have e : r * c * (N.inv r * N.inv c) = (r * N.inv r) * (c * N.inv c) := by grind
  rw [e, a, b]; grind)
theorem inv_mul (N : NumF g R) (h1 : r ≠ 0) (h2 : c ≠ 0) : N.inv (r * c) = N.inv r * N.inv c := (inv_one (mul_ne0 N h1 h2) (by
  have a := N.mi r h1
  have b := N.mi c h2
  have e : r * c * (N.inv r * N.inv c) = (r * N.inv r) * (c * N.inv c) := by grind
  rw [e, a, b]; grind)).symm
def pv (x : List R) : Q4 R := ⟨0, vc x 0, vc x 1, vc x 2⟩
end

local macro_rules | `(tactic| fail "e") => `(tactic| simp only [frzE_o])
section
variable {g : Int} {R : Type} [Lean.Grind.CommRing R] {N : NumF g R} {w n L K L2 k j k2 m h e M : Nat} {x y r u v a b : List R} {t o F G T rows : List (List R)} {hs : List Nat} {AA : List (List R)} {c : R} {Q : DD.A → List DD.A → Prop} {E : Ex → List DD.A → Prop}

theorem sg_par : ∀ {n : Nat}, (n % 2 = 0 → (sg n : R) = 1) ∧ (n % 2 = 1 → (sg n : R) = -1)
  | 0 => ⟨fun _ => rfl, fun h => by omega⟩
  | n + 1 => by
    obtain ⟨h1, h2⟩ := sg_par (n := n)
    refine ⟨fun h => ?_, fun h => ?_⟩
    · show -sg n = 1
      rw [h2 (by omega)]; grind
    · show -sg n = -1
      rw [h1 (by omega)]
theorem sg_even {i0 : Nat} (h : (i0 : Int).fmod 2 = 0) : (sg i0 : R) = 1 := sg_par.1 (by rw [Int.fmod_eq_emod_of_nonneg _ (by decide)] at h; omega)
theorem sg_odd {i0 : Nat} (h : ¬ (i0 : Int).fmod 2 = 0) : (sg i0 : R) = -1 := sg_par.2 (by rw [Int.fmod_eq_emod_of_nonneg _ (by decide)] at h; omega)
theorem step_det {n' i0 : Nat} {left : List (List R)} {head : List R} (N : NumF g R) (hw : ∀ l ∈ left, l.length = n' + 1) (hget : left[i0]? = some head) (h0 : head.getD 0 0 ≠ 0) (hl : left.length = n' + 1) :
    det (n' + 1) (tb left) = sg i0 * head.getD 0 0 * det n' (tb ((left.eraseIdx i0).map (stepR N.inv head))) := by
  have hi : i0 < n' + 1 := by rw [← hl]; exact (List.getElem?_eq_some_iff.mp hget).1
  have hm := N.mi _ h0
  have hh : left.getD i0 [] = head := by rw [List.getD_eq_getElem?_getD, hget]; rfl
  have th : ∀ a, tb left i0 a = head.getD a 0 := fun a => by show (left.getD i0 []).getD a 0 = _; rw [hh]
  rw [det_step (z := fun i => -(tb left i 0 * N.inv (head.getD 0 0))) hi fun i hi2 ne => by rw [th]; grind, th]
  congr 1
  have el : (left.eraseIdx i0).length = n' := by rw [List.length_eraseIdx_of_lt (by omega)]; omega
  refine det_congr fun b a hb ha => ?_
  rw [tb_mapT (by rw [el]; exact hb)]
  have eg : (left.eraseIdx i0).getD b [] = left.getD (skp i0 b) [] := by
    rw [List.getD_eq_getElem?_getD, List.getD_eq_getElem?_getD, List.getElem?_eraseIdx]
    unfold skp
    split <;> rfl
  rw [eg]
  have hs := skp_lt (i := i0) hb
  have hlen : (left.getD (skp i0 b) []).length = n' + 1 := hw _ (row_mem (by omega))
  show _ = (stepR N.inv head (left.getD (skp i0 b) [])).getD a 0
  rw [stepR_get (hw _ (List.mem_of_getElem? hget)) hlen ha]
  rw [th]
  rfl
theorem determinant_v (hgr : Gr g) (ht : Tw N m m L k t) (hk : (k + 4) * 2 ^ m ≤ 3648) (hm : m ≤ 5) (ker : KerL m t) (q : Q (.v (N.nm (det m (tb t)))) [.v (.int g), .v (tbD N.toNumX t)]) : Wc (n_determinant [.v (.int g), .v (tbD N.toNumX t)]) Q E := by
  obtain ⟨hg, hg2⟩ := hgr.le
  refine wc_fn rfl rfl ?_
  unfold b_determinant b_determinant_1
  fail "s"
  refine wo_eq (a := .m ((t.map (rwD N.toNumX)).map A.v)) rfl ?_
  fail "s"
  rw [show c_ONE = N.nm 1 from one_nm (N := N), List.map_map]
  refine w_while (fun n ρ => ∃ (left : List (List R)) (found : R) (s4 s5 : Option D) (L' k' Lf c : Nat), ρ = [some (.v (.int g)), some (.v (tbD N.toNumX t)), some (.m (left.map fun l => A.v (rwD N.toNumX l))), some (.v (N.nm found)), s4.map A.v, s5.map A.v, none, none] ∧ left.length = n ∧ (∀ l ∈ left, Rw N n L' k' l) ∧ 0 < L' ∧ Bd k' (L' : Int) ∧ KerL n left ∧ found ≠ 0 ∧ Zn N Lf c found ∧ k' + 4 ≤ c ∧ c * 2 ^ n ≤ 3648 ∧ n ≤ 5 ∧ found * det n (tb left) = det m (tb t))
    ⟨t, 1, none, none, L, k, 1, k + 4, rfl, ht.len, ht.r, ht.pos, ht.bd, ker, N.one0, Zn.one.up (by omega), by omega, hk, hm, by show (1 : R) * _ = _; grind⟩ ?_
  rintro n _ ⟨left, found, s4, s5, L', k', Lf, c, rfl, hlen, hrow, L0, hLb, hker, hf0, hfZ, hkc, hc, hn5, hdt⟩
  fail "s"
  rw [rows_lst]
  refine wo_neNil (k := 3) lst_ok (by decide) ?_
  fail "s"
  refine wk_b (fun hne => ?_) (fun hne => ?_)
  · fail "s"
    have hn0 : n = 0 := by
      cases left with
      | nil => exact hlen.symm
      | cons a b => simp at hne
    subst hn0
    have e : found = det m (tb t) := by rw [← hdt]; show found = found * 1; grind
    rw [e]
    exact q
  have hn : 1 ≤ n := by
    cases left with
    | nil => simp at hne
    | cons a b => simp at hlen; omega
  obtain ⟨n', rfl⟩ : ∃ n', n = n' + 1 := ⟨n - 1, by omega⟩
  rw [Nat.pow_succ] at hc
  have hc2 : c * 2 ≤ 3648 := by
    have : 1 ≤ 2 ^ n' := Nat.one_le_two_pow
    have : c * 1 ≤ c * 2 ^ n' := Nat.mul_le_mul_left _ this
    rw [← Nat.mul_assoc] at hc
    omega
  have hnn : n' + 1 ≤ 3648 := by
    have h1 : n' + 1 ≤ 2 ^ (n' + 1) := Nat.le_of_lt Nat.lt_two_pow_self
    rw [Nat.pow_succ] at h1
    have : 2 ^ n' * 2 ≤ c * (2 ^ n' * 2) := Nat.le_mul_of_pos_left _ (by omega)
    omega
  have hw : ∀ l ∈ left, l.length = n' + 1 := fun l hl => (hrow l hl).len
  fail "s"
  rw [rows_lst]
  refine wo_eq rfl ?_
  refine ⟨sz_of (by unfold enumD; rw [List.length_map, List.length_zipIdx, List.length_map, hlen]; omega), ?_⟩
  refine heads_comp (fun l hl => by rw [hw l hl]; omega) (by with_unfolding_all exact Nat.le_refl 8) (by with_unfolding_all rfl) fun is hi1 hi2 => ?_
  obtain ⟨kk, hd0, hkk, h00⟩ := ker_head N.one0 hker
  have hkl := (List.getElem?_eq_some_iff.mp hkk).1
  have hkg : left.getD kk [] = hd0 := by rw [List.getD_eq_getElem?_getD, hkk]; rfl
  have hin := hi2 kk hkl (by rw [hkg]; exact h00)
  cases is with
  | nil => cases hin
  | cons i0 is =>
    clear hkk hkl hkg h00 hin hi2
    obtain ⟨hil, hi0⟩ := hi1 i0 (by simp)
    generalize hhd : left.getD i0 [] = head at hi0
    have hget : left[i0]? = some head := by rw [← hhd, List.getD_eq_getElem?_getD, List.getElem?_eq_getElem hil]; rfl
    have hhm := List.mem_of_getElem? hget
    have hhR := hrow head hhm
    have hh0 : head.getD 0 0 ≠ 0 := hi0
    have hhZ : Zn N L' k' (head.getD 0 0) := hhR.vc 0
    have hatl : ∀ l : List R, l.length = n' + 1 → atI (l.map N.nm) 0 = some (N.nm (l.getD 0 0)) := fun l h => nm_at (k := 0) (by omega)
    refine ⟨_, rfl, List.all_eq_true.mpr fun a ha => ?_, ?_⟩
    · obtain ⟨i, _, rfl⟩ := List.mem_map.mp ha
      rfl
    dsimp only
    rw [ints_frz]
    fail "s"
    refine wo_eqNil (k := 1) (ints_ok (is := i0 :: is)) (by decide) ?_
    fail "s"
    refine wk_b (fun hh => absurd hh (by simp)) (fun _ => ?_)
    fail "s"
    refine w_popAt (by with_unfolding_all rfl) ?_
    have ix0 : ∀ {P : A → Prop}, P (.v (.int i0)) → Wo (opIx (.v (.lst (.int i0 :: is.map fun i : Nat => D.int i))) (.v (.int 0))) P := fun h => ix_at (d := .int i0) rfl (by rw [atI_get (by decide) (by simp)]; rfl) h
    fail "s"
    refine ix0 ?_
    refine ⟨_, i0, rwD N.toNumX head, rfl, rfl, by omega, by rw [List.length_map]; exact hil, by rw [List.getElem?_map, hget]; rfl, ?_⟩
    rw [erase_map]
    repeat' (fail_if_success (with_reducible refine w_if ?_)); first | fail "w" | fail "e"
    refine wp_mono (Q := fun a ρ1 => ρ1 = [some (.v (.int g)), some (.v (tbD N.toNumX t)), some (.m ((left.eraseIdx i0).map fun l => A.v (rwD N.toNumX l))), some (.v (N.nm found)), some (.v (.lst (.int i0 :: is.map fun i : Nat => D.int i))), some (.v (rwD N.toNumX head)), none, none] ∧ ∃ z, a = A.v (N.nm z) ∧ z ≠ 0 ∧ Zn N L' (k' + 1) z ∧ z = sg i0 * head.getD 0 0) ?_ ?_ (fun _ _ z => z)
    · fail "s"
      refine ix0 ?_
      fail "s"
      refine wk_d (fun hpar => ?_) (fun hpar => ?_)
      · fail "s"
        refine ix_at (ds := head.map N.nm) rfl (hatl head hhR.len) ?_
        fail "s"
        exact ⟨_, rfl, hh0, hhZ.up (by omega), by rw [sg_even hpar]; grind⟩
      · fail "s"
        refine ix_at (ds := head.map N.nm) rfl (hatl head hhR.len) ?_
        fail "s"
        refine minus_s hg hg2 (hhZ.ok (by omega)) ?_
        fail "s"
        exact ⟨-(head.getD 0 0), rfl, fun z => hh0 (by grind), hhZ.neg, by rw [sg_odd hpar]; grind⟩
    rintro _ _ ⟨rfl, z, rfl, hz0, hzZ, hzs⟩
    have hfz := hfZ.mul hzZ
    fail "s"
    refine times_s hg hg2 (hfZ.ok (by omega)) (hzZ.ok (by omega)) (hfz.ok (by omega)) ?_
    fail "s"
    rw [rows_lst]
    refine wo_eq (a := (left.eraseIdx i0).map (rwD N.toNumX)) rfl ?_
    have hel : (left.eraseIdx i0).length = n' := by rw [List.length_eraseIdx_of_lt hil]; omega
    refine ⟨sz_of (by rw [List.length_map, hel]; omega), ?_⟩
    obtain ⟨M, m0, mb, iv⟩ := hhZ.inv (n := k' + 1) hh0
    have step : ∀ row ∈ left, Rw N n' (L' * M) (k' + k' + 3) (stepR N.inv head row) ∧ Ok N (row.getD 0 0 * N.inv (head.getD 0 0)) ∧ (∀ r ∈ head, Ok N (r * -(row.getD 0 0 * N.inv (head.getD 0 0)))) ∧ ∀ r ∈ List.zipWith (· + ·) row (head.map (· * -(row.getD 0 0 * N.inv (head.getD 0 0)))), Ok N r := fun row hr => by
      have hR := hrow row hr
      have hq := iv _ ((hR.vc 0).up (by omega)) (by omega)
      have hS := hhR.mulc hq.neg
      have hA := (hR.scale m0 mb).up (n := k' + k' + 2) (by omega)
      have hZ := hA.addr (hS.up (by omega))
      refine ⟨⟨stepR_len hhR.len hR.len, fun r hr => ?_, hZ.pos, hZ.bd.mono (by omega)⟩, hq.ok (by omega), fun r hr => (hS.z (List.mem_map.mpr ⟨r, hr, rfl⟩)).ok (by omega), hZ.ok (by omega)⟩
      exact NumF.sle (hZ.s r (List.mem_of_mem_drop hr)) (by omega)
    fail "s"
    refine w_compMap (rwD N.toNumX) (fun row => A.v (rwD N.toNumX (stepR N.inv head row))) (xs := left.eraseIdx i0) rfl (fun row hr => ?_) ?_
    · have hr := List.mem_of_mem_eraseIdx hr
      have hR := hrow row hr
      obtain ⟨s1, s2, s3, s4⟩ := step row hr
      fail "s"
      refine ix_at (ds := row.map N.nm) rfl (hatl row hR.len) ?_
      fail "s"
      refine ix_at (ds := head.map N.nm) rfl (hatl head hhR.len) ?_
      fail "s"
      refine over_s hg hg2 ((hR.vc 0).ok (by omega)) (hhZ.ok (by omega)) hh0 s2 ?_
      fail "s"
      refine taken_off_s hg hg2 (by rw [hR.len, hhR.len]) (by rw [hR.len]; omega) (hR.ok (by omega)) (hhR.ok (by omega)) s2 s3 s4 ?_
      fail "s"
      refine wo_eq (a := .v (rwD N.toNumX (stepR N.inv head row))) ?_ ?_
      · unfold rwD opSl
        simp only [A.frz]
        rw [show (some (1 : Int)) = some ((1 : Nat) : Int) from rfl, cut_from, ← List.map_drop]
        rfl
      fail "s"
    fail "s"
    refine ⟨n', by omega, (left.eraseIdx i0).map (stepR N.inv head), found * z, some (.lst (D.int i0 :: is.map fun i : Nat => D.int i)), some (rwD N.toNumX head), L' * M, k' + k' + 3, Lf * L', c * 2, by rw [List.map_map]; rfl, by rw [List.length_map, hel], fun l hl => ?_, Nat.mul_pos L0 m0, (bdm hLb mb).mono (by omega), ker_step N.mi hw hget hh0 hker, fun e => ?_, hfz.up (by omega), by omega, by rw [Nat.mul_assoc, Nat.mul_comm 2]; exact hc, by omega, by rw [← hdt, step_det N hw hget hh0 hlen, hzs]; grind⟩
    · obtain ⟨row, hr, rfl⟩ := List.mem_map.mp hl
      exact (step row (List.mem_of_mem_eraseIdx hr)).1
    · have := N.mi found hf0
      exact hz0 (by grind)
end
local macro_rules | `(tactic| fail "w") => `(tactic| with_reducible first | refine wo_attrKF ?_ | refine wo_attrKT ?_)
section
variable {g : Int} {R : Type} [Lean.Grind.CommRing R] {N : NumF g R} {L K L2 M k j k2 m n h : Nat} {x y : List R} {AA F t s u v : List (List R)} {r c : R} {Q : A → List A → Prop} {E : Ex → List A → Prop}
theorem form_eq_s (q : Q (.v (.bl true)) [.v (fD N t), .v (fD N t)]) : Wc (n_Form_eq [.v (fD N t), .v (fD N t)]) Q E := by
  refine wc_fn rfl rfl ?_
  unfold b_Form_eq
  fail "s"
  refine wo_eq (a := .v (.bl true)) rfl ?_
  fail "s"
  refine wk_d (fun _ => ?_) (fun h => absurd trivial h)
  fail "s"
  refine wo_eqS (k := 3) rfl okc_tb (by decide) ?_
  fail "s"
  exact q
theorem w_eqF {ρ : DEnv} {e f : DD.M DD.A} {neg : Bool} {QA : DD.A → DEnv → Prop} {EE : Ex → DEnv → Prop} (k : Wp (e ρ) (fun a ρ1 => a = .v (fD N t) ∧ Wp (f ρ1) (fun b ρ2 => b = .v (fD N t) ∧ QA (.v (.bl (true != neg))) ρ2) EE) EE) : Wp (dEqO (Str.ofString "Form") n_Form_eq neg e f ρ) QA EE :=
  w_eqO (wp_mono k (fun a ρ1 ⟨ea, k⟩ => wp_mono k (fun b ρ2 ⟨eb, k⟩ => ⟨_, _, _, _, ea, eb, form_eq_s ⟨_, rfl, k⟩⟩) fun _ _ z => z) fun _ _ z => z)
theorem keeper_eq_s (q : Q (.v (.bl true)) [.v (kD N t s), .v (kD N t s)]) : Wc (n_Keeper_eq [.v (kD N t s), .v (kD N t s)]) Q E := by
  refine wc_fn rfl rfl ?_
  unfold b_Keeper_eq
  fail "s"
  refine wo_eq (a := .v (.bl true)) rfl ?_
  fail "s"
  refine w_eqF (N := N) (t := t) ?_
  fail "s"
  rw [show (true != false) = true from rfl]
  fail "s"
  refine wo_eqS (k := 3) rfl okc_tb (by decide) ?_
  fail "s"
  exact q
theorem w_eqK {ρ : DEnv} {e f : DD.M DD.A} {neg : Bool} {QA : DD.A → DEnv → Prop} {EE : Ex → DEnv → Prop} (k : Wp (e ρ) (fun a ρ1 => a = .v (kD N t s) ∧ Wp (f ρ1) (fun b ρ2 => b = .v (kD N t s) ∧ QA (.v (.bl (true != neg))) ρ2) EE) EE) : Wp (dEqO (Str.ofString "Keeper") n_Keeper_eq neg e f ρ) QA EE :=
  w_eqO (wp_mono k (fun a ρ1 ⟨ea, k⟩ => wp_mono k (fun b ρ2 ⟨eb, k⟩ => ⟨_, _, _, _, ea, eb, keeper_eq_s ⟨_, rfl, k⟩⟩) fun _ _ z => z) fun _ _ z => z)
theorem wm_keeper {P : DD.A → Prop} {EE : Ex → Prop} (hgr : Gr g) (ht : Tw N m m K j t) (hs : Tw N m m L k s) (hk : k + j + m + k + m ≤ 4300) (h1 : 1 ≤ m) (h10 : m ≤ 10) (ke : Kept m t s) (q : P (.mi "Keeper" ["form", "table"] [.v (fD N t), .v (tbD N.toNumX s)])) :
    Wm (n_Keeper_init [.mi "Keeper" [] [], .v (fD N t), .v (tbD N.toNumX s)]) P EE := keeper_init_s hgr ht hs hk h1 h10 ke ⟨rfl, _, _, rfl, q⟩
def kA (N : NumF g R) (t s : List (List R)) : DD.A := .mi "Keeper" ["form", "table"] [.v (fD N t), .v (tbD N.toNumX s)]
theorem kA_frz : (kA N t s).frz = kD N t s := rfl
theorem squares_s (hgr : Gr g) (h1 : 1 ≤ m) (hm5 : m ≤ 5) (hgm : 0 < g → m ≤ 4) (hf : FormT m (onesL m : List (List R))) (q : Q (.mi "Form" ["table", "ground"] [.v (tbD N.toNumX (onesL m)), .v (.int g)]) [.v (.int g), .v (.int m)]) : Wc (n_squares [.v (.int g), .v (.int m)]) Q E := by
  refine wc_fn rfl rfl ?_
  unfold b_squares
  fail "s"
  refine ones_s (N := N) (by omega) ?_
  fail "s"
  refine ⟨⟨rfl, rfl⟩, ?_⟩
  simp only [List.drop_zero, List.take_zero, List.append_nil, List.cons_append, List.nil_append, List.map_cons, List.map_nil]
  refine form_init_s hgr onesL_Z (by decide) h1 hm5 hgm hf ?_
  refine ⟨rfl, _, _, rfl, ?_⟩
  fail "s"
  exact q
theorem ones_diag : (onesL m : List (List R)) = diagL m fun _ => 1 := rfl
theorem ones_form (N : NumF g R) : FormT m (onesL m : List (List R)) := by rw [ones_diag]; exact diag_form N.mi fun _ _ => N.one0
theorem row_tt (hx : Rw N m L k x) : rowB g m (rwD N.toNumX x) = true := by rw [rowB_rw, hx.len]; simp
theorem look_row_s (ht : t.length = m) (hx : Rw N m L k x) (hk : k ≤ 4300) (h10 : m ≤ 10) (q : Q (.v .non) [.v (fD N t), .v (rwD N.toNumX x)]) : Wc (n_look_row [.v (fD N t), .v (rwD N.toNumX x)]) Q E := by
  refine wc_fn rfl rfl ?_
  unfold b_look_row
  fail "s"
  refine wo_lenTb ht ?_
  fail "s"
  refine is_row_s (n := 4300) (pl_rw fun r hr => hx.ok hk r hr) (by omega) ?_
  rw [row_tt hx]
  fail "s"
  exact q
theorem keeper_of_s (hgr : Gr g) (ht : t.length = m) (hs : Tw N m m L k s) (hx : Rw N m L2 k2 x) (hk : k2 + k + m ≤ 4300) (h1 : 1 ≤ m) (h10 : m ≤ 10) (q : Q (.v (rwD N.toNumX (thr m x s))) [.v (kD N t s), .v (rwD N.toNumX x)]) : Wc (n_Keeper_of [.v (kD N t s), .v (rwD N.toNumX x)]) Q E := by
  obtain ⟨hg, hg2⟩ := hgr.le
  refine wc_fn rfl rfl ?_
  unfold b_Keeper_of
  fail "s"
  refine wc_noX (look_row_s ht hx (by omega) h10 ?_)
  fail "s"
  refine wc_noX (through_s hg hg2 hx hs hk h1 h10 h10 ?_)
  fail "s"
  exact q
theorem kept_all (ht : SqT_ m t) (ke : Kept m t s) (hx : x.length = m) (hy : y.length = m) : bl m t (thr m x s) (thr m y s) = bl m t x y := by
  have hs := ke.sq
  have lx : (thr m x s).length = m := thr_len hs.2
  have ly : (thr m y s).length = m := thr_len hs.2
  have vx : ∀ a, a < m → vc (thr m x s) a = sm m fun i => vc x i * tb s i a := fun a ha => by rw [thr_vc (by rw [hx, hs.1]) hs.2 ha, hs.1]
  have vy : ∀ a, a < m → vc (thr m y s) a = sm m fun i => vc y i * tb s i a := fun a ha => by rw [thr_vc (by rw [hy, hs.1]) hs.2 ha, hs.1]
  have kk : ∀ i b, i < m → b < m → bil m (tb t) (tb s i) (tb s b) = tb t i b := fun i b hi hb => by
    have := ke.k i b hi hb
    rwa [bl_bil ht (hs.2 _ (row_mem (by rw [hs.1]; exact hi))) (hs.2 _ (row_mem (by rw [hs.1]; exact hb)))] at this
  rw [bl_bil ht lx ly, bl_bil ht hx hy, bil_congr (x' := fun a => sm m fun i => vc x i * tb s i a) (y' := fun a => sm m fun i => vc y i * tb s i a) vx vy]
  have gen : ∀ (T S : Nat → Nat → R) (X Y : Nat → R), (∀ i b, i < m → b < m → bil m T (S i) (S b) = T i b) → bil m T (fun a => sm m fun i => X i * S i a) (fun a => sm m fun i => Y i * S i a) = bil m T X Y := fun T S X Y hk => by
    have l1 : ∀ Z : Nat → R, bil m T (fun a => sm m fun i => X i * S i a) Z = sm m fun i => X i * bil m T (S i) Z := fun Z => by
      rw [bil_lin]
      have e1 : (sm m fun k => (sm m fun i => X i * S i k) * sm m fun j => T k j * Z j) = sm m fun k => sm m fun i => X i * (S i k * sm m fun j => T k j * Z j) := sm_congr fun k _ => by
        rw [← sm_mulr]
        exact sm_congr fun i _ => by grind
      rw [e1, sm_comm]
      refine sm_congr fun i _ => ?_
      rw [sm_mull, bil_lin]
    have l2 : ∀ i, i < m → bil m T (S i) (fun a => sm m fun b => Y b * S b a) = sm m fun b => Y b * bil m T (S i) (S b) := fun i _ => by
      unfold bil
      have e1 : (sm m fun j => (sm m fun k => S i k * T k j) * sm m fun b => Y b * S b j) = sm m fun j => sm m fun b => Y b * ((sm m fun k => S i k * T k j) * S b j) := sm_congr fun j _ => by
        rw [← sm_mull]
        exact sm_congr fun b _ => by grind
      rw [e1, sm_comm]
      exact sm_congr fun b _ => by rw [sm_mull]
    rw [l1, bil_lin]
    refine sm_congr fun i hi => ?_
    rw [l2 i hi]
    congr 1
    exact sm_congr fun b hb => by rw [hk i b hi hb]; grind
  exact gen (tb t) (tb s) (vc x) (vc y) kk
theorem kept_prod (ht : SqT_ m t) (ks : Kept m t s) (ku : Kept m t u) : Kept m t (s.map fun x => thr m x u) := ⟨⟨by simp [ks.sq.1], fun l hl => by
  obtain ⟨x, hx, rfl⟩ := List.mem_map.mp hl
  exact thr_len ku.sq.2⟩, fun i j hi hj => by
  have row : ∀ i, i < m → (s.map fun x => thr m x u).getD i [] = thr m (s.getD i []) u := fun i hi => by
    rw [getD_at (by rw [List.length_map, ks.sq.1]; exact hi), List.getElem_map, getD_at (by rw [ks.sq.1]; exact hi)]
  rw [row i hi, row j hj, kept_all ht ku (ks.sq.2 _ (row_mem (by rw [ks.sq.1]; exact hi))) (ks.sq.2 _ (row_mem (by rw [ks.sq.1]; exact hj))), ks.k i j hi hj]⟩
theorem keeper_then_s (hgr : Gr g) (ht : Tw N m m K j t) (hs : Tw N m m L k s) (hu : Tw N m m M n u) (hk : 2 * k + 2 * n + j + 4 * m ≤ 4300) (h1 : 1 ≤ m) (h10 : m ≤ 10) (ks : Kept m t s) (ku : Kept m t u)
    (hpr : ∀ {QQ : DD.A → List DD.A → Prop} {EE : Ex → List DD.A → Prop}, QQ (.v (tbD N.toNumX (s.map fun x => thr m x u))) [.v (.int g), .v (tbD N.toNumX s), .v (tbD N.toNumX u)] → Wc (n_product [.v (.int g), .v (tbD N.toNumX s), .v (tbD N.toNumX u)]) QQ EE)
    (q : Q (kA N t (s.map fun x => thr m x u)) [.v (kD N t s), .v (kD N t u)]) : Wc (n_Keeper_then [.v (kD N t s), .v (kD N t u)]) Q E := by
  refine wc_fn rfl rfl ?_
  unfold b_Keeper_then
  fail "s"
  refine wo_eq (a := .v (.bl true)) rfl ?_
  fail "s"
  refine w_eqF (N := N) (t := t) ?_
  fail "s"
  rw [show (true != true) = false from rfl]
  fail "s"
  refine wc_noX (hpr ?_)
  fail "s"
  refine wm_keeper hgr ht (prod_Z hs hu) (by omega) h1 h10 (kept_prod ht.sq ks ku) ?_
  fail "s"
  exact q
theorem keeper_hand_s (hgr : Gr g) (hs : Tw N m m L k s) (hk : (k + 4) * 2 ^ m ≤ 3648) (hm : m ≤ 5) (ker : KerL m s) (hd : det m (tb s) = 1) (q : Q (.v (.int 1)) [.v (kD N t s)]) : Wc (n_Keeper_hand [.v (kD N t s)]) Q E := by
  refine wc_fn rfl rfl ?_
  unfold b_Keeper_hand c_ONE
  fail "s"
  refine wc_noX (determinant_v hgr hs hk hm ker ?_)
  rw [hd]
  fail "s"
  refine wo_eqS (k := 1) (one_nm (N := N)) okc_nmX (by decide) ?_
  fail "s"
  exact q
/-- each is the other's back -/
structure Bk (m : Nat) (s u : List (List R)) : Prop where
  sq : SqT_ m s
  uq : SqT_ m u
  su : s.map (fun x => thr m x u) = onesL m
  us : u.map (fun x => thr m x s) = onesL m
theorem Bk.swap (h : Bk m s u) : Bk m u s := ⟨h.uq, h.sq, h.us, h.su⟩
theorem map_at {α β : Type} {f : α → β} {l : List α} {k : List β} {i : Nat} (e : l.map f = k) (hi : i < l.length) : ∃ hk : i < k.length, k[i] = f l[i] := by
  subst e
  exact ⟨by simpa using hi, by simp⟩
theorem Bk.row (h : Bk m s u) {i : Nat} (hi : i < m) : thr m (s.getD i []) u = eL m i := by
  have hl : i < s.length := by rw [h.sq.1]; exact hi
  obtain ⟨hk, e⟩ := map_at h.su hl
  rw [getD_at hl, ← e]
  simp [onesL]
theorem Bk.ker (h : Bk m s u) : KerL m s := fun w hw j hj => by
  have hr : ∀ k, k < m → (sm m fun a => tb s k a * w a) = 0 := fun k hk => hw _ (row_mem (t := s) (i := k) (by rw [h.sq.1]; exact hk))
  have e := h.swap.row hj
  have lu := h.uq.2 _ (row_mem (t := u) (i := j) (by rw [h.uq.1]; exact hj))
  have e2 : ∀ a, a < m → (sm m fun k => tb u j k * tb s k a) = if j = a then 1 else 0 := fun a ha => by
    have := thr_vc (x := u.getD j []) (t := s) (m := m) (by rw [lu, h.sq.1]) h.sq.2 ha
    rw [e, eL_vc ha, h.sq.1] at this
    exact this.symm
  have e3 : w j = sm m fun a => (sm m fun k => tb u j k * tb s k a) * w a := by
    rw [sm_congr (f' := fun a => (if j = a then 1 else 0) * w a) fun a ha => by rw [e2 a ha], sm_pick hj]
  rw [e3]
  have e4 : (sm m fun a => (sm m fun k => tb u j k * tb s k a) * w a) = sm m fun a => sm m fun k => tb u j k * (tb s k a * w a) := sm_congr fun a _ => by
    rw [← sm_mulr]
    exact sm_congr fun k _ => by grind
  rw [e4, sm_comm]
  refine sm_zero fun k hk => ?_
  rw [sm_mull, hr k hk]
  grind
theorem spn_fold (w : Wid n AA) : ∀ {ps : List (R × List R)} {acc : List R}, Spn n AA acc → (∀ p ∈ ps, p.2 ∈ AA) → Spn n AA (ps.foldl thrF acc)
  | [], _, h, _ => h
  | p :: ps, acc, h, hp => spn_fold w (ps := ps) (acc := thrF acc p) (.step h (hp p (by simp))) fun q hq => hp q (List.mem_cons_of_mem _ hq)
theorem spn_thr (w : Wid n AA) : Spn n AA (thr n x AA) := spn_fold w .zero fun p hp => (List.of_mem_zip hp).2
theorem ones_len : (onesL m : List (List R)).length = m := by simp [onesL]
theorem ones_get {i : Nat} (hi : i < m) : (onesL m : List (List R))[i]'(by rw [ones_len]; exact hi) = eL m i := by simp [onesL]
theorem ones_rf (o : (1 : R) ≠ 0) {B : Nat → List R} {G : List (List R)} (hB : ∀ i, i < m → (B i).length = n) (hn : m ≤ n) (h1 : ∀ i j, i < m → j < m → vc (B i) j = if i = j then 1 else 0) (eG : G = (List.range m).map B) : Rf n G ∧ SortH G := by
  have hh : ∀ i, i < m → hd (B i) = i := fun i hi => hd_eq (fun j hj => by rw [h1 i j hi (by omega), if_neg (by omega)]) (by rw [h1 i i hi hi, if_pos rfl]; exact o)
  subst eG
  refine ⟨⟨fun a ha => ?_, fun f hf => ?_, fun f hf => ?_, fun f hf f2 hf2 ne => ?_, ?_⟩, ?_⟩
  · obtain ⟨i, hi, rfl⟩ := List.mem_map.mp ha
    exact hB i (List.mem_range.mp hi)
  · obtain ⟨i, hi, rfl⟩ := List.mem_map.mp hf
    have := List.mem_range.mp hi
    rw [hh i this]; omega
  · obtain ⟨i, hi, rfl⟩ := List.mem_map.mp hf
    have := List.mem_range.mp hi
    rw [hh i this, h1 i i this this, if_pos rfl]
  · obtain ⟨i, hi, rfl⟩ := List.mem_map.mp hf
    obtain ⟨i2, hi2, rfl⟩ := List.mem_map.mp hf2
    have a := List.mem_range.mp hi
    have b := List.mem_range.mp hi2
    rw [hh i a, h1 i2 i b a, if_neg fun z => ne (by rw [z])]
  · unfold List.Nodup
    rw [List.pairwise_map]
    refine List.Pairwise.imp_of_mem ?_ List.nodup_range
    intro i i2 hi hi2 ne e
    have a := List.mem_range.mp hi
    have b := List.mem_range.mp hi2
    have := congrArg hd e
    rw [hh i a, hh i2 b] at this
    exact ne this
  · unfold SortH
    rw [List.pairwise_map]
    refine List.Pairwise.imp_of_mem ?_ (List.pairwise_lt_range (n := m))
    intro i i2 hi hi2 lt
    rw [hh i (List.mem_range.mp hi), hh i2 (List.mem_range.mp hi2)]
    exact lt
theorem bk_least1 (o : (1 : R) ≠ 0) (h : Bk m s u) : Lst m s (onesL m) := by
  obtain ⟨r1, r2⟩ := ones_rf (m := m) (n := m) (B := eL m) (G := onesL m) o (fun i _ => eL_len) (Nat.le_refl _) (fun i j _ hj => eL_vc hj) rfl
  refine ⟨r1, r2, fun a ha => ?_, fun a ha => ?_⟩
  · obtain ⟨i, hi, rfl⟩ := List.mem_map.mp ha
    rw [← h.swap.row (List.mem_range.mp hi)]
    exact spn_thr h.sq.2
  · rw [← thr_ones (h.sq.2 _ ha)]
    exact spn_thr r1.w
/-- the least rows of a table with ones behind, of which u is the back -/
theorem bk_least2 (o : (1 : R) ≠ 0) (h : Bk m s u) : Lst (m + m) (bthL s) (List.zipWith (· ++ ·) (onesL m) u) := by
  have e0 : List.zipWith (· ++ ·) (onesL m) u = (List.range m).map fun i => eL m i ++ u.getD i [] := by
    refine List.ext_getElem (by simp [onesL, h.uq.1]) fun i h1 h2 => ?_
    have hi : i < m := by simp [onesL, h.uq.1] at h1; exact h1
    rw [List.getElem_zipWith, List.getElem_map, List.getElem_range, ones_get hi, getD_at (by rw [h.uq.1]; exact hi)]
  have lu : ∀ i, i < m → (u.getD i []).length = m := fun i hi => h.uq.2 _ (row_mem (by rw [h.uq.1]; exact hi))
  have ls : ∀ i, i < m → (s.getD i []).length = m := fun i hi => h.sq.2 _ (row_mem (by rw [h.sq.1]; exact hi))
  obtain ⟨r1, r2⟩ := ones_rf (m := m) (n := m + m) (B := fun i => eL m i ++ u.getD i []) o (fun i hi => by rw [List.length_append, eL_len, lu i hi]) (by omega) (fun i j hi hj => by rw [vc_appL (by rw [eL_len]; exact hj), eL_vc hj]) e0
  have hw : Wid m s := h.sq.2
  have wb : Wid (m + m) (bthL s) := by have := bth_wid hw; rwa [h.sq.1] at this
  have bl : (bthL s).length = m := by rw [bth_len, h.sq.1]
  have bg : ∀ i, i < m → (bthL s).getD i [] = s.getD i [] ++ eL m i := fun i hi => by
    rw [getD_at (by rw [bl]; exact hi), bth_at (by rw [h.sq.1]; exact hi), getD_at (by rw [h.sq.1]; exact hi)]; congr 1; rw [h.sq.1]
  -- a row put through [X | Y] is put through both
  have two : ∀ {x : List R} {X : List (List R)} {a b : Nat → List R}, x.length = m → X.length = m → Wid (m + m) X → (∀ i, i < m → X.getD i [] = a i ++ b i) → (∀ i, i < m → (a i).length = m) → (∀ i, i < m → (b i).length = m) →
      ∀ j, j < m → vc (thr (m + m) x X) j = (sm m fun k => vc x k * vc (a k) j) ∧ vc (thr (m + m) x X) (m + j) = sm m fun k => vc x k * vc (b k) j := fun {x X a b} hx hX wX e la lb j hj => by
    refine ⟨?_, ?_⟩
    · rw [thr_vc (by rw [hx, hX]) wX (by omega), hX]
      refine sm_congr fun k hk => ?_
      rw [tb_row (by rw [hX]; exact hk), e k hk, vc_appL (by rw [la k hk]; exact hj)]
    · rw [thr_vc (by rw [hx, hX]) wX (by omega), hX]
      refine sm_congr fun k hk => ?_
      rw [tb_row (by rw [hX]; exact hk), e k hk]
      have := vc_appR (x := a k) (y := b k) (j := j)
      rw [la k hk] at this
      rw [this]
  have spl : ∀ {z p q : List R}, z.length = m + m → p.length = m → q.length = m → (∀ j, j < m → vc z j = vc p j ∧ vc z (m + j) = vc q j) → z = p ++ q := fun {z p q} hz hp hq e => by
    refine vc_ext (m := m + m) hz (by rw [List.length_append, hp, hq]) fun j hj => ?_
    rcases Nat.lt_or_ge j m with h1 | h1
    · rw [(e j h1).1, vc_appL (by rw [hp]; exact h1)]
    · obtain ⟨d, rfl⟩ : ∃ d, j = m + d := ⟨j - m, by omega⟩
      rw [(e d (by omega)).2]
      have := vc_appR (x := p) (y := q) (j := d)
      rw [hp] at this
      exact this.symm
  have thrv : ∀ {x : List R} {T : List (List R)} {j : Nat}, x.length = m → SqT_ m T → j < m → (sm m fun k => vc x k * vc (T.getD k []) j) = vc (thr m x T) j := fun {x T j} hx hT hj => by
    rw [thr_vc (by rw [hx, hT.1]) hT.2 hj, hT.1]
    exact sm_congr fun k hk => by rw [tb_row (by rw [hT.1]; exact hk)]
  refine ⟨r1, r2, fun a ha => ?_, fun a ha => ?_⟩
  · rw [e0] at ha
    obtain ⟨i, hi, rfl⟩ := List.mem_map.mp ha
    have hi := List.mem_range.mp hi
    have e : thr (m + m) (u.getD i []) (bthL s) = eL m i ++ u.getD i [] := spl (thr_len wb) eL_len (lu i hi) fun j hj => by
      obtain ⟨a1, a2⟩ := two (lu i hi) bl wb bg ls (fun _ _ => eL_len) j hj
      refine ⟨?_, ?_⟩
      · rw [a1, thrv (lu i hi) h.sq hj, h.swap.row hi]
      · rw [a2]
        have := thr_ones (m := m) (x := u.getD i []) (lu i hi)
        have t2 := thrv (x := u.getD i []) (T := onesL m) (j := j) (lu i hi) onesT hj
        rw [this] at t2
        rw [← t2]
        exact sm_congr fun k hk => by rw [getD_at (l := onesL m) (by rw [ones_len]; exact hk), ones_get hk]
    rw [← e]
    exact spn_thr wb
  · obtain ⟨i, hi, rfl⟩ := bth_mem ha
    have hs1 := h.sq.1
    have e9 : s[i] ++ eL s.length i = s.getD i [] ++ eL m i := by
      rw [getD_at hi]
      congr 1
      rw [hs1]
    rw [e9]
    have hi : i < m := by omega
    have gl : (List.zipWith (· ++ ·) (onesL m) u).length = m := by rw [e0]; simp
    have gg : ∀ k, k < m → (List.zipWith (· ++ ·) (onesL m) u).getD k [] = eL m k ++ u.getD k [] := fun k hk => by
      rw [e0, getD_at (by simpa using hk)]; simp
    have e : thr (m + m) (s.getD i []) (List.zipWith (· ++ ·) (onesL m) u) = s.getD i [] ++ eL m i := spl (thr_len r1.w) (ls i hi) eL_len fun j hj => by
      obtain ⟨a1, a2⟩ := two (ls i hi) gl r1.w gg (fun _ _ => eL_len) lu j hj
      refine ⟨?_, ?_⟩
      · rw [a1]
        have := thr_ones (m := m) (x := s.getD i []) (ls i hi)
        have t2 := thrv (x := s.getD i []) (T := onesL m) (j := j) (ls i hi) onesT hj
        rw [this] at t2
        rw [← t2]
        exact sm_congr fun k hk => by rw [getD_at (l := onesL m) (by rw [ones_len]; exact hk), ones_get hk]
      · rw [a2, thrv (ls i hi) h.uq hj, h.row hi]
    rw [← e]
    exact spn_thr r1.w
end

section
variable {g : Int} {R : Type} [Lean.Grind.CommRing R] {N : NumF g R} {L K L2 M k j k2 m n h : Nat} {w x y z : Q4 R} {AA F o t s u v : List (List R)} {r c : R} {l : List R} {Q : A → List A → Prop} {E : Ex → List A → Prop}
theorem w_objK {ρ : DEnv} {EE : Ex → DEnv → Prop} {QQ : DD.A → DEnv → Prop} {mm : Str} {e : DD.M DD.A} (hm : mm ∉ [Str.ofString "form", Str.ofString "table"]) (k : Wp (e ρ) (fun a ρ1 => a = .v (kD N t s) ∧ QQ (.v (kD N t s)) ρ1) EE) : Wp (dObj (Str.ofString "Keeper") mm e ρ) QQ EE :=
  w_obj (wp_mono k (fun a ρ1 ⟨ea, q⟩ => ⟨_, _, ea, hm, q⟩) fun _ _ z => z)
theorem objK_ex {P : DD.A → Prop} {mm : Str} (hm : mm ∉ [Str.ofString "form", Str.ofString "table"]) (q : P (.v (kD N t s))) : ∃ ks ds, (A.v (kD N t s)) = .v (.ins (Str.ofString "Keeper") ks ds) ∧ mm ∉ ks ∧ P (.v (.ins (Str.ofString "Keeper") ks ds)) := ⟨_, _, rfl, hm, q⟩
theorem product_s {d : Nat} (hg : g = 0 ∨ 2 ≤ g) (hg2 : g ≤ 13) (ho : Tw N d h L k o) (ht : Tw N h m K j t) (hk : k + j + h ≤ 4300) (hd : d ≤ 10) (h1 : 1 ≤ h) (h10 : h ≤ 10) (hm10 : m ≤ 10)
    (q : Q (.v (tbD N.toNumX (o.map fun x => thr m x t))) [.v (.int g), .v (tbD N.toNumX o), .v (tbD N.toNumX t)]) : Wc (n_product [.v (.int g), .v (tbD N.toNumX o), .v (tbD N.toNumX t)]) Q E := by
  refine wc_fn rfl rfl ?_
  unfold b_product
  fail "s"
  refine wo_eq (a := o.map (rwD N.toNumX)) rfl ?_
  refine ⟨sz_of (by rw [List.length_map, ho.len]; omega), ?_⟩
  fail "s"
  refine w_compMap (rwD N.toNumX) (fun x => A.v (rwD N.toNumX (thr m x t))) (xs := o) rfl (fun x hx => ?_) ?_
  · fail "s"
    refine through_s hg hg2 (ho.r x hx) ht hk h1 h10 hm10 ?_
    fail "s"
  fail "s"
  refine wo_eq rfl ?_
  fail "s"
  rw [rows_frz (N := N) (f := fun x => thr m x t)]
  exact q
theorem bth_R (ht : Tw N t.length m L k t) : ∀ a ∈ bthL t, Rw N (m + t.length) L k a := fun a ha => by
  have hl := bth_wid (fun a ha => (ht.r a ha).len) a ha
  obtain ⟨i, hi, rfl⟩ := bth_mem ha
  refine ⟨hl, fun r hr => ?_, ht.pos, ht.bd⟩
  rcases List.mem_append.mp hr with hr | hr
  · exact (ht.r _ (List.getElem_mem hi)).s r hr
  · unfold eL at hr
    obtain ⟨j, _, rfl⟩ := List.mem_map.mp hr
    split
    · exact N.Sone ht.bd
    · exact N.Szero _ _
theorem back_s (hgr : Gr g) (hs : Tw N m m L k s) (hb : Bk m s u) (h1 : 1 ≤ m) (h5 : m ≤ 5) (hB : 2 * dz k 10 + 2 * k + 200 ≤ 4300) (q : Q (.v (tbD N.toNumX u)) [.v (.int g), .v (tbD N.toNumX s)]) : Wc (n_back [.v (.int g), .v (tbD N.toNumX s)]) Q E := by
  obtain ⟨hg, hg2⟩ := hgr.le
  have o := N.one0
  have hsl := hb.sq.1
  have ws : Wid m s := hb.sq.2
  refine wc_fn rfl rfl ?_
  unfold b_back
  fail "s"
  refine wo_lenTb hsl ?_
  fail "s"
  refine wc_fn rfl rfl ?_
  unfold b_rank_of
  fail "s"
  refine least_rows_s (n := m) (rows := s) hgr rfl hs.pos hs.bd (fun a ha => hs.r a ha) (by rw [hsl]; omega) (by omega) hB fun G M0 hG _ _ _ _ _ => ?_
  have eG : G = onesL m := by
    have l1 := bk_least1 o hb
    exact Lst.uniq o ws ws hG l1 (fun a ha => .mem ws ha) (fun a ha => .mem ws ha)
  subst eG
  fail "s"
  refine wo_lenTb ones_len ?_
  fail "s"
  refine wk_d (fun z => absurd z (by omega)) (fun _ => ?_)
  fail "s"
  refine ones_s (N := N) (by omega) ?_
  fail "s"
  refine wo_zipS (l := s.map (rwD N.toNumX)) (k := (onesL m).map (rwD N.toNumX)) (by simp [onesL, hsl]) ?_
  refine ⟨sz_of (by rw [zipD_len, List.length_map]; omega), ?_⟩
  fail "s"
  refine w_compMap (fun p : List R × List R => D.tup [rwD N.toNumX p.1, rwD N.toNumX p.2]) (fun p => DD.A.v (rwD N.toNumX (p.1 ++ p.2))) (xs := s.zip (onesL m)) ?_ (fun p hp => ?_) ?_
  · unfold zipD
    rw [List.zip_map, List.map_map]
    rfl
  · have hp1 := ws _ (List.of_mem_zip hp).1
    have hp2 : p.2.length = m := by
      obtain ⟨i, _, e⟩ := List.mem_map.mp (List.of_mem_zip hp).2
      rw [← e, eL_len]
    fail "s"
    refine wo_eq (a := .v (rwD N.toNumX (p.1 ++ p.2))) ?_ ?_
    · unfold rwD opAdd
      simp only
      rw [if_pos (sz_of (by simp; omega)), List.map_append]
    fail "s"
    try exact ⟨rfl, trivial⟩
  fail "s"
  have ef : frzs ((s.zip (onesL m)).map fun p => DD.A.v (rwD N.toNumX (p.1 ++ p.2))) = (bthL s).map (rwD N.toNumX) := by
    unfold bthL
    rw [frzs_eq, List.map_map, List.zip, List.map_zipWith, List.map_zipWith, hsl]
    rfl
  rw [ef]
  have hs' : Tw N s.length m L k s := by rw [hsl]; exact hs
  refine least_rows_s (n := m + m) (rows := bthL s) hgr rfl hs.pos hs.bd (fun a ha => by have := bth_R hs' a ha; rwa [hsl] at this) (by rw [bth_len, hsl]; omega) (by omega) hB fun G M0 hG _ _ _ _ _ => ?_
  have wb : Wid (m + m) (bthL s) := by have := bth_wid ws; rwa [hsl] at this
  have eG : G = List.zipWith (· ++ ·) (onesL m) u := Lst.uniq o wb wb hG (bk_least2 o hb) (fun a ha => .mem wb ha) (fun a ha => .mem wb ha)
  subst eG
  fail "s"
  refine wo_eq (a := (List.zipWith (· ++ ·) (onesL m) u).map (rwD N.toNumX)) rfl ?_
  refine ⟨sz_of (by simp [onesL]; omega), ?_⟩
  fail "s"
  refine w_compMap (rwD N.toNumX) (fun f => DD.A.v (rwD N.toNumX (f.drop m))) (xs := List.zipWith (· ++ ·) (onesL m) u) rfl (fun f hf => ?_) ?_
  · fail "s"
    refine wo_eq (a := .v (rwD N.toNumX (f.drop m))) ?_ ?_
    · unfold rwD opSl
      simp only [A.frz]
      rw [cut_from, ← List.map_drop]
    fail "s"
    try exact ⟨rfl, trivial⟩
  fail "s"
  refine wo_eq rfl ?_
  fail "s"
  rw [rows_frz (N := N) (f := fun f : List R => f.drop m)]
  have eu : (List.zipWith (· ++ ·) (onesL m) u).map (fun f => f.drop m) = u := by
    refine List.ext_getElem (by simp [onesL, hb.uq.1]) fun i h1 h2 => ?_
    have hi : i < m := by rw [hb.uq.1] at h2; exact h2
    rw [List.getElem_map, List.getElem_zipWith, ones_get hi]
    have := eL_len (R := R) (m := m) (i := i)
    rw [List.drop_append_of_le_length (by rw [this]; omega), List.drop_of_length_le (by rw [this]; omega)]
    simp
  rw [eu]
  exact q
theorem keeper_back_s (hgr : Gr g) (ht : Tw N m m K j t) (hs : Tw N m m L k s) (hu : Tw N m m M n u) (hb : Bk m s u) (ku : Kept m t u) (hk : n + j + m + n + m ≤ 4300) (h1 : 1 ≤ m) (h5 : m ≤ 5) (hB : 2 * dz k 10 + 2 * k + 200 ≤ 4300) (q : Q (kA N t u) [.v (kD N t s)]) : Wc (n_Keeper_back [.v (kD N t s)]) Q E := by
  refine wc_fn rfl rfl ?_
  unfold b_Keeper_back
  fail "s"
  refine wc_noX (back_s hgr hs hb h1 h5 hB ?_)
  fail "s"
  refine wm_keeper hgr ht hu hk h1 (by omega) ku ?_
  fail "s"
  exact q
theorem look_four_s (hgr : Gr g) (hx : Z4 N L n x) (h0 : x.norm ≠ 0) (hk : n + n + 10 ≤ 4300) (q : Q (.v .non) [.v (.int g), .v (rwD N.toNumX (fl x))]) : Wc (n_look_four [.v (.int g), .v (rwD N.toNumX (fl x))]) Q E := by
  obtain ⟨hg, hg2⟩ := hgr.le
  refine wc_fn rfl rfl ?_
  unfold b_look_four c_PARTS c_NOUGHT
  fail "s"
  refine is_row_s (n := 4300) (m := 4) (pl_rw fun r hr => hx.rw.ok (by omega) r hr) (by decide) ?_
  rw [show rowB g 4 (rwD N.toNumX (fl x)) = true from row_tt (m := 4) hx.rw]
  fail "s"
  refine norm_of_s hg hg2 hx (by omega) ?_
  fail "s"
  refine wo_eqZ fun b h1 h2 => ?_
  cases b with
  | true => exact absurd (h1 rfl) h0
  | false =>
    fail "s"
    exact q
end

section
variable {g : Int} {R : Type} [Lean.Grind.CommRing R] {N : NumF g R} {L K L2 M k j k2 m n h : Nat} {w x y z : Q4 R} {t s u v : List (List R)} {r c : R} {l : List R} {Q : A → List A → Prop} {E : Ex → List A → Prop}
theorem one4_norm {i : Nat} (hi : i < 4) : (one4 R i).norm = 1 := by
  match i, hi with
  | 0, _ => show (1 : R) * 1 + 0 * 0 + 0 * 0 + 0 * 0 = 1; grind
  | 1, _ => show (0 : R) * 0 + 1 * 1 + 0 * 0 + 0 * 0 = 1; grind
  | 2, _ => show (0 : R) * 0 + 0 * 0 + 1 * 1 + 0 * 0 = 1; grind
  | 3, _ => show (0 : R) * 0 + 0 * 0 + 0 * 0 + 1 * 1 = 1; grind
theorem eL_one4 {i : Nat} (hi : i < 4) : (eL 4 i : List R) = fl (one4 R i) := by
  match i, hi with
  | 0, _ => rfl
  | 1, _ => rfl
  | 2, _ => rfl
  | 3, _ => rfl
theorem four_of (hl : Rw N 4 L k l) : ∃ x : Q4 R, l = fl x ∧ Z4 N L k x := by
  match l, hl.len with
  | [a, b, c, d], _ => exact ⟨⟨a, b, c, d⟩, rfl, Z4.of (x := ⟨a, b, c, d⟩) hl⟩
theorem l_four_s {a b : Int} (hgr : Gr g) (ha : 0 ≤ a) (hb : 0 ≤ b) (hb2 : b < 2147483647)
    (q : ∀ x a' b', 0 ≤ a' → 0 ≤ b' → b' < 2147483647 → Z4 N 2520 20 x → x.norm ≠ 0 → Q (.v (rwD N.toNumX (fl x))) [.m [.v (.int a'), .v (.int b')], .v (.int g)]) : Wc (n_l_four [.m [.v (.int a), .v (.int b)], .v (.int g)]) Q E := by
  obtain ⟨hg, hg2⟩ := hgr.le
  refine wc_fn rfl rfl ?_
  unfold b_l_four
  fail "s"
  refine row_s (N := N) (m := 4) hg hg2 ha hb hb2 (by decide) fun l a b ha hb hb2 hl => ?_
  obtain ⟨x, rfl, hx⟩ := four_of hl
  fail "s"
  refine l_norm_s hg hg2 hx (by decide) ?_
  fail "s"
  refine wo_eqZ fun bb h1 h2 => ?_
  cases bb with
  | true =>
    fail "s"
    refine l_ones_s (N := N) (m := 4) (by decide) ?_
    fail "s"
    fail "t"
    intro d a b ha hb hb2 hd0 hd1
    fail "s"
    obtain ⟨i, rfl⟩ : ∃ i : Nat, d = (i : Int) := ⟨d.toNat, by omega⟩
    have hi : i < 4 := by omega
    refine ix_at rfl (rw_at (t := onesL 4) (by rw [ones_len]; exact hi)) ?_
    rw [getD_at (by rw [ones_len]; exact hi), ones_get hi]
    have e := eL_Z (N := N) (m := 4) (i := i)
    rw [eL_one4 hi] at e ⊢
    fail "s"
    exact q _ _ _ ha hb hb2 (Z4.of e) (by rw [one4_norm hi]; exact N.one0)
  | false =>
    fail "s"
    exact q _ _ _ ha hb hb2 hx (h2 rfl)
end
section
variable {g : Int} {R : Type} [Lean.Grind.CommRing R] {N : NumF g R} {L K L2 M k j k2 m n h : Nat} {w x y z v : Q4 R} {t s u : List (List R)} {r c : R} {l : List R} {Q : A → List A → Prop} {E : Ex → List A → Prop}
def ac2 (N : NumF g R) (x y v : Q4 R) : Q4 R := ((x.mul v).mul y).sc (1 * N.inv x.norm)
theorem btw_ac2 {i : Nat} : btw N x y i = ac2 N x y (one4 R i) := rfl
def dT (N : NumF g R) (x y : Q4 R) : List (List R) := [fl (btw N x y 0), fl (btw N x y 1), fl (btw N x y 2), fl (btw N x y 3)]
theorem thr_dT : thr 4 (fl v) (dT N x y) = fl (ac2 N x y v) := by
  have e : thr 4 (fl v) (dT N x y) = [0 + (btw N x y 0).a * v.a + (btw N x y 1).a * v.b + (btw N x y 2).a * v.c + (btw N x y 3).a * v.d, 0 + (btw N x y 0).b * v.a + (btw N x y 1).b * v.b + (btw N x y 2).b * v.c + (btw N x y 3).b * v.d, 0 + (btw N x y 0).c * v.a + (btw N x y 1).c * v.b + (btw N x y 2).c * v.c + (btw N x y 3).c * v.d, 0 + (btw N x y 0).d * v.a + (btw N x y 1).d * v.b + (btw N x y 2).d * v.c + (btw N x y 3).d * v.d] := rfl
  rw [e]
  have p0 : one4 R 0 = ⟨1, 0, 0, 0⟩ := rfl
  have p1 : one4 R 1 = ⟨0, 1, 0, 0⟩ := rfl
  have p2 : one4 R 2 = ⟨0, 0, 1, 0⟩ := rfl
  have p3 : one4 R 3 = ⟨0, 0, 0, 1⟩ := rfl
  unfold fl
  rw [btw_ac2, btw_ac2, btw_ac2, btw_ac2, p0, p1, p2, p3]
  unfold ac2 Q4.sc Q4.mul
  dsimp only
  congr 1
  · grind
  · congr 1
    · grind
    · congr 1
      · grind
      · congr 1
        grind
theorem ac2_ac2 (hx : x.norm ≠ 0) (hz : z.norm ≠ 0) : ac2 N z w (ac2 N x y v) = ac2 N (z.mul x) (y.mul w) v := by
  unfold ac2
  rw [norm_mul, inv_mul N hz hx, mul_sc, sc_mul, sc_sc, mul_assoc4, mul_assoc4, mul_assoc4, mul_assoc4, mul_assoc4]
  congr 1
  grind
theorem ac2_back (hx : x.norm ≠ 0) (e : x.norm = y.norm) : ac2 N x.turn y.turn (ac2 N x y v) = v := by
  have hn := N.mi _ hx
  rw [ac2_ac2 hx (by rw [norm_turn]; exact hx)]
  unfold ac2
  rw [norm_mul, norm_turn, inv_mul N hx hx, turn_mul_self, mul_turn, real_mul, mul_real, sc_sc, sc_sc, ← e]
  have : x.norm * (x.norm * (1 * (N.inv x.norm * N.inv x.norm))) = 1 := by
    have e2 : x.norm * (x.norm * (1 * (N.inv x.norm * N.inv x.norm))) = (x.norm * N.inv x.norm) * (x.norm * N.inv x.norm) := by grind
    rw [e2, hn]; grind
  rw [this]
  unfold Q4.sc
  exact Q4.ext (by dsimp only; grind) (by dsimp only; grind) (by dsimp only; grind) (by dsimp only; grind)
theorem ac2_neg : ac2 N (x.sc (-1)) (y.sc (-1)) v = ac2 N x y v := by
  unfold ac2
  have e : (x.sc (-1)).norm = x.norm := by unfold Q4.norm Q4.sc; dsimp only; grind
  rw [e, sc_mul, sc_mul, mul_sc, sc_sc, sc_sc]
  congr 1
  grind
theorem dT_sq : SqT_ 4 (dT N x y) := ⟨rfl, fun l hl => by
  simp only [dT, List.mem_cons, List.not_mem_nil, or_false] at hl
  rcases hl with rfl | rfl | rfl | rfl <;> rfl⟩
theorem bl4 {a b : List R} (ha : a.length = 4) (hb : b.length = 4) : bl 4 (onesL 4) a b = vc a 0 * vc b 0 + vc a 1 * vc b 1 + vc a 2 * vc b 2 + vc a 3 * vc b 3 := by
  rw [bl_bil onesT ha hb]
  have o : ∀ i j, i < 4 → j < 4 → tb (onesL 4 : List (List R)) i j = if i = j then 1 else 0 := fun i j hi hj => by
    unfold onesL
    rw [tb_map hi, eL_vc hj]
  have e : ∀ i, i < 4 → (sm 4 fun k => vc a k * tb (onesL 4 : List (List R)) k i) = vc a i := fun i hi => by
    rw [sm_congr (f' := fun k => if k = i then vc a k else 0) fun k hk => by rw [o k i hk hi]; split <;> grind]
    rw [sm_one (k := i) hi fun k _ ne => if_neg ne, if_pos rfl]
  unfold bil
  rw [sm_congr (f' := fun i => vc a i * vc b i) fun i hi => by rw [e i hi]]
  simp only [sm]
  grind
theorem ac2_dot (hx : x.norm ≠ 0) (e : x.norm = y.norm) : (ac2 N x y v).a * (ac2 N x y z).a + (ac2 N x y v).b * (ac2 N x y z).b + (ac2 N x y v).c * (ac2 N x y z).c + (ac2 N x y v).d * (ac2 N x y z).d = v.a * z.a + v.b * z.b + v.c * z.c + v.d * z.d := by
  have hn := N.mi _ hx
  have h1 : (ac2 N x y v).a * (ac2 N x y z).a + (ac2 N x y v).b * (ac2 N x y z).b + (ac2 N x y v).c * (ac2 N x y z).c + (ac2 N x y v).d * (ac2 N x y z).d = (v.a * z.a + v.b * z.b + v.c * z.c + v.d * z.d) * ((x.norm * N.inv x.norm) * (y.norm * N.inv x.norm)) := by
    generalize hi : N.inv x.norm = q
    unfold ac2
    rw [hi]
    unfold Q4.sc Q4.mul Q4.norm
    dsimp only
    grind (ringSteps := 1000000)
  rw [h1, ← e, hn]
  grind
theorem dT_kept (hx : x.norm ≠ 0) (e : x.norm = y.norm) : Kept 4 (onesL 4) (dT N x y) := ⟨dT_sq, fun i j hi hj => by
  have o : tb (onesL 4 : List (List R)) i j = if i = j then 1 else 0 := by
    unfold onesL
    rw [tb_map hi, eL_vc hj]
  have row : ∀ i, i < 4 → (dT N x y).getD i [] = fl (ac2 N x y (one4 R i)) := fun i hi => by
    match i, hi with
    | 0, _ => rfl
    | 1, _ => rfl
    | 2, _ => rfl
    | 3, _ => rfl
  rw [row i hi, row j hj, bl4 rfl rfl, o]
  refine Eq.trans (ac2_dot (N := N) (x := x) (y := y) (v := one4 R i) (z := one4 R j) hx e) ?_
  match i, hi, j, hj with
  | 0, _, 0, _ => show (1 : R) * 1 + (0 : R) * 0 + (0 : R) * 0 + (0 : R) * 0 = 1; grind
  | 0, _, 1, _ => show (1 : R) * 0 + (0 : R) * 1 + (0 : R) * 0 + (0 : R) * 0 = 0; grind
  | 0, _, 2, _ => show (1 : R) * 0 + (0 : R) * 0 + (0 : R) * 1 + (0 : R) * 0 = 0; grind
  | 0, _, 3, _ => show (1 : R) * 0 + (0 : R) * 0 + (0 : R) * 0 + (0 : R) * 1 = 0; grind
  | 1, _, 0, _ => show (0 : R) * 1 + (1 : R) * 0 + (0 : R) * 0 + (0 : R) * 0 = 0; grind
  | 1, _, 1, _ => show (0 : R) * 0 + (1 : R) * 1 + (0 : R) * 0 + (0 : R) * 0 = 1; grind
  | 1, _, 2, _ => show (0 : R) * 0 + (1 : R) * 0 + (0 : R) * 1 + (0 : R) * 0 = 0; grind
  | 1, _, 3, _ => show (0 : R) * 0 + (1 : R) * 0 + (0 : R) * 0 + (0 : R) * 1 = 0; grind
  | 2, _, 0, _ => show (0 : R) * 1 + (0 : R) * 0 + (1 : R) * 0 + (0 : R) * 0 = 0; grind
  | 2, _, 1, _ => show (0 : R) * 0 + (0 : R) * 1 + (1 : R) * 0 + (0 : R) * 0 = 0; grind
  | 2, _, 2, _ => show (0 : R) * 0 + (0 : R) * 0 + (1 : R) * 1 + (0 : R) * 0 = 1; grind
  | 2, _, 3, _ => show (0 : R) * 0 + (0 : R) * 0 + (1 : R) * 0 + (0 : R) * 1 = 0; grind
  | 3, _, 0, _ => show (0 : R) * 1 + (0 : R) * 0 + (0 : R) * 0 + (1 : R) * 0 = 0; grind
  | 3, _, 1, _ => show (0 : R) * 0 + (0 : R) * 1 + (0 : R) * 0 + (1 : R) * 0 = 0; grind
  | 3, _, 2, _ => show (0 : R) * 0 + (0 : R) * 0 + (0 : R) * 1 + (1 : R) * 0 = 0; grind
  | 3, _, 3, _ => show (0 : R) * 0 + (0 : R) * 0 + (0 : R) * 0 + (1 : R) * 1 = 1; grind⟩
theorem dT_det0 : det 4 (tb (dT N x y)) = (btw N x y 0).a * ((btw N x y 1).b * ((btw N x y 2).c * (btw N x y 3).d - (btw N x y 3).c * (btw N x y 2).d) - (btw N x y 2).b * ((btw N x y 1).c * (btw N x y 3).d - (btw N x y 3).c * (btw N x y 1).d) + (btw N x y 3).b * ((btw N x y 1).c * (btw N x y 2).d - (btw N x y 2).c * (btw N x y 1).d)) - (btw N x y 1).a * ((btw N x y 0).b * ((btw N x y 2).c * (btw N x y 3).d - (btw N x y 3).c * (btw N x y 2).d) - (btw N x y 2).b * ((btw N x y 0).c * (btw N x y 3).d - (btw N x y 3).c * (btw N x y 0).d) + (btw N x y 3).b * ((btw N x y 0).c * (btw N x y 2).d - (btw N x y 2).c * (btw N x y 0).d)) + (btw N x y 2).a * ((btw N x y 0).b * ((btw N x y 1).c * (btw N x y 3).d - (btw N x y 3).c * (btw N x y 1).d) - (btw N x y 1).b * ((btw N x y 0).c * (btw N x y 3).d - (btw N x y 3).c * (btw N x y 0).d) + (btw N x y 3).b * ((btw N x y 0).c * (btw N x y 1).d - (btw N x y 1).c * (btw N x y 0).d)) - (btw N x y 3).a * ((btw N x y 0).b * ((btw N x y 1).c * (btw N x y 2).d - (btw N x y 2).c * (btw N x y 1).d) - (btw N x y 1).b * ((btw N x y 0).c * (btw N x y 2).d - (btw N x y 2).c * (btw N x y 0).d) + (btw N x y 2).b * ((btw N x y 0).c * (btw N x y 1).d - (btw N x y 1).c * (btw N x y 0).d)) := by
  simp [det, sm, DD.sg, skp, tb, dT, fl]
  grind
theorem dT_det (hx : x.norm ≠ 0) (e : x.norm = y.norm) : det 4 (tb (dT N x y)) = 1 := by
  have hn := N.mi _ hx
  have e0 : det 4 (tb (dT N x y)) = (x.norm * N.inv x.norm) * (x.norm * N.inv x.norm) * ((y.norm * N.inv x.norm) * (y.norm * N.inv x.norm)) := by
    have p0 : one4 R 0 = ⟨1, 0, 0, 0⟩ := rfl
    have p1 : one4 R 1 = ⟨0, 1, 0, 0⟩ := rfl
    have p2 : one4 R 2 = ⟨0, 0, 1, 0⟩ := rfl
    have p3 : one4 R 3 = ⟨0, 0, 0, 1⟩ := rfl
    rw [dT_det0, btw_ac2, btw_ac2, btw_ac2, btw_ac2, p0, p1, p2, p3]
    generalize hi : N.inv x.norm = q
    unfold ac2
    rw [hi]
    unfold Q4.sc Q4.mul Q4.norm
    dsimp only
    grind (ringSteps := 10000000)
  rw [e0, ← e, hn]
  grind
theorem dT_prod (hx : x.norm ≠ 0) (hz : z.norm ≠ 0) : (dT N x y).map (fun r => thr 4 r (dT N z w)) = dT N (z.mul x) (y.mul w) := by
  show [thr 4 (fl (ac2 N x y (one4 R 0))) (dT N z w), thr 4 (fl (ac2 N x y (one4 R 1))) (dT N z w), thr 4 (fl (ac2 N x y (one4 R 2))) (dT N z w), thr 4 (fl (ac2 N x y (one4 R 3))) (dT N z w)] = [fl (ac2 N (z.mul x) (y.mul w) (one4 R 0)), fl (ac2 N (z.mul x) (y.mul w) (one4 R 1)), fl (ac2 N (z.mul x) (y.mul w) (one4 R 2)), fl (ac2 N (z.mul x) (y.mul w) (one4 R 3))]
  rw [thr_dT, thr_dT, thr_dT, thr_dT, ac2_ac2 hx hz, ac2_ac2 hx hz, ac2_ac2 hx hz, ac2_ac2 hx hz]
theorem dT_neg : dT N (x.sc (-1)) (y.sc (-1)) = dT N x y := by
  show [fl (ac2 N (x.sc (-1)) (y.sc (-1)) (one4 R 0)), fl (ac2 N (x.sc (-1)) (y.sc (-1)) (one4 R 1)), fl (ac2 N (x.sc (-1)) (y.sc (-1)) (one4 R 2)), fl (ac2 N (x.sc (-1)) (y.sc (-1)) (one4 R 3))] = [fl (ac2 N x y (one4 R 0)), fl (ac2 N x y (one4 R 1)), fl (ac2 N x y (one4 R 2)), fl (ac2 N x y (one4 R 3))]
  rw [ac2_neg, ac2_neg, ac2_neg, ac2_neg]
theorem dT_half (hx : x.norm ≠ 0) (e : x.norm = y.norm) : (dT N x y).map (fun r => thr 4 r (dT N x.turn y.turn)) = onesL 4 := by
  rw [onesL4]
  show [thr 4 (fl (ac2 N x y (one4 R 0))) (dT N x.turn y.turn), thr 4 (fl (ac2 N x y (one4 R 1))) (dT N x.turn y.turn), thr 4 (fl (ac2 N x y (one4 R 2))) (dT N x.turn y.turn), thr 4 (fl (ac2 N x y (one4 R 3))) (dT N x.turn y.turn)] = _
  rw [thr_dT, thr_dT, thr_dT, thr_dT, ac2_back hx e, ac2_back hx e, ac2_back hx e, ac2_back hx e]
theorem dT_bk (hx : x.norm ≠ 0) (e : x.norm = y.norm) : Bk 4 (dT N x y) (dT N x.turn y.turn) := ⟨dT_sq, dT_sq, dT_half hx e, by
  have := dT_half (N := N) (x := x.turn) (y := y.turn) (by rw [norm_turn]; exact hx) (by rw [norm_turn, norm_turn]; exact e)
  rwa [turn_turn, turn_turn] at this⟩
theorem dT_Z (hx : Z4 N L n x) (hy : Z4 N M m y) (h0 : x.norm ≠ 0) : ∃ M0, Tw N 4 4 M0 (3 * n + m + 17) (dT N x y) := by
  obtain ⟨M0, hb⟩ := btw_Z hx hy h0
  refine ⟨M0, rfl, fun l hl => ?_, (hb 0).a.pos, (hb 0).a.bd⟩
  simp only [dT, List.mem_cons, List.not_mem_nil, or_false] at hl
  rcases hl with rfl | rfl | rfl | rfl
  · exact (hb 0).rw
  · exact (hb 1).rw
  · exact (hb 2).rw
  · exact (hb 3).rw
end

section
variable {g : Int} {R : Type} [Lean.Grind.CommRing R] {N : NumF g R} {L K L2 M k j k2 m n h : Nat} {w x y z v : Q4 R} {t s u : List (List R)} {r c : R} {Q : A → List A → Prop} {E : Ex → List A → Prop}
theorem erase_perm {α : Type} : ∀ {l : List α} {i : Nat} (h : i < l.length), (l[i] :: l.eraseIdx i).Perm l
  | a :: l, 0, _ => .refl _
  | a :: l, i + 1, h => (List.Perm.swap a _ _).trans ((erase_perm (l := l) (i := i) (by simpa using h)).cons a)
theorem mixedN_s {a b : Int} {l : List R} (ha : 0 ≤ a) (hb : 0 ≤ b) (hb2 : b < 2147483647) (hlen : l.length ≤ 1000)
    (q : ∀ (l' : List R) a' b', 0 ≤ a' → 0 ≤ b' → b' < 2147483647 → l'.Perm l → Q (.m (l'.map fun r => A.v (N.nm r))) [.m [.v (.int a'), .v (.int b')], .v (.lst (l.map N.nm))]) : Wc (n_l_mixed [.m [.v (.int a), .v (.int b)], .v (.lst (l.map N.nm))]) Q E := by
  refine wc_fn rfl rfl ?_
  unfold b_l_mixed
  fail "s"
  refine wo_eq (a := .m ((l.map N.nm).map A.v)) rfl ?_
  fail "s"
  refine wo_eq (a := l.map N.nm) rfl ?_
  refine ⟨sz_of (by simp; omega), ?_⟩
  rw [List.map_map]
  fail "s"
  refine w_compL (fun k ds ρ => ∃ a b, ∃ rest done : List R, ρ = [some (.m [.v (.int a), .v (.int b)]), some (.v (.lst (l.map N.nm))), some (.m (rest.map fun r => A.v (N.nm r))), none] ∧ 0 ≤ a ∧ 0 ≤ b ∧ b < 2147483647 ∧ k = done.map (fun r => A.v (N.nm r)) ∧ rest.length = ds.length ∧ done.length + ds.length = l.length ∧ (rest ++ done).Perm l)
    ⟨a, b, l, [], rfl, ha, hb, hb2, rfl, by simp, by simp, by simp⟩ ?_ ?_
  · rintro k d ds _ ⟨a1, b1, rest, done, rfl, ha1, hb1, hb11, rfl, hl1, hl2, hP⟩
    have hr0 : 0 < rest.length := by rw [hl1]; simp
    have hr1 : rest.length ≤ 1000 := by simp at hl1 hl2; omega
    fail "s"
    refine w_popAt (by with_unfolding_all rfl) ?_
    fail "s"
    rw [List.length_map]
    fail "t"
    intro d1 a2 b2 ha2 hb2 hb21 h0 h1
    fail "s"
    have hd : d1.toNat < rest.length := by omega
    refine ⟨_, d1.toNat, N.nm rest[d1.toNat], rfl, by rw [Int.toNat_of_nonneg h0], by omega, by rw [List.length_map]; exact hd, by rw [List.getElem?_map, List.getElem?_eq_getElem hd]; rfl, ?_⟩
    rw [erase_map]
    fail "s"
    refine ⟨a2, b2, rest.eraseIdx d1.toNat, done ++ [rest[d1.toNat]], rfl, ha2, hb2, hb21, by simp, by rw [List.length_eraseIdx_of_lt hd]; simp at hl1; omega, by simp at hl2 ⊢; omega, ?_⟩
    refine List.Perm.trans ?_ hP
    have p1 : (rest.eraseIdx d1.toNat ++ (done ++ [rest[d1.toNat]])).Perm (rest[d1.toNat] :: (rest.eraseIdx d1.toNat ++ done)) := by
      rw [← List.append_assoc]
      exact List.perm_append_singleton _ _
    exact p1.trans ((erase_perm hd).append_right done)
  · rintro k _ ⟨a1, b1, rest, done, rfl, ha1, hb1, hb11, e, hl1, hl2, hP⟩
    have hr : rest = [] := by simpa using hl1
    subst hr
    have e : k = done.map fun r => A.v (N.nm r) := by simpa using e
    fail "s"
    rw [e]
    exact q done _ _ ha1 hb1 hb11 (by simpa using hP)
/-- the sum of the squares -/
def sqs (l : List R) : R := (l.map fun r => r * r).foldr (· + ·) 0
theorem sqs_perm {l l' : List R} (h : l.Perm l') : sqs l = sqs l' := by
  induction h with
  | nil => rfl
  | cons a _ ih =>
    unfold sqs at ih ⊢
    simp only [List.map_cons, List.foldr_cons]
    rw [ih]
  | swap a b l =>
    unfold sqs
    simp only [List.map_cons, List.foldr_cons]
    grind
  | trans _ _ i1 i2 => exact i1.trans i2
theorem sqs_app {l : List R} {w : R} : sqs (l ++ [w]) = sqs l + w * w := by
  induction l with
  | nil => unfold sqs; simp only [List.nil_append, List.map_cons, List.map_nil, List.foldr_cons, List.foldr_nil]; grind
  | cons a l ih =>
    unfold sqs at ih ⊢
    simp only [List.cons_append, List.map_cons, List.foldr_cons]
    rw [ih]; grind
theorem sqs_cons {l : List R} {w : R} : sqs (w :: l) = w * w + sqs l := rfl
theorem sqs_fl : sqs (fl x) = x.norm := by unfold sqs fl Q4.norm; simp only [List.map_cons, List.map_nil, List.foldr_cons, List.foldr_nil]; grind
theorem like_s {a b : Int} (hgr : Gr g) (ha : 0 ≤ a) (hb : 0 ≤ b) (hb2 : b < 2147483647) (hx : Z4 N 2520 20 x)
    (q : ∀ (y : Q4 R) L' a' b', 0 ≤ a' → 0 ≤ b' → b' < 2147483647 → Z4 N L' 72 y → x.norm = y.norm → Q (.v (rwD N.toNumX (fl y))) [.m [.v (.int a'), .v (.int b')], .v (.int g), .v (rwD N.toNumX (fl x))]) :
    Wc (n_l_like [.m [.v (.int a), .v (.int b)], .v (.int g), .v (rwD N.toNumX (fl x))]) Q E := by
  obtain ⟨hg, hg2⟩ := hgr.le
  refine wc_fn rfl rfl ?_
  unfold b_l_like
  fail "s"
  fail "t"
  intro d a b ha hb hb2 hd0 hd1
  fail "s"
  refine wk_d (fun hd => ?_) (fun hd => ?_)
  · fail "s"
    refine wo_eq (a := .m (((fl x).map N.nm).map A.v)) rfl ?_
    fail "s"
    refine mixedN_s (N := N) (l := fl x) ha hb hb2 (by simp [fl]) fun l' a b ha hb hb2 hP => ?_
    have hl : l'.length = 4 := by rw [hP.length_eq]; rfl
    have hz : ∀ r ∈ l', Zn N 2520 20 r := fun r hr => hx.rw.z (hP.mem_iff.mp hr)
    fail "s"
    rw [nums_frz (N := N) (f := fun r : R => r), List.map_id']
    refine wo_eq (a := l'.map N.nm) rfl ?_
    refine ⟨sz_of (by rw [List.length_map, hl]; decide), ?_⟩
    refine w_compL (fun l0 ds ρ => ∃ (a b : Int) (done rest : List R), ρ = [some (.m [.v (.int a), .v (.int b)]), some (.v (.int g)), some (.v (rwD N.toNumX (fl x))), some (.v (.lst (l'.map N.nm))), none, none, none] ∧ 0 ≤ a ∧ 0 ≤ b ∧ b < 2147483647 ∧ l0 = done.map (fun r => A.v (N.nm r)) ∧ ds = rest.map N.nm ∧ done.length + rest.length = 4 ∧ (∀ r ∈ done, Zn N 2520 21 r) ∧ (∀ r ∈ rest, Zn N 2520 20 r) ∧ sqs done + sqs rest = x.norm) (l := [])
      ⟨a, b, [], l', rfl, ha, hb, hb2, rfl, rfl, by simp [hl], by simp, hz, by rw [sqs_perm hP, sqs_fl]; show (0 : R) + _ = _; grind⟩ ?_ ?_
    · rintro l0 d ds _ ⟨a, b, done, rest, rfl, ha, hb, hb2, rfl, e, hlen, hd1, hr1, hsq⟩
      cases rest with
      | nil => cases e
      | cons p rest =>
        rw [List.map_cons] at e
        injection e with e1 e2
        subst e1 e2
        have hp := hr1 p (by simp)
        fail "s"
        refine l_minus_s hg hg2 (hp.ok (by decide)) ?_
        fail "s"
        fail "t"
        intro d a b ha hb hb2 hd0 hd1'
        fail "s"
        refine wo_ixA (fun d => ∃ w : R, d = N.nm w ∧ Zn N 2520 21 w ∧ w * w = p * p) hd0 (by simp; omega) (fun e he => ?_) fun d hd => ?_
        · simp at he
          rcases he with rfl | rfl
          · exact ⟨p, rfl, hp.up (by decide), rfl⟩
          · exact ⟨-p, rfl, hp.neg, by grind⟩
        obtain ⟨w, rfl, hw, hww⟩ := hd
        fail "s"
        refine ⟨a, b, done ++ [w], rest, rfl, ha, hb, hb2, by simp, rfl, by simp at hlen ⊢; omega, fun r hr => ?_, fun r hr => hr1 r (List.mem_cons_of_mem _ hr), ?_⟩
        · rcases List.mem_append.mp hr with hr | hr
          · exact hd1 r hr
          · rw [List.mem_singleton] at hr; subst hr; exact hw
        · rw [sqs_app, hww, ← hsq, sqs_cons]; grind
    · rintro l0 _ ⟨a, b, done, rest, rfl, ha, hb, hb2, rfl, e, hlen, hd1, _, hsq⟩
      have hr : rest = [] := by
        cases rest with
        | nil => rfl
        | cons p r => cases e
      subst hr
      obtain ⟨p0, p1, p2, p3, rfl⟩ : ∃ p0 p1 p2 p3, done = [p0, p1, p2, p3] := by
        match done, hlen with
        | [a, b, c, d], _ => exact ⟨a, b, c, d, rfl⟩
      fail "s"
      refine wo_eq rfl ?_
      fail "s"
      refine q ⟨p0, p1, p2, p3⟩ 2520 _ _ ha hb hb2 (Z4.up (n := 72) ⟨hd1 p0 (by simp), hd1 p1 (by simp), hd1 p2 (by simp), hd1 p3 (by simp)⟩ (by decide)) ?_
      rw [← hsq, ← sqs_fl]
      show sqs [p0, p1, p2, p3] + 0 = sqs [p0, p1, p2, p3]
      grind
  · fail "s"
    refine l_four_s (N := N) hgr ha hb hb2 fun z a b ha hb hb2 hz hz0 => ?_
    obtain ⟨M0, hc⟩ := part_Z hz hz0
    obtain ⟨M1, _, _, hi⟩ := hz.norm.inv hz0
    have zz := hz.mul hz
    have er : ∀ r : R, r * (1 * N.inv z.norm) = r * N.inv z.norm := fun r => by grind
    have zs : Z4 N M1 46 ((z.mul z).sc (1 * N.inv z.norm)) := by
      refine ⟨?_, ?_, ?_, ?_⟩
      · show Zn N M1 46 ((z.mul z).a * (1 * N.inv z.norm)); rw [er]; exact hi _ zz.a (by decide)
      · show Zn N M1 46 ((z.mul z).b * (1 * N.inv z.norm)); rw [er]; exact hi _ zz.b (by decide)
      · show Zn N M1 46 ((z.mul z).c * (1 * N.inv z.norm)); rw [er]; exact hi _ zz.c (by decide)
      · show Zn N M1 46 ((z.mul z).d * (1 * N.inv z.norm)); rw [er]; exact hi _ zz.d (by decide)
    fail "s"
    refine l_norm_s hg hg2 hz (by decide) ?_
    rw [one_nm (N := N)]
    fail "s"
    refine l_over_s hg hg2 ((Zn.one (N := N)).ok (by decide)) (hz.norm.ok (by decide)) hz0 (hc.ok (by decide)) ?_
    fail "s"
    refine l_four_times_s hg hg2 hz hz (by decide) ?_
    fail "s"
    refine l_scaled_s hg hg2 (by simp [fl]) (zz.rw.ok (by decide)) (hc.ok (by decide)) (fun r hr => zs.rw.ok (by decide) _ (by rw [fl_sc]; exact List.mem_map.mpr ⟨r, hr, rfl⟩)) ?_
    rw [← fl_sc]
    fail "s"
    refine l_four_times_s hg hg2 hx zs (by decide) ?_
    fail "s"
    refine q _ _ _ _ ha hb hb2 (hx.mul zs) ?_
    rw [norm_mul, norm_sc, norm_mul]
    have hn := N.mi _ hz0
    have e : x.norm * (z.norm * z.norm * (1 * N.inv z.norm * (1 * N.inv z.norm))) = x.norm * ((z.norm * N.inv z.norm) * (z.norm * N.inv z.norm)) := by grind
    rw [e, hn]
    grind
theorem double_turn_s (hgr : Gr g) (hx : Z4 N L n x) (hy : Z4 N M m y) (h0 : x.norm ≠ 0) (e : x.norm = y.norm) (hk : 3 * n + m + 17 ≤ 2000) (hk2 : m ≤ 1000) (q : Q (kA N (onesL 4) (dT N x y)) [.v (.int g), .v (rwD N.toNumX (fl x)), .v (rwD N.toNumX (fl y))]) : Wc (n_double_turn [.v (.int g), .v (rwD N.toNumX (fl x)), .v (rwD N.toNumX (fl y))]) Q E := by
  obtain ⟨hg, hg2⟩ := hgr.le
  obtain ⟨M0, hT⟩ := dT_Z hx hy h0
  refine wc_fn rfl rfl ?_
  unfold b_double_turn
  fail "s"
  refine look_four_s hgr hx h0 (by omega) ?_
  fail "s"
  refine look_four_s hgr hy (by rw [← e]; exact h0) (by omega) ?_
  fail "s"
  refine norm_of_s hg hg2 hx (by omega) ?_
  fail "s"
  refine norm_of_s hg hg2 hy (by omega) ?_
  rw [← e]
  fail "s"
  refine wo_neS (k := 1) rfl okc_nmX (by decide) ?_
  unfold c_PARTS
  fail "s"
  refine squares_s (N := N) (m := 4) hgr (by decide) (by decide) (fun _ => by decide) (ones_form N) ?_
  fail "s"
  refine between_s hgr hx hy h0 (by omega) ?_
  fail "s"
  refine wo_eq rfl ?_
  fail "s"
  refine wm_keeper (N := N) (t := onesL 4) (s := dT N x y) hgr onesL_Z hT (by omega) (by decide) (by decide) (dT_kept h0 e) ?_
  fail "s"
  exact q
theorem l_is_double_s (hgr : Gr g) (hx : Z4 N L 20 x) (hy : Z4 N M 72 y) (h0 : x.norm ≠ 0) (e : x.norm = y.norm) (hv : Z4 N K 20 v) (q : Q (.v (.bl true)) [.v (.int g), .v (rwD N.toNumX (fl x)), .v (rwD N.toNumX (fl y)), .v (kD N (onesL 4) (dT N x y)), .v (rwD N.toNumX (fl v))]) :
    Wc (n_l_is_double [.v (.int g), .v (rwD N.toNumX (fl x)), .v (rwD N.toNumX (fl y)), .v (kD N (onesL 4) (dT N x y)), .v (rwD N.toNumX (fl v))]) Q E := by
  obtain ⟨hg, hg2⟩ := hgr.le
  obtain ⟨M0, hT⟩ := dT_Z hx hy h0
  obtain ⟨M1, hc⟩ := part_Z hx h0
  have z1 := hx.mul hv
  have z2 := z1.mul hy
  have z3 := z2.sc hc
  refine wc_fn rfl rfl ?_
  unfold b_l_is_double
  fail "s"
  refine wo_eq (a := .v (.bl true)) rfl ?_
  fail "s"
  refine w_eqF (N := N) (t := onesL 4) ?_
  fail "s"
  refine l_ones_s (N := N) (m := 4) (by decide) ?_
  fail "s"
  refine ⟨⟨rfl, rfl⟩, ?_⟩
  simp only [List.drop_zero, List.take_zero, List.append_nil, List.cons_append, List.nil_append, List.map_cons, List.map_nil]
  refine form_init_s hgr onesL_Z (by decide) (by decide) (by decide) (fun _ => by decide) (ones_form N) ?_
  refine ⟨rfl, _, _, rfl, ?_⟩
  fail "s"
  refine ⟨rfl, ?_⟩
  rw [show (true != true) = false from rfl]
  fail "s"
  first | refine w_objK (N := N) (t := onesL 4) (s := dT N x y) (by decide) ?_ | refine ⟨_, _, rfl, by decide, ?_⟩
  fail "s"
  refine keeper_hand_s hgr hT (by decide) (by decide) (dT_bk h0 e).ker (dT_det h0 e) ?_
  fail "s"
  refine wk_d (fun _ => ?_) (fun z => absurd trivial z)
  fail "s"
  refine l_norm_s hg hg2 hx (by decide) ?_
  rw [one_nm (N := N)]
  fail "s"
  refine l_over_s hg hg2 ((Zn.one (N := N)).ok (by decide)) (hx.norm.ok (by decide)) h0 (hc.ok (by decide)) ?_
  fail "s"
  refine l_four_times_s hg hg2 hx hv (by decide) ?_
  fail "s"
  refine l_four_times_s hg hg2 z1 hy (by decide) ?_
  fail "s"
  refine l_scaled_s hg hg2 (by simp [fl]) (z2.rw.ok (by decide)) (hc.ok (by decide)) (fun r hr => z3.rw.ok (by decide) _ (by rw [fl_sc]; exact List.mem_map.mpr ⟨r, hr, rfl⟩)) ?_
  rw [← fl_sc]
  fail "s"
  refine l_between_s hgr hx hy h0 (by decide) ?_
  fail "s"
  refine wo_eqS (k := 3) rfl okc_tb (by decide) ?_
  fail "s"
  first | refine w_objK (N := N) (t := onesL 4) (s := dT N x y) (by decide) ?_ | refine ⟨_, _, rfl, by decide, ?_⟩
  fail "s"
  refine keeper_of_s (m := 4) hgr rfl hT hv.rw (by decide) (by decide) (by decide) ?_
  rw [thr_dT]
  fail "s"
  refine wo_eqS (k := 2) rfl okc_rw (by decide) ?_
  fail "s"
  exact q
end

theorem law_step {ns : List Int} {k : Int} {s2 s3 s4 s5 s6 s7 s8 s9 s10 s11 : Option A} {QF : Flow → DEnv → Prop} {E : Ex → DEnv → Prop} (h0 : 0 ≤ k) (h1 : k < 1000)
    (q : ∀ s2 s3 s4 s5 s6 s7 s8 s9 s10 s11, QF .nx [some (script ns), some (.v (.int k)), s2, s3, s4, s5, s6, s7, s8, s9, s10, s11]) :
    Wp (b_law_1 [some (script ns), some (.v (.int k)), s2, s3, s4, s5, s6, s7, s8, s9, s10, s11]) QF E := by
  unfold b_law_1
  fail "s"
  refine bag_s h0 h1 fun a b ha hb hb2 => ?_
  fail "s"
  refine ground_s ha hb hb2 fun g a b ha hb hb2 hgr => ?_
  obtain ⟨hg, hg2⟩ := hgr.le
  obtain ⟨R, _, ⟨N⟩⟩ := numF_of hgr
  fail "s"
  refine l_four_s (N := N) hgr ha hb hb2 fun x a b ha hb hb2 hx hx0 => ?_
  fail "s"
  refine l_four_s (N := N) hgr ha hb hb2 fun z a b ha hb hb2 hz hz0 => ?_
  fail "s"
  refine row_s (N := N) (m := 4) hg hg2 ha hb hb2 (by decide) fun rr a b ha hb hb2 hr => ?_
  obtain ⟨v, rfl, hv⟩ := four_of hr
  fail "s"
  refine like_s hgr ha hb hb2 hx fun y Ly a b ha hb hb2 hy ey => ?_
  fail "s"
  refine like_s hgr ha hb hb2 hz fun w Lw a b ha hb hb2 hw ew => ?_
  obtain ⟨Mx, hTx⟩ := dT_Z hx hy hx0
  obtain ⟨Mz, hTz⟩ := dT_Z hz hw hz0
  have htn : x.turn.norm ≠ 0 := by rw [norm_turn]; exact hx0
  have etn : x.turn.norm = y.turn.norm := by rw [norm_turn, norm_turn]; exact ey
  obtain ⟨Mt, hTt⟩ := dT_Z hx.turn hy.turn htn
  fail "s"
  refine double_turn_s hgr hx hy hx0 ey (by decide) (by decide) ?_
  fail "s"
  refine double_turn_s hgr hz hw hz0 ew (by decide) (by decide) ?_
  fail "s"
  simp only [kA_frz]
  fail "s"
  refine l_is_double_s hgr hx hy hx0 ey hv ?_
  fail "s"
  refine l_is_double_s hgr hz hw hz0 ew hv ?_
  fail "s"
  refine w_eqK (N := N) (t := onesL 4) (s := dT N (z.mul x) (y.mul w)) ?_
  fail "s"
  refine four_times_s hg hg2 hz hx (by decide) ?_
  fail "s"
  refine four_times_s hg hg2 hy hw (by decide) ?_
  fail "s"
  refine double_turn_s hgr (hz.mul hx) (hy.mul hw) (by rw [norm_mul]; exact mul_ne0 N hz0 hx0) (by rw [norm_mul, norm_mul, ey, ew]; grind) (by decide) (by decide) ?_
  fail "s"
  refine ⟨by rw [kA_frz], ?_⟩
  fail "s"
  first | refine w_objK (N := N) (t := onesL 4) (s := dT N x y) (by decide) ?_ | refine ⟨_, _, rfl, by decide, ?_⟩
  fail "s"
  refine keeper_then_s hgr onesL_Z hTx hTz (by decide) (by decide) (by decide) (dT_kept hx0 ey) (dT_kept hz0 ew) (fun qq => product_s hg hg2 hTx hTz (by decide) (by decide) (by decide) (by decide) (by decide) qq) ?_
  rw [dT_prod hx0 hz0]
  fail "s"
  refine ⟨by rw [kA_frz], ?_⟩
  rw [show (true != true) = false from rfl]
  fail "s"
  refine w_eqK (N := N) (t := onesL 4) (s := dT N x.turn y.turn) ?_
  fail "s"
  refine l_turned_four_s hg hg2 hx (by decide) ?_
  fail "s"
  refine l_turned_four_s hg hg2 hy (by decide) ?_
  fail "s"
  refine double_turn_s hgr hx.turn hy.turn htn etn (by decide) (by decide) ?_
  fail "s"
  refine ⟨by rw [kA_frz], ?_⟩
  fail "s"
  first | refine w_objK (N := N) (t := onesL 4) (s := dT N x y) (by decide) ?_ | refine ⟨_, _, rfl, by decide, ?_⟩
  fail "s"
  refine keeper_back_s hgr onesL_Z hTx hTt (dT_bk hx0 ey) (dT_kept htn etn) (by decide) (by decide) (by decide) (by decide) ?_
  fail "s"
  refine ⟨by rw [kA_frz], ?_⟩
  rw [show (true != true) = false from rfl]
  fail "s"
  rw [one_nm (N := N)]
  refine l_minus_s hg hg2 (Zn.one.ok (by decide)) ?_
  fail "s"
  have hm1 : Zn N 1 2 (-1 : R) := Zn.one.neg
  have hxs := hx.sc hm1
  have hys := hy.sc hm1
  refine w_eqK (N := N) (t := onesL 4) (s := dT N x y) ?_
  fail "s"
  refine l_scaled_s hg hg2 (by simp [fl]) (hx.rw.ok (by decide)) (hm1.ok (by decide)) (fun r hr => hxs.rw.ok (by decide) _ (by rw [fl_sc]; exact List.mem_map.mpr ⟨r, hr, rfl⟩)) ?_
  rw [← fl_sc]
  fail "s"
  refine l_scaled_s hg hg2 (by simp [fl]) (hy.rw.ok (by decide)) (hm1.ok (by decide)) (fun r hr => hys.rw.ok (by decide) _ (by rw [fl_sc]; exact List.mem_map.mpr ⟨r, hr, rfl⟩)) ?_
  rw [← fl_sc]
  have nn : ∀ u : Q4 R, (u.sc (-1)).norm = u.norm := fun u => by unfold Q4.norm Q4.sc; dsimp only; grind
  fail "s"
  refine double_turn_s hgr hxs hys (by rw [nn]; exact hx0) (by rw [nn, nn]; exact ey) (by decide) (by decide) ?_
  rw [dT_neg]
  fail "s"
  refine ⟨by rw [kA_frz], ?_⟩
  fail "s"
  try refine ⟨rfl, ?_⟩
  rw [show (true != true) = false from rfl]
  fail "s"
  refine w_eqK (N := N) (t := onesL 4) (s := dT N x y) ?_
  fail "s"
  refine double_turn_s hgr hx hy hx0 ey (by decide) (by decide) ?_
  fail "s"
  refine ⟨by rw [kA_frz], ?_⟩
  fail "s"
  try refine ⟨rfl, ?_⟩
  rw [show (true != true) = false from rfl]
  fail "s"
  refine l_is_double_s hgr hx hy hx0 ey hv ?_
  fail "s"
  exact q _ _ _ _ _ _ _ _ _ _
theorem T_law (ns : List Int) (hl : ns.length ≤ 63) (hb : ∀ z ∈ ns, Builtin.Int.intBits z ≤ 1048576) : ∃ l, n_law [script ns] = .ok (.v (.bl true)) l := by
  have key : Wc (n_law [script ns]) (fun a _ => a = .v (.bl true)) fun _ _ => False := by
    refine wc_fn rfl rfl ?_
    unfold b_law
    fail "s"
    simp only [List.length_map]
    refine wo_eq (a := .v (.int (if (ns.length : Int) < 5 then ns.length else 5))) (by unfold opMin opI2; simp) ?_
    fail "s"
    refine wo_eq (a := .v (.int (if (if (ns.length : Int) < 5 then (ns.length : Int) else 5) > 2 then (if (ns.length : Int) < 5 then (ns.length : Int) else 5) else 2))) (by unfold opMax opI2; simp) ?_
    fail "s"
    refine ⟨⟨by split <;> split <;> omega, by split <;> split <;> omega⟩, ?_⟩
    have hk6 : (if (if (ns.length : Int) < 5 then (ns.length : Int) else 5) > 2 then (if (ns.length : Int) < 5 then (ns.length : Int) else 5) else 2).toNat ≤ 5 := by split <;> split <;> omega
    generalize (if (if (ns.length : Int) < 5 then (ns.length : Int) else 5) > 2 then (if (ns.length : Int) < 5 then (ns.length : Int) else 5) else 2).toNat = kk at hk6
    refine w_forL (fun ds ρ => (∃ s1 s2 s3 s4 s5 s6 s7 s8 s9 s10 s11, ρ = [some (script ns), s1, s2, s3, s4, s5, s6, s7, s8, s9, s10, s11]) ∧ ∀ d ∈ ds, ∃ k : Int, d = .int k ∧ 0 ≤ k ∧ k < 5)
      ⟨⟨_, _, _, _, _, _, _, _, _, _, _, rfl⟩, fun d hd => ?_⟩ ?_ ?_
    · obtain ⟨i, hi, rfl⟩ := List.mem_map.mp hd
      have := List.mem_range.mp hi
      exact ⟨_, rfl, by omega, by omega⟩
    · rintro d ds _ ⟨⟨s1, s2, s3, s4, s5, s6, s7, s8, s9, s10, s11, rfl⟩, hds⟩
      obtain ⟨k, rfl, hk0, hk1⟩ := hds d (by simp)
      fail "s"
      refine law_step hk0 (by omega) fun s2 s3 s4 s5 s6 s7 s8 s9 s10 s11 => ?_
      fail "s"
      exact ⟨⟨_, _, _, _, _, _, _, _, _, _, _, rfl⟩, fun d hd => hds d (List.mem_cons_of_mem _ hd)⟩
    · rintro _ ⟨⟨s1, s2, s3, s4, s5, s6, s7, s8, s9, s10, s11, rfl⟩, _⟩
      fail "s"
  obtain ⟨a, l, e, rfl⟩ := ex_wc key
  exact ⟨l, e⟩

end DD.K41
namespace DD.K41
open PySem PySem.Spec L2
open PyProof.Rows hiding St
theorem fin (T : ∀ ns : List Int, ns.length ≤ 63 → (∀ z ∈ ns, Builtin.Int.intBits z ≤ 1048576) → ∃ l, n_law [script ns] = .ok (.v (.bl true)) l) {l : PySem.W.OpenLaw} {w : World} {K : PySem.W.Frag} {mg : Str → Option Value} {fa : Addr} (hfa : mg "law" = some (.ref fa)) (H : Facts K mg)
    (d_wall : Def0 K mg "_wall" s_wall ["k"])
    (d_is_whole : Def0 K mg "is_whole" s_is_whole ["thing"])
    (d_shared : Def0 K mg "shared" s_shared ["one", "other"])
    (d_contrary_on : Def0 K mg "contrary_on" s_contrary_on ["wheel", "rest"])
    (d_ones : Def0 K mg "ones" s_ones ["many"])
    (d_turned : Def0 K mg "turned" s_turned ["table"])
    (d_headed : Def0 K mg "headed" s_headed ["row"])
    (d_look_form : Def0 K mg "look_form" s_look_form ["thing"])
    (d_l_bag : Def0 K mg "_law_bag" s_l_bag ["_law_script", "_law_at"])
    (d_l_take : Def0 K mg "_law_take" s_l_take ["_law_bag_here", "_law_many"])
    (d_l_shared : Def0 K mg "_law_shared" s_l_shared ["_law_one", "_law_other"])
    (d_l_ones : Def0 K mg "_law_ones" s_l_ones ["_law_many"])
    (d_Form_eq : Met0 K mg "Form" "__eq__" "Form.__eq__" s_Form_eq ["self", "other"])
    (d_is_ground : Def0 K mg "is_ground" s_is_ground ["thing"])
    (d_is_number : Def0 K mg "is_number" s_is_number ["ground", "thing"])
    (d_lowest : Def0 K mg "lowest" s_lowest ["ground", "top", "bottom"])
    (d_l_mixed : Def0 K mg "_law_mixed" s_l_mixed ["_law_bag_here", "_law_row_here"])
    (d_l_low : Def0 K mg "_law_low" s_l_low ["_law_g", "_law_up", "_law_down"])
    (d_l_ground : Def0 K mg "_law_ground" s_l_ground ["_law_bag_here"])
    (d_Keeper_eq : Met0 K mg "Keeper" "__eq__" "Keeper.__eq__" s_Keeper_eq ["self", "other"])
    (d_look_ground : Def0 K mg "look_ground" s_look_ground ["thing"])
    (d_plus : Def0 K mg "plus" s_plus ["ground", "x", "y"])
    (d_minus : Def0 K mg "minus" s_minus ["ground", "x"])
    (d_times : Def0 K mg "times" s_times ["ground", "x", "y"])
    (d_over : Def0 K mg "over" s_over ["ground", "x", "y"])
    (d_is_row : Def0 K mg "is_row" s_is_row ["ground", "thing", "many"])
    (d_l_plus : Def0 K mg "_law_plus" s_l_plus ["_law_g", "_law_x", "_law_y"])
    (d_l_times : Def0 K mg "_law_times" s_l_times ["_law_g", "_law_x", "_law_y"])
    (d_l_minus : Def0 K mg "_law_minus" s_l_minus ["_law_g", "_law_x"])
    (d_l_over : Def0 K mg "_law_over" s_l_over ["_law_g", "_law_x", "_law_y"])
    (d_l_number : Def0 K mg "_law_number" s_l_number ["_law_bag_here", "_law_g"])
    (d_less : Def0 K mg "less" s_less ["ground", "x", "y"])
    (d_is_table : Def0 K mg "is_table" s_is_table ["ground", "thing", "high", "wide"])
    (d_scaled : Def0 K mg "scaled" s_scaled ["ground", "row", "x"])
    (d_added : Def0 K mg "added" s_added ["ground", "row", "other"])
    (d_look_row : Def0 K mg "look_row" s_look_row ["form", "thing"])
    (d_norm_of : Def0 K mg "norm_of" s_norm_of ["ground", "four"])
    (d_l_sum : Def0 K mg "_law_sum" s_l_sum ["_law_g", "_law_some"])
    (d_l_scaled : Def0 K mg "_law_scaled" s_l_scaled ["_law_g", "_law_row_here", "_law_x"])
    (d_l_row : Def0 K mg "_law_row" s_l_row ["_law_bag_here", "_law_g", "_law_many"])
    (d_l_turned_four : Def0 K mg "_law_turned_four" s_l_turned_four ["_law_g", "_law_four_here"])
    (d_taken_off : Def0 K mg "taken_off" s_taken_off ["ground", "row", "other", "x"])
    (d_through : Def0 K mg "through" s_through ["ground", "row", "table"])
    (d_four_times : Def0 K mg "four_times" s_four_times ["ground", "one", "other"])
    (d_look_four : Def0 K mg "look_four" s_look_four ["ground", "thing"])
    (d_l_norm : Def0 K mg "_law_norm" s_l_norm ["_law_g", "_law_four_here"])
    (d_l_four_times : Def0 K mg "_law_four_times" s_l_four_times ["_law_g", "_law_one", "_law_two"])
    (d_product : Def0 K mg "product" s_product ["ground", "one", "other"])
    (d_least_rows : Def0 K mg "least_rows" s_least_rows ["ground", "rows"])
    (d_determinant : Def0 K mg "determinant" s_determinant ["ground", "table"])
    (d_paired : Def0 K mg "paired" s_paired ["ground", "table", "row", "other"])
    (d_between : Def0 K mg "between" s_between ["ground", "one", "other"])
    (d_l_four : Def0 K mg "_law_four" s_l_four ["_law_bag_here", "_law_g"])
    (d_l_between : Def0 K mg "_law_between" s_l_between ["_law_g", "_law_one", "_law_two"])
    (d_Keeper_of : Met0 K mg "Keeper" "of" "Keeper.of" s_Keeper_of ["self", "row"])
    (d_rank_of : Def0 K mg "rank_of" s_rank_of ["ground", "rows"])
    (d_is_form_table : Def0 K mg "is_form_table" s_is_form_table ["ground", "thing"])
    (d_first_changed : Def0 K mg "first_changed" s_first_changed ["form", "table"])
    (d_l_like : Def0 K mg "_law_like" s_l_like ["_law_bag_here", "_law_g", "_law_four_here"])
    (d_Keeper_hand : Met0 K mg "Keeper" "hand" "Keeper.hand" s_Keeper_hand ["self"])
    (d_back : Def0 K mg "back" s_back ["ground", "table"])
    (d_Form_init : IniD K mg "Form" "Form.__init__" s_Form_init [.int 0])
    (d_Keeper_init : Ini0 K mg "Keeper" "Keeper.__init__" s_Keeper_init ["self", "form", "table"])
    (d_squares : Def0 K mg "squares" s_squares ["ground", "many"])
    (d_l_is_double : Def0 K mg "_law_is_double" s_l_is_double ["_law_g", "_law_one", "_law_two", "_law_keeper", "_law_row_here"])
    (d_Keeper_back : Met0 K mg "Keeper" "back" "Keeper.back" s_Keeper_back ["self"])
    (d_Keeper_then : Met0 K mg "Keeper" "then" "Keeper.then" s_Keeper_then ["self", "other"])
    (d_double_turn : Def0 K mg "double_turn" s_double_turn ["ground", "one", "other"])
    (d_law : Def0 K mg "law" s_law ["_law_script"])
    : ∃ fd : FuncData, (∀ (s : Shared) (v : Value), BindsTo s fd ⟨[v], []⟩ [("_law_script", v)]) ∧ ∀ base : Heap, K.In base → base.Ns mainGlobals mg → FnOk l.prog w K mg base CX0 12 fa fd ["_law_script"] (spScript K 63) :=
  let ⟨f, fd, d_law⟩ := d_law
  law_end hfa d_law (fun base =>
    have c_wall : CalD l.prog w K mg base 1 "_wall" n_wall [] := ok_wall H d_wall 
    have c_is_whole : CalD l.prog w K mg base 1 "is_whole" n_is_whole [] := ok_is_whole H d_is_whole 
    have c_shared : CalD l.prog w K mg base 1 "shared" n_shared [] := ok_shared H d_shared 
    have c_contrary_on : CalD l.prog w K mg base 1 "contrary_on" n_contrary_on [] := ok_contrary_on H d_contrary_on 
    have c_ones : CalD l.prog w K mg base 1 "ones" n_ones [] := ok_ones H d_ones 
    have c_turned : CalD l.prog w K mg base 1 "turned" n_turned [] := ok_turned H d_turned 
    have c_headed : CalD l.prog w K mg base 1 "headed" n_headed [] := ok_headed H d_headed 
    have c_look_form : CalD l.prog w K mg base 1 "look_form" n_look_form [] := ok_look_form H d_look_form 
    have c_l_bag : CalD l.prog w K mg base 1 "_law_bag" n_l_bag [] := ok_l_bag H d_l_bag 
    have c_l_take : CalD l.prog w K mg base 1 "_law_take" n_l_take [] := ok_l_take H d_l_take 
    have c_l_shared : CalD l.prog w K mg base 1 "_law_shared" n_l_shared [] := ok_l_shared H d_l_shared 
    have c_l_ones : CalD l.prog w K mg base 1 "_law_ones" n_l_ones [] := ok_l_ones H d_l_ones 
    have c_Form_eq : MetX l.prog w K mg base 1 "Form" "__eq__" n_Form_eq [] := ok_Form_eq H d_Form_eq 
    have c_is_ground : CalD l.prog w K mg base 2 "is_ground" n_is_ground [] := ok_is_ground H d_is_ground c_is_whole
    have c_is_number : CalD l.prog w K mg base 2 "is_number" n_is_number [] := ok_is_number H d_is_number c_is_whole c_shared
    have c_lowest : CalD l.prog w K mg base 2 "lowest" n_lowest [] := ok_lowest H d_lowest c_contrary_on c_shared
    have c_l_mixed : CalD l.prog w K mg base 2 "_law_mixed" n_l_mixed [] := ok_l_mixed H d_l_mixed c_l_take
    have c_l_low : CalD l.prog w K mg base 2 "_law_low" n_l_low [] := ok_l_low H d_l_low c_l_shared
    have c_l_ground : CalD l.prog w K mg base 2 "_law_ground" n_l_ground [] := ok_l_ground H d_l_ground c_l_take
    have c_Keeper_eq : MetX l.prog w K mg base 2 "Keeper" "__eq__" n_Keeper_eq [] := ok_Keeper_eq H d_Keeper_eq c_Form_eq
    have c_look_ground : CalD l.prog w K mg base 3 "look_ground" n_look_ground [] := ok_look_ground H d_look_ground c_is_ground
    have c_plus : CalD l.prog w K mg base 3 "plus" n_plus [] := ok_plus H d_plus c_lowest
    have c_minus : CalD l.prog w K mg base 3 "minus" n_minus [] := ok_minus H d_minus c_lowest
    have c_times : CalD l.prog w K mg base 3 "times" n_times [] := ok_times H d_times c_lowest
    have c_over : CalD l.prog w K mg base 3 "over" n_over [] := ok_over H d_over c_lowest
    have c_is_row : CalD l.prog w K mg base 3 "is_row" n_is_row [] := ok_is_row H d_is_row c_is_number
    have c_l_plus : CalD l.prog w K mg base 3 "_law_plus" n_l_plus [] := ok_l_plus H d_l_plus c_l_low
    have c_l_times : CalD l.prog w K mg base 3 "_law_times" n_l_times [] := ok_l_times H d_l_times c_l_low
    have c_l_minus : CalD l.prog w K mg base 3 "_law_minus" n_l_minus [] := ok_l_minus H d_l_minus c_l_low
    have c_l_over : CalD l.prog w K mg base 3 "_law_over" n_l_over [] := ok_l_over H d_l_over c_l_low
    have c_l_number : CalD l.prog w K mg base 3 "_law_number" n_l_number [] := ok_l_number H d_l_number c_l_low c_l_take
    have c_less : CalD l.prog w K mg base 4 "less" n_less [] := ok_less H d_less c_minus c_plus
    have c_is_table : CalD l.prog w K mg base 4 "is_table" n_is_table [] := ok_is_table H d_is_table c_is_row
    have c_scaled : CalD l.prog w K mg base 4 "scaled" n_scaled [] := ok_scaled H d_scaled c_times
    have c_added : CalD l.prog w K mg base 4 "added" n_added [] := ok_added H d_added c_plus
    have c_look_row : CalD l.prog w K mg base 4 "look_row" n_look_row [] := ok_look_row H d_look_row c_is_row
    have c_norm_of : CalD l.prog w K mg base 4 "norm_of" n_norm_of [] := ok_norm_of H d_norm_of c_plus c_times
    have c_l_sum : CalD l.prog w K mg base 4 "_law_sum" n_l_sum [] := ok_l_sum H d_l_sum c_l_plus
    have c_l_scaled : CalD l.prog w K mg base 4 "_law_scaled" n_l_scaled [] := ok_l_scaled H d_l_scaled c_l_times
    have c_l_row : CalD l.prog w K mg base 4 "_law_row" n_l_row [] := ok_l_row H d_l_row c_l_number
    have c_l_turned_four : CalD l.prog w K mg base 4 "_law_turned_four" n_l_turned_four [] := ok_l_turned_four H d_l_turned_four c_l_minus
    have c_taken_off : CalD l.prog w K mg base 5 "taken_off" n_taken_off [] := ok_taken_off H d_taken_off c_added c_minus c_scaled
    have c_through : CalD l.prog w K mg base 5 "through" n_through [] := ok_through H d_through c_added c_scaled
    have c_four_times : CalD l.prog w K mg base 5 "four_times" n_four_times [] := ok_four_times H d_four_times c_less c_plus c_times
    have c_look_four : CalD l.prog w K mg base 5 "look_four" n_look_four [] := ok_look_four H d_look_four c_is_row c_norm_of
    have c_l_norm : CalD l.prog w K mg base 5 "_law_norm" n_l_norm [] := ok_l_norm H d_l_norm c_l_sum c_l_times
    have c_l_four_times : CalD l.prog w K mg base 5 "_law_four_times" n_l_four_times [] := ok_l_four_times H d_l_four_times c_l_low c_l_sum c_l_times
    have c_product : CalD l.prog w K mg base 6 "product" n_product [] := ok_product H d_product c_through
    have c_least_rows : CalD l.prog w K mg base 6 "least_rows" n_least_rows [] := ok_least_rows H d_least_rows c_headed c_over c_scaled c_taken_off
    have c_determinant : CalD l.prog w K mg base 6 "determinant" n_determinant [] := ok_determinant H d_determinant c_minus c_over c_taken_off c_times
    have c_paired : CalD l.prog w K mg base 6 "paired" n_paired [] := ok_paired H d_paired c_plus c_through c_times
    have c_between : CalD l.prog w K mg base 6 "between" n_between [] := ok_between H d_between c_four_times c_norm_of c_ones c_over c_scaled
    have c_l_four : CalD l.prog w K mg base 6 "_law_four" n_l_four [] := ok_l_four H d_l_four c_l_norm c_l_ones c_l_row c_l_take
    have c_l_between : CalD l.prog w K mg base 6 "_law_between" n_l_between [] := ok_l_between H d_l_between c_l_four_times c_l_norm c_l_ones c_l_over c_l_scaled
    have c_Keeper_of : MetX l.prog w K mg base 6 "Keeper" "of" n_Keeper_of [] := ok_Keeper_of H d_Keeper_of c_look_row c_through
    have c_rank_of : CalD l.prog w K mg base 7 "rank_of" n_rank_of [] := ok_rank_of H d_rank_of c_least_rows
    have c_is_form_table : CalD l.prog w K mg base 7 "is_form_table" n_is_form_table [] := ok_is_form_table H d_is_form_table c_determinant c_is_table c_turned
    have c_first_changed : CalD l.prog w K mg base 7 "first_changed" n_first_changed [] := ok_first_changed H d_first_changed c_paired
    have c_l_like : CalD l.prog w K mg base 7 "_law_like" n_l_like [] := ok_l_like H d_l_like c_l_four c_l_four_times c_l_minus c_l_mixed c_l_norm c_l_over c_l_scaled c_l_take
    have c_Keeper_hand : MetX l.prog w K mg base 7 "Keeper" "hand" n_Keeper_hand [] := ok_Keeper_hand H d_Keeper_hand c_determinant
    have c_back : CalD l.prog w K mg base 8 "back" n_back [] := ok_back H d_back c_least_rows c_ones c_rank_of
    have c_Form_init : CalI l.prog w K mg base 8 "Form" "Form.__init__" n_Form_init s_Form_init ["self", "table", "ground"] [.int 0] := ok_Form_init H d_Form_init c_is_form_table c_look_ground
    have c_Keeper_init : MkC l.prog w K mg base 8 "Keeper" n_Keeper_init [] := ok_Keeper_init H d_Keeper_init c_first_changed c_is_table c_look_form
    have c_squares : CalD l.prog w K mg base 10 "squares" n_squares [] := ok_squares H d_squares c_Form_init c_ones
    have c_l_is_double : CalD l.prog w K mg base 10 "_law_is_double" n_l_is_double [] := ok_l_is_double H d_l_is_double c_Form_eq c_Form_init c_Keeper_hand c_Keeper_of c_l_between c_l_four_times c_l_norm c_l_ones c_l_over c_l_scaled
    have c_Keeper_back : MetX l.prog w K mg base 10 "Keeper" "back" n_Keeper_back [] := ok_Keeper_back H d_Keeper_back c_Keeper_init c_back
    have c_Keeper_then : MetX l.prog w K mg base 10 "Keeper" "then" n_Keeper_then [] := ok_Keeper_then H d_Keeper_then c_Form_eq c_Keeper_init c_product
    have c_double_turn : CalD l.prog w K mg base 11 "double_turn" n_double_turn [] := ok_double_turn H d_double_turn c_Keeper_init c_between c_look_four c_norm_of c_squares
    ok_law H d_law c_Keeper_eq c_Keeper_back c_Keeper_then c_l_bag c_l_four c_l_ground c_l_is_double c_l_like c_l_minus c_l_row c_l_scaled c_l_turned_four c_double_turn c_four_times) T
end DD.K41

open PySem PySem.W PyProof.Rows
set_option maxHeartbeats 0 in
theorem PySem.Challenge.cw_fewmirrors_k41_double_turns_holds : PySem.Challenge.rw_fewmirrors_k41_double_turns.Holds := by
  refine DD.K41H.head ?_
  k_fill
  refine L2.walk_ofB (l := PySem.Challenge.rw_fewmirrors_k41_double_turns) (n := 63) (k := 12) (x := "_law_script") (CX := fun _ => L2.CX0) (sp := fun w => DD.spScript _ 63) rfl (by decide) rfl ⟨rfl, by decide, by decide⟩ (fun w h Y => PySem.W.kIn_of Y) ?F (fun _ _ a ns hl hb _ hS => ⟨a, ns, rfl, hl, hb, hS, fun p hp => absurd hp (by simp [DD.tabT, DD.LamN.names]), fun v _ e => e⟩) (fun _ _ _ _ _ h => h)
  case F =>
    intro w mg fa h KX G hmg
    refine' DD.K41.fin DD.K41.T_law hmg ?H ?d_wall ?d_is_whole ?d_shared ?d_contrary_on ?d_ones ?d_turned ?d_headed ?d_look_form ?d_l_bag ?d_l_take ?d_l_shared ?d_l_ones ?d_Form_eq ?d_is_ground ?d_is_number ?d_lowest ?d_l_mixed ?d_l_low ?d_l_ground ?d_Keeper_eq ?d_look_ground ?d_plus ?d_minus ?d_times ?d_over ?d_is_row ?d_l_plus ?d_l_times ?d_l_minus ?d_l_over ?d_l_number ?d_less ?d_is_table ?d_scaled ?d_added ?d_look_row ?d_norm_of ?d_l_sum ?d_l_scaled ?d_l_row ?d_l_turned_four ?d_taken_off ?d_through ?d_four_times ?d_look_four ?d_l_norm ?d_l_four_times ?d_product ?d_least_rows ?d_determinant ?d_paired ?d_between ?d_l_four ?d_l_between ?d_Keeper_of ?d_rank_of ?d_is_form_table ?d_first_changed ?d_l_like ?d_Keeper_hand ?d_back ?d_Form_init ?d_Keeper_init ?d_squares ?d_l_is_double ?d_Keeper_back ?d_Keeper_then ?d_double_turn ?d_law
    case H =>
      refine' ⟨PySem.W.mg_none_of KX G (by k_is), PySem.W.mg_none_of KX G (by k_is), PySem.W.mg_none_of KX G (by k_is), PySem.W.mg_none_of KX G (by k_is), PySem.W.mg_none_of KX G (by k_is), PySem.W.mg_none_of KX G (by k_is), PySem.W.mg_none_of KX G (by k_is), PySem.W.mg_none_of KX G (by k_is), PySem.W.mg_none_of KX G (by k_is), PySem.W.mg_none_of KX G (by k_is), PySem.W.mg_none_of KX G (by k_is), PySem.W.mg_none_of KX G (by k_is), PySem.W.mg_none_of KX G (by k_is), PySem.W.mg_none_of KX G (by k_is), ?g_GROUNDS, ?g_MOST_LETTERS, ?g_NOUGHT, ?g_ONE, ?g_PARTS, ?g_PRODUCTS, ?l_back_tables, ?n_Form, ?n_Keeper, ?s_Form, ?s_Keeper, ?e_Form, ?e_Keeper⟩
      case l_back_tables => (refine' DD.alias_of KX G ?z1e ?z1e2; (case z1e => k_is); (case z1e2 => k_is))
      case n_Form => (refine' DD.insC_of KX G ?z2e ?z2q1 ?z2q2 ?z2q3 ?z2q4 ?z2na; (case z2e => k_is); (case z2q1 => k_is); (case z2q2 => k_is); (case z2q3 => k_is); (case z2q4 => k_is); (case z2na => (intro f hf; simp only [List.mem_cons, List.not_mem_nil, or_false] at hf; rcases hf with rfl | rfl <;> k_is)))
      case n_Keeper => (refine' DD.insC_of KX G ?z3e ?z3q1 ?z3q2 ?z3q3 ?z3q4 ?z3na; (case z3e => k_is); (case z3q1 => k_is); (case z3q2 => k_is); (case z3q3 => k_is); (case z3q4 => k_is); (case z3na => (intro f hf; simp only [List.mem_cons, List.not_mem_nil, or_false] at hf; rcases hf with rfl | rfl <;> k_is)))
      case s_Form => (refine' DD.isC_of KX G ?z4e ?z4q1 ?z4q2 ?z4q3 ?z4q4 ?z4q5 ?z4q6 ?z4q7 ?z4q8 ?z4q9 ?z4t1 ?z4t2 ?z4t3 ?z4t4 ?z4t5 ?z4t6; (case z4e => k_is); (case z4q1 => k_is); (case z4q2 => k_is); (case z4q3 => k_is); (case z4q4 => k_is); (case z4q5 => k_is); (case z4q6 => k_is); (case z4q7 => k_is); (case z4q8 => k_is); (case z4q9 => kit_is); (case z4t1 => kit_is); (case z4t2 => kit_is); (case z4t3 => kit_is); (case z4t4 => kit_is); (case z4t5 => kit_is); (case z4t6 => kit_is))
      case s_Keeper => (refine' DD.isC_of KX G ?z5e ?z5q1 ?z5q2 ?z5q3 ?z5q4 ?z5q5 ?z5q6 ?z5q7 ?z5q8 ?z5q9 ?z5t1 ?z5t2 ?z5t3 ?z5t4 ?z5t5 ?z5t6; (case z5e => k_is); (case z5q1 => k_is); (case z5q2 => k_is); (case z5q3 => k_is); (case z5q4 => k_is); (case z5q5 => k_is); (case z5q6 => k_is); (case z5q7 => k_is); (case z5q8 => k_is); (case z5q9 => kit_is); (case z5t1 => kit_is); (case z5t2 => kit_is); (case z5t3 => kit_is); (case z5t4 => kit_is); (case z5t5 => kit_is); (case z5t6 => kit_is))
      case e_Form => (refine' DD.ne_of KX G ?z6e ?z6q1 ?z6q2; (case z6e => k_is); (case z6q1 => k_is); (case z6q2 => k_is))
      case e_Keeper => (refine' DD.ne_of KX G ?z7e ?z7q1 ?z7q2; (case z7e => k_is); (case z7q1 => k_is); (case z7q2 => k_is))
      case g_GROUNDS => (refine' DD.glob_kd KX G ?e ?k; (case e => k_is); (case k => (refine' DD.KD.tup ?lu1 ?cu1 ?du1 ?zu1 ?ru1; (case lu1 => k_is); (case cu1 => exact rfl); (case du1 => exact rfl); (case zu1 => decide); (case ru1 => (refine' .cons ?e0u1 (.cons ?e1u1 (.cons ?e2u1 (.cons ?e3u1 (.cons ?e4u1 (.cons ?e5u1 (.nil)))))); (case e0u1 => exact .int _ _); (case e1u1 => exact .int _ _); (case e2u1 => exact .int _ _); (case e3u1 => exact .int _ _); (case e4u1 => exact .int _ _); (case e5u1 => exact .int _ _))))))
      case g_MOST_LETTERS => (refine' DD.glob_int KX G ?e); (case e => k_is)
      case g_NOUGHT => (refine' DD.glob_kd KX G ?e ?k; (case e => k_is); (case k => (refine' DD.KD.tup ?lu1 ?cu1 ?du1 ?zu1 ?ru1; (case lu1 => k_is); (case cu1 => exact rfl); (case du1 => exact rfl); (case zu1 => decide); (case ru1 => (refine' .cons ?e0u1 (.cons ?e1u1 (.nil)); (case e0u1 => exact .int _ _); (case e1u1 => exact .int _ _))))))
      case g_ONE => (refine' DD.glob_kd KX G ?e ?k; (case e => k_is); (case k => (refine' DD.KD.tup ?lu1 ?cu1 ?du1 ?zu1 ?ru1; (case lu1 => k_is); (case cu1 => exact rfl); (case du1 => exact rfl); (case zu1 => decide); (case ru1 => (refine' .cons ?e0u1 (.cons ?e1u1 (.nil)); (case e0u1 => exact .int _ _); (case e1u1 => exact .int _ _))))))
      case g_PARTS => (refine' DD.glob_int KX G ?e); (case e => k_is)
      case g_PRODUCTS => (refine' DD.glob_kd KX G ?e ?k; (case e => k_is); (case k => (refine' DD.KD.tup ?lu1 ?cu1 ?du1 ?zu1 ?ru1; (case lu1 => k_is); (case cu1 => exact rfl); (case du1 => exact rfl); (case zu1 => decide); (case ru1 => (refine' .cons ?e0u1 (.cons ?e1u1 (.cons ?e2u1 (.cons ?e3u1 (.nil)))); (case e0u1 => (refine' DD.KD.tup ?lu2 ?cu2 ?du2 ?zu2 ?ru2; (case lu2 => k_is); (case cu2 => exact rfl); (case du2 => exact rfl); (case zu2 => decide); (case ru2 => (refine' .cons ?e0u2 (.cons ?e1u2 (.cons ?e2u2 (.cons ?e3u2 (.nil)))); (case e0u2 => (refine' DD.KD.tup ?lu3 ?cu3 ?du3 ?zu3 ?ru3; (case lu3 => k_is); (case cu3 => exact rfl); (case du3 => exact rfl); (case zu3 => decide); (case ru3 => (refine' .cons ?e0u3 (.cons ?e1u3 (.nil)); (case e0u3 => exact .int _ _); (case e1u3 => exact .int _ _))))); (case e1u2 => (refine' DD.KD.tup ?lu4 ?cu4 ?du4 ?zu4 ?ru4; (case lu4 => k_is); (case cu4 => exact rfl); (case du4 => exact rfl); (case zu4 => decide); (case ru4 => (refine' .cons ?e0u4 (.cons ?e1u4 (.nil)); (case e0u4 => exact .int _ _); (case e1u4 => exact .int _ _))))); (case e2u2 => (refine' DD.KD.tup ?lu5 ?cu5 ?du5 ?zu5 ?ru5; (case lu5 => k_is); (case cu5 => exact rfl); (case du5 => exact rfl); (case zu5 => decide); (case ru5 => (refine' .cons ?e0u5 (.cons ?e1u5 (.nil)); (case e0u5 => exact .int _ _); (case e1u5 => exact .int _ _))))); (case e3u2 => (refine' DD.KD.tup ?lu6 ?cu6 ?du6 ?zu6 ?ru6; (case lu6 => k_is); (case cu6 => exact rfl); (case du6 => exact rfl); (case zu6 => decide); (case ru6 => (refine' .cons ?e0u6 (.cons ?e1u6 (.nil)); (case e0u6 => exact .int _ _); (case e1u6 => exact .int _ _))))))))); (case e1u1 => (refine' DD.KD.tup ?lu7 ?cu7 ?du7 ?zu7 ?ru7; (case lu7 => k_is); (case cu7 => exact rfl); (case du7 => exact rfl); (case zu7 => decide); (case ru7 => (refine' .cons ?e0u7 (.cons ?e1u7 (.cons ?e2u7 (.cons ?e3u7 (.nil)))); (case e0u7 => (refine' DD.KD.tup ?lu8 ?cu8 ?du8 ?zu8 ?ru8; (case lu8 => k_is); (case cu8 => exact rfl); (case du8 => exact rfl); (case zu8 => decide); (case ru8 => (refine' .cons ?e0u8 (.cons ?e1u8 (.nil)); (case e0u8 => exact .int _ _); (case e1u8 => exact .int _ _))))); (case e1u7 => (refine' DD.KD.tup ?lu9 ?cu9 ?du9 ?zu9 ?ru9; (case lu9 => k_is); (case cu9 => exact rfl); (case du9 => exact rfl); (case zu9 => decide); (case ru9 => (refine' .cons ?e0u9 (.cons ?e1u9 (.nil)); (case e0u9 => exact .int _ _); (case e1u9 => exact .int _ _))))); (case e2u7 => (refine' DD.KD.tup ?lu10 ?cu10 ?du10 ?zu10 ?ru10; (case lu10 => k_is); (case cu10 => exact rfl); (case du10 => exact rfl); (case zu10 => decide); (case ru10 => (refine' .cons ?e0u10 (.cons ?e1u10 (.nil)); (case e0u10 => exact .int _ _); (case e1u10 => exact .int _ _))))); (case e3u7 => (refine' DD.KD.tup ?lu11 ?cu11 ?du11 ?zu11 ?ru11; (case lu11 => k_is); (case cu11 => exact rfl); (case du11 => exact rfl); (case zu11 => decide); (case ru11 => (refine' .cons ?e0u11 (.cons ?e1u11 (.nil)); (case e0u11 => exact .int _ _); (case e1u11 => exact .int _ _))))))))); (case e2u1 => (refine' DD.KD.tup ?lu12 ?cu12 ?du12 ?zu12 ?ru12; (case lu12 => k_is); (case cu12 => exact rfl); (case du12 => exact rfl); (case zu12 => decide); (case ru12 => (refine' .cons ?e0u12 (.cons ?e1u12 (.cons ?e2u12 (.cons ?e3u12 (.nil)))); (case e0u12 => (refine' DD.KD.tup ?lu13 ?cu13 ?du13 ?zu13 ?ru13; (case lu13 => k_is); (case cu13 => exact rfl); (case du13 => exact rfl); (case zu13 => decide); (case ru13 => (refine' .cons ?e0u13 (.cons ?e1u13 (.nil)); (case e0u13 => exact .int _ _); (case e1u13 => exact .int _ _))))); (case e1u12 => (refine' DD.KD.tup ?lu14 ?cu14 ?du14 ?zu14 ?ru14; (case lu14 => k_is); (case cu14 => exact rfl); (case du14 => exact rfl); (case zu14 => decide); (case ru14 => (refine' .cons ?e0u14 (.cons ?e1u14 (.nil)); (case e0u14 => exact .int _ _); (case e1u14 => exact .int _ _))))); (case e2u12 => (refine' DD.KD.tup ?lu15 ?cu15 ?du15 ?zu15 ?ru15; (case lu15 => k_is); (case cu15 => exact rfl); (case du15 => exact rfl); (case zu15 => decide); (case ru15 => (refine' .cons ?e0u15 (.cons ?e1u15 (.nil)); (case e0u15 => exact .int _ _); (case e1u15 => exact .int _ _))))); (case e3u12 => (refine' DD.KD.tup ?lu16 ?cu16 ?du16 ?zu16 ?ru16; (case lu16 => k_is); (case cu16 => exact rfl); (case du16 => exact rfl); (case zu16 => decide); (case ru16 => (refine' .cons ?e0u16 (.cons ?e1u16 (.nil)); (case e0u16 => exact .int _ _); (case e1u16 => exact .int _ _))))))))); (case e3u1 => (refine' DD.KD.tup ?lu17 ?cu17 ?du17 ?zu17 ?ru17; (case lu17 => k_is); (case cu17 => exact rfl); (case du17 => exact rfl); (case zu17 => decide); (case ru17 => (refine' .cons ?e0u17 (.cons ?e1u17 (.cons ?e2u17 (.cons ?e3u17 (.nil)))); (case e0u17 => (refine' DD.KD.tup ?lu18 ?cu18 ?du18 ?zu18 ?ru18; (case lu18 => k_is); (case cu18 => exact rfl); (case du18 => exact rfl); (case zu18 => decide); (case ru18 => (refine' .cons ?e0u18 (.cons ?e1u18 (.nil)); (case e0u18 => exact .int _ _); (case e1u18 => exact .int _ _))))); (case e1u17 => (refine' DD.KD.tup ?lu19 ?cu19 ?du19 ?zu19 ?ru19; (case lu19 => k_is); (case cu19 => exact rfl); (case du19 => exact rfl); (case zu19 => decide); (case ru19 => (refine' .cons ?e0u19 (.cons ?e1u19 (.nil)); (case e0u19 => exact .int _ _); (case e1u19 => exact .int _ _))))); (case e2u17 => (refine' DD.KD.tup ?lu20 ?cu20 ?du20 ?zu20 ?ru20; (case lu20 => k_is); (case cu20 => exact rfl); (case du20 => exact rfl); (case zu20 => decide); (case ru20 => (refine' .cons ?e0u20 (.cons ?e1u20 (.nil)); (case e0u20 => exact .int _ _); (case e1u20 => exact .int _ _))))); (case e3u17 => (refine' DD.KD.tup ?lu21 ?cu21 ?du21 ?zu21 ?ru21; (case lu21 => k_is); (case cu21 => exact rfl); (case du21 => exact rfl); (case zu21 => decide); (case ru21 => (refine' .cons ?e0u21 (.cons ?e1u21 (.nil)); (case e0u21 => exact .int _ _); (case e1u21 => exact .int _ _))))))))))))))
    case d_wall => (refine' DD.def_ex KX G ?a ?l ?c ?k ?b); (case a => k_is); (case l => k_is); (case c => k_is); (case k => k_is); (case b => exact fun _ _ _ _ _ _ us hl => match us, hl with | [_], _ => rfl)
    case d_is_whole => (refine' DD.def_ex KX G ?a ?l ?c ?k ?b); (case a => k_is); (case l => k_is); (case c => k_is); (case k => k_is); (case b => exact fun _ _ _ _ _ _ us hl => match us, hl with | [_], _ => rfl)
    case d_shared => (refine' DD.def_ex KX G ?a ?l ?c ?k ?b); (case a => k_is); (case l => k_is); (case c => k_is); (case k => k_is); (case b => exact fun _ _ _ _ _ _ us hl => match us, hl with | [_, _], _ => rfl)
    case d_contrary_on => (refine' DD.def_ex KX G ?a ?l ?c ?k ?b); (case a => k_is); (case l => k_is); (case c => k_is); (case k => k_is); (case b => exact fun _ _ _ _ _ _ us hl => match us, hl with | [_, _], _ => rfl)
    case d_ones => (refine' DD.def_ex KX G ?a ?l ?c ?k ?b); (case a => k_is); (case l => k_is); (case c => k_is); (case k => k_is); (case b => exact fun _ _ _ _ _ _ us hl => match us, hl with | [_], _ => rfl)
    case d_turned => (refine' DD.def_ex KX G ?a ?l ?c ?k ?b); (case a => k_is); (case l => k_is); (case c => k_is); (case k => k_is); (case b => exact fun _ _ _ _ _ _ us hl => match us, hl with | [_], _ => rfl)
    case d_headed => (refine' DD.def_ex KX G ?a ?l ?c ?k ?b); (case a => k_is); (case l => k_is); (case c => k_is); (case k => k_is); (case b => exact fun _ _ _ _ _ _ us hl => match us, hl with | [_], _ => rfl)
    case d_look_form => (refine' DD.def_ex KX G ?a ?l ?c ?k ?b); (case a => k_is); (case l => k_is); (case c => k_is); (case k => k_is); (case b => exact fun _ _ _ _ _ _ us hl => match us, hl with | [_], _ => rfl)
    case d_l_bag => (refine' DD.def_ex KX G ?a ?l ?c ?k ?b); (case a => k_is); (case l => k_is); (case c => k_is); (case k => k_is); (case b => exact fun _ _ _ _ _ _ us hl => match us, hl with | [_, _], _ => rfl)
    case d_l_take => (refine' DD.def_ex KX G ?a ?l ?c ?k ?b); (case a => k_is); (case l => k_is); (case c => k_is); (case k => k_is); (case b => exact fun _ _ _ _ _ _ us hl => match us, hl with | [_, _], _ => rfl)
    case d_l_shared => (refine' DD.def_ex KX G ?a ?l ?c ?k ?b); (case a => k_is); (case l => k_is); (case c => k_is); (case k => k_is); (case b => exact fun _ _ _ _ _ _ us hl => match us, hl with | [_, _], _ => rfl)
    case d_l_ones => (refine' DD.def_ex KX G ?a ?l ?c ?k ?b); (case a => k_is); (case l => k_is); (case c => k_is); (case k => k_is); (case b => exact fun _ _ _ _ _ _ us hl => match us, hl with | [_], _ => rfl)
    case d_Form_eq => (refine' DD.met_of KX G ?z8e ?z8q1 ?z8q2 ?z8q3 ?z8q4 ?z8m2 ?z8m3 ?z8l ?z8c ?z8k ?z8b; (case z8e => k_is); (case z8q1 => k_is); (case z8q2 => k_is); (case z8q3 => k_is); (case z8q4 => k_is); (case z8m2 => k_is); (case z8m3 => k_is); (case z8l => k_is); (case z8c => k_is); (case z8k => k_is); (case z8b => exact fun _ _ _ _ _ _ us hl => match us, hl with | [_, _], _ => rfl))
    case d_is_ground => (refine' DD.def_ex KX G ?a ?l ?c ?k ?b); (case a => k_is); (case l => k_is); (case c => k_is); (case k => k_is); (case b => exact fun _ _ _ _ _ _ us hl => match us, hl with | [_], _ => rfl)
    case d_is_number => (refine' DD.def_ex KX G ?a ?l ?c ?k ?b); (case a => k_is); (case l => k_is); (case c => k_is); (case k => k_is); (case b => exact fun _ _ _ _ _ _ us hl => match us, hl with | [_, _], _ => rfl)
    case d_lowest => (refine' DD.def_ex KX G ?a ?l ?c ?k ?b); (case a => k_is); (case l => k_is); (case c => k_is); (case k => k_is); (case b => exact fun _ _ _ _ _ _ us hl => match us, hl with | [_, _, _], _ => rfl)
    case d_l_mixed => (refine' DD.def_ex KX G ?a ?l ?c ?k ?b); (case a => k_is); (case l => k_is); (case c => k_is); (case k => k_is); (case b => exact fun _ _ _ _ _ _ us hl => match us, hl with | [_, _], _ => rfl)
    case d_l_low => (refine' DD.def_ex KX G ?a ?l ?c ?k ?b); (case a => k_is); (case l => k_is); (case c => k_is); (case k => k_is); (case b => exact fun _ _ _ _ _ _ us hl => match us, hl with | [_, _, _], _ => rfl)
    case d_l_ground => (refine' DD.def_ex KX G ?a ?l ?c ?k ?b); (case a => k_is); (case l => k_is); (case c => k_is); (case k => k_is); (case b => exact fun _ _ _ _ _ _ us hl => match us, hl with | [_], _ => rfl)
    case d_Keeper_eq => (refine' DD.met_of KX G ?z9e ?z9q1 ?z9q2 ?z9q3 ?z9q4 ?z9m2 ?z9m3 ?z9l ?z9c ?z9k ?z9b; (case z9e => k_is); (case z9q1 => k_is); (case z9q2 => k_is); (case z9q3 => k_is); (case z9q4 => k_is); (case z9m2 => k_is); (case z9m3 => k_is); (case z9l => k_is); (case z9c => k_is); (case z9k => k_is); (case z9b => exact fun _ _ _ _ _ _ us hl => match us, hl with | [_, _], _ => rfl))
    case d_look_ground => (refine' DD.def_ex KX G ?a ?l ?c ?k ?b); (case a => k_is); (case l => k_is); (case c => k_is); (case k => k_is); (case b => exact fun _ _ _ _ _ _ us hl => match us, hl with | [_], _ => rfl)
    case d_plus => (refine' DD.def_ex KX G ?a ?l ?c ?k ?b); (case a => k_is); (case l => k_is); (case c => k_is); (case k => k_is); (case b => exact fun _ _ _ _ _ _ us hl => match us, hl with | [_, _, _], _ => rfl)
    case d_minus => (refine' DD.def_ex KX G ?a ?l ?c ?k ?b); (case a => k_is); (case l => k_is); (case c => k_is); (case k => k_is); (case b => exact fun _ _ _ _ _ _ us hl => match us, hl with | [_, _], _ => rfl)
    case d_times => (refine' DD.def_ex KX G ?a ?l ?c ?k ?b); (case a => k_is); (case l => k_is); (case c => k_is); (case k => k_is); (case b => exact fun _ _ _ _ _ _ us hl => match us, hl with | [_, _, _], _ => rfl)
    case d_over => (refine' DD.def_ex KX G ?a ?l ?c ?k ?b); (case a => k_is); (case l => k_is); (case c => k_is); (case k => k_is); (case b => exact fun _ _ _ _ _ _ us hl => match us, hl with | [_, _, _], _ => rfl)
    case d_is_row => (refine' DD.def_ex KX G ?a ?l ?c ?k ?b); (case a => k_is); (case l => k_is); (case c => k_is); (case k => k_is); (case b => exact fun _ _ _ _ _ _ us hl => match us, hl with | [_, _, _], _ => rfl)
    case d_l_plus => (refine' DD.def_ex KX G ?a ?l ?c ?k ?b); (case a => k_is); (case l => k_is); (case c => k_is); (case k => k_is); (case b => exact fun _ _ _ _ _ _ us hl => match us, hl with | [_, _, _], _ => rfl)
    case d_l_times => (refine' DD.def_ex KX G ?a ?l ?c ?k ?b); (case a => k_is); (case l => k_is); (case c => k_is); (case k => k_is); (case b => exact fun _ _ _ _ _ _ us hl => match us, hl with | [_, _, _], _ => rfl)
    case d_l_minus => (refine' DD.def_ex KX G ?a ?l ?c ?k ?b); (case a => k_is); (case l => k_is); (case c => k_is); (case k => k_is); (case b => exact fun _ _ _ _ _ _ us hl => match us, hl with | [_, _], _ => rfl)
    case d_l_over => (refine' DD.def_ex KX G ?a ?l ?c ?k ?b); (case a => k_is); (case l => k_is); (case c => k_is); (case k => k_is); (case b => exact fun _ _ _ _ _ _ us hl => match us, hl with | [_, _, _], _ => rfl)
    case d_l_number => (refine' DD.def_ex KX G ?a ?l ?c ?k ?b); (case a => k_is); (case l => k_is); (case c => k_is); (case k => k_is); (case b => exact fun _ _ _ _ _ _ us hl => match us, hl with | [_, _], _ => rfl)
    case d_less => (refine' DD.def_ex KX G ?a ?l ?c ?k ?b); (case a => k_is); (case l => k_is); (case c => k_is); (case k => k_is); (case b => exact fun _ _ _ _ _ _ us hl => match us, hl with | [_, _, _], _ => rfl)
    case d_is_table => (refine' DD.def_ex KX G ?a ?l ?c ?k ?b); (case a => k_is); (case l => k_is); (case c => k_is); (case k => k_is); (case b => exact fun _ _ _ _ _ _ us hl => match us, hl with | [_, _, _, _], _ => rfl)
    case d_scaled => (refine' DD.def_ex KX G ?a ?l ?c ?k ?b); (case a => k_is); (case l => k_is); (case c => k_is); (case k => k_is); (case b => exact fun _ _ _ _ _ _ us hl => match us, hl with | [_, _, _], _ => rfl)
    case d_added => (refine' DD.def_ex KX G ?a ?l ?c ?k ?b); (case a => k_is); (case l => k_is); (case c => k_is); (case k => k_is); (case b => exact fun _ _ _ _ _ _ us hl => match us, hl with | [_, _, _], _ => rfl)
    case d_look_row => (refine' DD.def_ex KX G ?a ?l ?c ?k ?b); (case a => k_is); (case l => k_is); (case c => k_is); (case k => k_is); (case b => exact fun _ _ _ _ _ _ us hl => match us, hl with | [_, _], _ => rfl)
    case d_norm_of => (refine' DD.def_ex KX G ?a ?l ?c ?k ?b); (case a => k_is); (case l => k_is); (case c => k_is); (case k => k_is); (case b => exact fun _ _ _ _ _ _ us hl => match us, hl with | [_, _], _ => rfl)
    case d_l_sum => (refine' DD.def_ex KX G ?a ?l ?c ?k ?b); (case a => k_is); (case l => k_is); (case c => k_is); (case k => k_is); (case b => exact fun _ _ _ _ _ _ us hl => match us, hl with | [_, _], _ => rfl)
    case d_l_scaled => (refine' DD.def_ex KX G ?a ?l ?c ?k ?b); (case a => k_is); (case l => k_is); (case c => k_is); (case k => k_is); (case b => exact fun _ _ _ _ _ _ us hl => match us, hl with | [_, _, _], _ => rfl)
    case d_l_row => (refine' DD.def_ex KX G ?a ?l ?c ?k ?b); (case a => k_is); (case l => k_is); (case c => k_is); (case k => k_is); (case b => exact fun _ _ _ _ _ _ us hl => match us, hl with | [_, _, _], _ => rfl)
    case d_l_turned_four => (refine' DD.def_ex KX G ?a ?l ?c ?k ?b); (case a => k_is); (case l => k_is); (case c => k_is); (case k => k_is); (case b => exact fun _ _ _ _ _ _ us hl => match us, hl with | [_, _], _ => rfl)
    case d_taken_off => (refine' DD.def_ex KX G ?a ?l ?c ?k ?b); (case a => k_is); (case l => k_is); (case c => k_is); (case k => k_is); (case b => exact fun _ _ _ _ _ _ us hl => match us, hl with | [_, _, _, _], _ => rfl)
    case d_through => (refine' DD.def_ex KX G ?a ?l ?c ?k ?b); (case a => k_is); (case l => k_is); (case c => k_is); (case k => k_is); (case b => exact fun _ _ _ _ _ _ us hl => match us, hl with | [_, _, _], _ => rfl)
    case d_four_times => (refine' DD.def_ex KX G ?a ?l ?c ?k ?b); (case a => k_is); (case l => k_is); (case c => k_is); (case k => k_is); (case b => exact fun _ _ _ _ _ _ us hl => match us, hl with | [_, _, _], _ => rfl)
    case d_look_four => (refine' DD.def_ex KX G ?a ?l ?c ?k ?b); (case a => k_is); (case l => k_is); (case c => k_is); (case k => k_is); (case b => exact fun _ _ _ _ _ _ us hl => match us, hl with | [_, _], _ => rfl)
    case d_l_norm => (refine' DD.def_ex KX G ?a ?l ?c ?k ?b); (case a => k_is); (case l => k_is); (case c => k_is); (case k => k_is); (case b => exact fun _ _ _ _ _ _ us hl => match us, hl with | [_, _], _ => rfl)
    case d_l_four_times => (refine' DD.def_ex KX G ?a ?l ?c ?k ?b); (case a => k_is); (case l => k_is); (case c => k_is); (case k => k_is); (case b => exact fun _ _ _ _ _ _ us hl => match us, hl with | [_, _, _], _ => rfl)
    case d_product => (refine' DD.def_ex KX G ?a ?l ?c ?k ?b); (case a => k_is); (case l => k_is); (case c => k_is); (case k => k_is); (case b => exact fun _ _ _ _ _ _ us hl => match us, hl with | [_, _, _], _ => rfl)
    case d_least_rows => (refine' DD.def_ex KX G ?a ?l ?c ?k ?b); (case a => k_is); (case l => k_is); (case c => k_is); (case k => k_is); (case b => exact fun _ _ _ _ _ _ us hl => match us, hl with | [_, _], _ => rfl)
    case d_determinant => (refine' DD.def_ex KX G ?a ?l ?c ?k ?b); (case a => k_is); (case l => k_is); (case c => k_is); (case k => k_is); (case b => exact fun _ _ _ _ _ _ us hl => match us, hl with | [_, _], _ => rfl)
    case d_paired => (refine' DD.def_ex KX G ?a ?l ?c ?k ?b); (case a => k_is); (case l => k_is); (case c => k_is); (case k => k_is); (case b => exact fun _ _ _ _ _ _ us hl => match us, hl with | [_, _, _, _], _ => rfl)
    case d_between => (refine' DD.def_ex KX G ?a ?l ?c ?k ?b); (case a => k_is); (case l => k_is); (case c => k_is); (case k => k_is); (case b => exact fun _ _ _ _ _ _ us hl => match us, hl with | [_, _, _], _ => rfl)
    case d_l_four => (refine' DD.def_ex KX G ?a ?l ?c ?k ?b); (case a => k_is); (case l => k_is); (case c => k_is); (case k => k_is); (case b => exact fun _ _ _ _ _ _ us hl => match us, hl with | [_, _], _ => rfl)
    case d_l_between => (refine' DD.def_ex KX G ?a ?l ?c ?k ?b); (case a => k_is); (case l => k_is); (case c => k_is); (case k => k_is); (case b => exact fun _ _ _ _ _ _ us hl => match us, hl with | [_, _, _], _ => rfl)
    case d_Keeper_of => (refine' DD.met_of KX G ?z10e ?z10q1 ?z10q2 ?z10q3 ?z10q4 ?z10m2 ?z10m3 ?z10l ?z10c ?z10k ?z10b; (case z10e => k_is); (case z10q1 => k_is); (case z10q2 => k_is); (case z10q3 => k_is); (case z10q4 => k_is); (case z10m2 => k_is); (case z10m3 => k_is); (case z10l => k_is); (case z10c => k_is); (case z10k => k_is); (case z10b => exact fun _ _ _ _ _ _ us hl => match us, hl with | [_, _], _ => rfl))
    case d_rank_of => (refine' DD.def_ex KX G ?a ?l ?c ?k ?b); (case a => k_is); (case l => k_is); (case c => k_is); (case k => k_is); (case b => exact fun _ _ _ _ _ _ us hl => match us, hl with | [_, _], _ => rfl)
    case d_is_form_table => (refine' DD.def_ex KX G ?a ?l ?c ?k ?b); (case a => k_is); (case l => k_is); (case c => k_is); (case k => k_is); (case b => exact fun _ _ _ _ _ _ us hl => match us, hl with | [_, _], _ => rfl)
    case d_first_changed => (refine' DD.def_ex KX G ?a ?l ?c ?k ?b); (case a => k_is); (case l => k_is); (case c => k_is); (case k => k_is); (case b => exact fun _ _ _ _ _ _ us hl => match us, hl with | [_, _], _ => rfl)
    case d_l_like => (refine' DD.def_ex KX G ?a ?l ?c ?k ?b); (case a => k_is); (case l => k_is); (case c => k_is); (case k => k_is); (case b => exact fun _ _ _ _ _ _ us hl => match us, hl with | [_, _, _], _ => rfl)
    case d_Keeper_hand => (refine' DD.met_of KX G ?z11e ?z11q1 ?z11q2 ?z11q3 ?z11q4 ?z11m2 ?z11m3 ?z11l ?z11c ?z11k ?z11b; (case z11e => k_is); (case z11q1 => k_is); (case z11q2 => k_is); (case z11q3 => k_is); (case z11q4 => k_is); (case z11m2 => k_is); (case z11m3 => k_is); (case z11l => k_is); (case z11c => k_is); (case z11k => k_is); (case z11b => exact fun _ _ _ _ _ _ us hl => match us, hl with | [_], _ => rfl))
    case d_back => (refine' DD.def_ex KX G ?a ?l ?c ?k ?b); (case a => k_is); (case l => k_is); (case c => k_is); (case k => k_is); (case b => exact fun _ _ _ _ _ _ us hl => match us, hl with | [_, _], _ => rfl)
    case d_Form_init => (refine' DD.ini_int KX G ?z12e ?z12m1 ?z12m2 ?z12m3 ?z12m4 ?z12l ?z12c ?z12k ?z12t ?z12o; (case z12e => k_is); (case z12m1 => k_is); (case z12m2 => k_is); (case z12m3 => k_is); (case z12m4 => k_is); (case z12l => k_is); (case z12c => k_is); (case z12k => k_is); (case z12t => k_is); (case z12o => exact rfl))
    case d_Keeper_init => (refine' DD.ini0_of KX G ?z13e ?z13m1 ?z13m2 ?z13m3 ?z13m4 ?z13l ?z13c ?z13k ?z13b; (case z13e => k_is); (case z13m1 => k_is); (case z13m2 => k_is); (case z13m3 => k_is); (case z13m4 => k_is); (case z13l => k_is); (case z13c => k_is); (case z13k => k_is); (case z13b => exact fun _ _ _ _ _ _ us hl => match us, hl with | [_, _, _], _ => rfl))
    case d_squares => (refine' DD.def_ex KX G ?a ?l ?c ?k ?b); (case a => k_is); (case l => k_is); (case c => k_is); (case k => k_is); (case b => exact fun _ _ _ _ _ _ us hl => match us, hl with | [_, _], _ => rfl)
    case d_l_is_double => (refine' DD.def_ex KX G ?a ?l ?c ?k ?b); (case a => k_is); (case l => k_is); (case c => k_is); (case k => k_is); (case b => exact fun _ _ _ _ _ _ us hl => match us, hl with | [_, _, _, _, _], _ => rfl)
    case d_Keeper_back => (refine' DD.met_of KX G ?z14e ?z14q1 ?z14q2 ?z14q3 ?z14q4 ?z14m2 ?z14m3 ?z14l ?z14c ?z14k ?z14b; (case z14e => k_is); (case z14q1 => k_is); (case z14q2 => k_is); (case z14q3 => k_is); (case z14q4 => k_is); (case z14m2 => k_is); (case z14m3 => k_is); (case z14l => k_is); (case z14c => k_is); (case z14k => k_is); (case z14b => exact fun _ _ _ _ _ _ us hl => match us, hl with | [_], _ => rfl))
    case d_Keeper_then => (refine' DD.met_of KX G ?z15e ?z15q1 ?z15q2 ?z15q3 ?z15q4 ?z15m2 ?z15m3 ?z15l ?z15c ?z15k ?z15b; (case z15e => k_is); (case z15q1 => k_is); (case z15q2 => k_is); (case z15q3 => k_is); (case z15q4 => k_is); (case z15m2 => k_is); (case z15m3 => k_is); (case z15l => k_is); (case z15c => k_is); (case z15k => k_is); (case z15b => exact fun _ _ _ _ _ _ us hl => match us, hl with | [_, _], _ => rfl))
    case d_double_turn => (refine' DD.def_ex KX G ?a ?l ?c ?k ?b); (case a => k_is); (case l => k_is); (case c => k_is); (case k => k_is); (case b => exact fun _ _ _ _ _ _ us hl => match us, hl with | [_, _, _], _ => rfl)
    case d_law => (refine' DD.def_ex KX G ?a ?l ?c ?k ?b); (case a => k_is); (case l => k_is); (case c => k_is); (case k => k_is); (case b => exact fun _ _ _ _ _ _ us hl => match us, hl with | [_], _ => rfl)
