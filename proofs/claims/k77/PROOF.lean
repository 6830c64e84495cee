import PyProof.Rows.All
import Wide.All
import OpenK.AllK
import Wide.FinOn
import HandS.ForMost
import HandS.Walk
import HandS.Zip
import HandS.SortInts
import HandS.Wide
import HandS.IsInst
import KE.GoesEnum
import PySem.Challenge.RW_lendtown_k77_days_of_a_script
set_option Elab.async false
set_option linter.all false
set_option maxRecDepth 100000
/-! own frame: values as plain data, who owns which list, and the reading of expressions and statements as plain functions -/
namespace LT
open PySem PySem.Spec PyProof.Rows L2

inductive D where
  | jnk | non
  | bl (b : Bool) | int (i : Int) | str (z : Str)
  | tup (xs : List D) | lst (own : Bool) (xs : List D)
  /-- a list that stands still (the script) -/
  | frl (xs : List D)

/-- a list that cannot be written: the script, or an object of the module -/
def SqF (K : PySem.W.Frag) (H : Hp) (a : Addr) (vs : List V) : Prop := (∃ o, H a = some (.frz o (.lst vs))) ∨ ∀ H', SqL K H' a vs
theorem SqF.seq {K : PySem.W.Frag} {H : Hp} {a : Addr} {vs : List V} (h : SqF K H a vs) : SqL K H a vs := by
  rcases h with ⟨o, h⟩ | h
  · exact .inl (.inr ⟨o, h⟩)
  · exact h H
theorem SqF.of {K : PySem.W.Frag} {H : Hp} {a : Addr} {vs : List V} (n : H a ≠ some (.lst vs)) (h : SqL K H a vs) : SqF K H a vs := by
  rcases h with (h | ⟨o, h⟩) | h
  · exact absurd h n
  · exact .inl ⟨o, h⟩
  · exact .inr fun _ => .inr h

mutual
/-- v is d in the heap H; O: the lists that are owned, S: the lists that are only read -/
inductive Rep (K : PySem.W.Frag) (H : Hp) : V → D → List Addr → List Addr → Prop
  | non : Rep K H .non .non [] []
  | bl (b : Bool) : Rep K H (.bl b) (.bl b) [] []
  | int (i : Int) : Rep K H (.int i) (.int i) [] []
  | str (z : Str) : Rep K H (.str z) (.str z) [] []
  | tup {a : Addr} {vs : List V} {ds : List D} {O S : List Addr} : SqT K H a vs → RepL K H vs ds O S → Rep K H (.ref a) (.tup ds) O S
  | own {a : Addr} {vs : List V} {ds : List D} {O S : List Addr} : H a = some (.lst vs) → RepL K H vs ds O S → Rep K H (.ref a) (.lst true ds) (a :: O) S
  | shr {a : Addr} {vs : List V} {ds : List D} {S : List Addr} : H a = some (.lst vs) → RepL K H vs ds [] S → Rep K H (.ref a) (.lst false ds) [] (a :: S)
  | frl {a : Addr} {vs : List V} {ds : List D} {O S : List Addr} : SqF K H a vs → RepL K H vs ds O S → Rep K H (.ref a) (.frl ds) O S
inductive RepL (K : PySem.W.Frag) (H : Hp) : List V → List D → List Addr → List Addr → Prop
  | nil : RepL K H [] [] [] []
  | cons {v : V} {vs : List V} {d : D} {ds : List D} {O1 S1 O2 S2 : List Addr} : Rep K H v d O1 S1 → RepL K H vs ds O2 S2 → RepL K H (v :: vs) (d :: ds) (O1 ++ O2) (S1 ++ S2)
end

/-- slots -/
inductive SL (K : PySem.W.Frag) (H : Hp) : List (Option V) → List D → List Addr → List Addr → Prop
  | nil : SL K H [] [] [] []
  | jnk {x : Option V} {σ : List (Option V)} {env : List D} {O S : List Addr} : SL K H σ env O S → SL K H (x :: σ) (.jnk :: env) O S
  | cons {v : V} {σ : List (Option V)} {d : D} {env : List D} {O1 S1 O2 S2 : List Addr} : Rep K H v d O1 S1 → SL K H σ env O2 S2 → SL K H (some v :: σ) (d :: env) (O1 ++ O2) (S1 ++ S2)

mutual
def fz : D → D
  | .jnk => .jnk
  | .non => .non
  | .bl b => .bl b
  | .int i => .int i
  | .str z => .str z
  | .tup xs => .tup (fzs xs)
  | .lst _ xs => .lst false (fzs xs)
  | .frl xs => .frl (fzs xs)
def fzs : List D → List D
  | [] => []
  | x :: r => fz x :: fzs r
end
mutual
/-- nothing is owned in it -/
def noOwn : D → Bool
  | .jnk => false
  | .non => true
  | .bl _ => true
  | .int _ => true
  | .str _ => true
  | .tup xs => noOwns xs
  | .lst o xs => !o && noOwns xs
  | .frl xs => noOwns xs
def noOwns : List D → Bool
  | [] => true
  | x :: r => noOwn x && noOwns r
end
mutual
/-- no list that is only read -/
def noShr : D → Bool
  | .jnk => false
  | .non => true
  | .bl _ => true
  | .int _ => true
  | .str _ => true
  | .tup xs => noShrs xs
  | .lst o xs => o && noShrs xs
  | .frl xs => noShrs xs
def noShrs : List D → Bool
  | [] => true
  | x :: r => noShr x && noShrs r
end
theorem noOwns_map {α : Type} {f : α → D} (h : ∀ x, noOwn (f x) = true) : ∀ l : List α, noOwns (l.map f) = true
  | [] => rfl
  | x :: r => by
    show (noOwn (f x) && noOwns (r.map f)) = true
    rw [h x, noOwns_map h r]
    rfl
theorem noShrs_map {α : Type} {f : α → D} (h : ∀ x, noShr (f x) = true) : ∀ l : List α, noShrs (l.map f) = true
  | [] => rfl
  | x :: r => by
    show (noShr (f x) && noShrs (r.map f)) = true
    rw [h x, noShrs_map h r]
    rfl
theorem fzs_map {α : Type} {f : α → D} (h : ∀ x, fz (f x) = f x) : ∀ l : List α, fzs (l.map f) = l.map f
  | [] => rfl
  | x :: r => by
    show fz (f x) :: fzs (r.map f) = _
    rw [h x, fzs_map h r]
    rfl

section
variable {K : PySem.W.Frag} {H H' : Hp}

/-- what may be written -/
def wrt : HO → Bool
  | .lst _ => true
  | .dK _ => true
  | .dT _ => true
  | .ins _ _ _ => true
  | _ => false
def WOk (H : Hp) (W : List Addr) : Prop := ∀ a ∈ W, ∃ o, H a = some o ∧ wrt o = true
def Fr (H H' : Hp) (W : List Addr) : Prop := ∀ a o, H a = some o → a ∉ W → H' a = some o

theorem SqT.frame {W : List Addr} (f : Fr H H' W) (w : WOk H W) {a : Addr} {vs : List V} (h : SqT K H a vs) : SqT K H' a vs := by
  have key : ∀ o, H a = some o → wrt o = false → H' a = some o := fun o e n => f a o e fun m => by
    obtain ⟨o', e', n'⟩ := w a m
    rw [e] at e'
    cases e'
    rw [n] at n'
    cases n'
  rcases h with (h | ⟨o, h⟩) | h
  · exact .inl (.inl (key _ h rfl))
  · exact .inl (.inr ⟨o, key _ h rfl⟩)
  · exact .inr h

theorem SqF.frame {W : List Addr} (f : Fr H H' W) (w : WOk H W) {a : Addr} {vs : List V} (h : SqF K H a vs) : SqF K H' a vs := by
  rcases h with ⟨o, h⟩ | h
  · exact .inl ⟨o, f _ _ h fun m => by
      obtain ⟨o', e', n'⟩ := w _ m
      rw [h] at e'
      cases e'
      cases n'⟩
  · exact .inr h
mutual
theorem Rep.frame {W : List Addr} (f : Fr H H' W) (w : WOk H W) : ∀ {v : V} {d : D} {O S : List Addr}, Rep K H v d O S → (∀ a ∈ O, a ∉ W) → (∀ a ∈ S, a ∉ W) → Rep K H' v d O S
  | _, _, _, _, .non, _, _ => .non
  | _, _, _, _, .bl b, _, _ => .bl b
  | _, _, _, _, .int i, _, _ => .int i
  | _, _, _, _, .str z, _, _ => .str z
  | _, _, _, _, .tup h r, ho, hs => .tup (SqT.frame f w h) (RepL.frame f w r ho hs)
  | _, _, _, _, .own h r, ho, hs => .own (f _ _ h (ho _ List.mem_cons_self)) (RepL.frame f w r (fun a m => ho a (List.mem_cons_of_mem _ m)) hs)
  | _, _, _, _, .shr h r, ho, hs => .shr (f _ _ h (hs _ List.mem_cons_self)) (RepL.frame f w r (fun a m => nomatch m) (fun a m => hs a (List.mem_cons_of_mem _ m)))
  | _, _, _, _, .frl h r, ho, hs => .frl (SqF.frame f w h) (RepL.frame f w r ho hs)
theorem RepL.frame {W : List Addr} (f : Fr H H' W) (w : WOk H W) : ∀ {vs : List V} {ds : List D} {O S : List Addr}, RepL K H vs ds O S → (∀ a ∈ O, a ∉ W) → (∀ a ∈ S, a ∉ W) → RepL K H' vs ds O S
  | _, _, _, _, .nil, _, _ => .nil
  | _, _, _, _, .cons h r, ho, hs => .cons (Rep.frame f w h (fun a m => ho a (List.mem_append_left _ m)) (fun a m => hs a (List.mem_append_left _ m)))
      (RepL.frame f w r (fun a m => ho a (List.mem_append_right _ m)) (fun a m => hs a (List.mem_append_right _ m)))
end
theorem SL.frame {W : List Addr} (f : Fr H H' W) (w : WOk H W) : ∀ {σ : List (Option V)} {env : List D} {O S : List Addr}, SL K H σ env O S → (∀ a ∈ O, a ∉ W) → (∀ a ∈ S, a ∉ W) → SL K H' σ env O S
  | _, _, _, _, .nil, _, _ => .nil
  | _, _, _, _, .jnk r, ho, hs => .jnk (SL.frame f w r ho hs)
  | _, _, _, _, .cons h r, ho, hs => .cons (Rep.frame f w h (fun a m => ho a (List.mem_append_left _ m)) (fun a m => hs a (List.mem_append_left _ m)))
      (SL.frame f w r (fun a m => ho a (List.mem_append_right _ m)) (fun a m => hs a (List.mem_append_right _ m)))
theorem Fr.of_same (h : Same H H') : Fr H H' [] := fun a o e _ => h a o e
theorem wok_nil : WOk H [] := fun _ m => nomatch m
theorem Rep.same (h : Same H H') {v : V} {d : D} {O S : List Addr} (r : Rep K H v d O S) : Rep K H' v d O S :=
  r.frame (Fr.of_same h) wok_nil (fun _ _ m => nomatch m) (fun _ _ m => nomatch m)
theorem RepL.same (h : Same H H') {v : List V} {d : List D} {O S : List Addr} (r : RepL K H v d O S) : RepL K H' v d O S :=
  r.frame (Fr.of_same h) wok_nil (fun _ _ m => nomatch m) (fun _ _ m => nomatch m)
theorem SL.same (h : Same H H') {v : List (Option V)} {d : List D} {O S : List Addr} (r : SL K H v d O S) : SL K H' v d O S :=
  r.frame (Fr.of_same h) wok_nil (fun _ _ m => nomatch m) (fun _ _ m => nomatch m)

/-! where the footprints stand -/
mutual
theorem Rep.wok : ∀ {v : V} {d : D} {O S : List Addr}, Rep K H v d O S → WOk H O
  | _, _, _, _, .non => wok_nil
  | _, _, _, _, .bl b => wok_nil
  | _, _, _, _, .int i => wok_nil
  | _, _, _, _, .str z => wok_nil
  | _, _, _, _, .tup h r => RepL.wok r
  | _, _, _, _, .own h r => fun a m => by
    rcases List.mem_cons.mp m with e | m
    · exact ⟨_, e ▸ h, rfl⟩
    · exact RepL.wok r a m
  | _, _, _, _, .shr h r => wok_nil
  | _, _, _, _, .frl h r => RepL.wok r
theorem RepL.wok : ∀ {vs : List V} {ds : List D} {O S : List Addr}, RepL K H vs ds O S → WOk H O
  | _, _, _, _, .nil => wok_nil
  | _, _, _, _, .cons h r => fun a m => by
    rcases List.mem_append.mp m with m | m
    · exact Rep.wok h a m
    · exact RepL.wok r a m
end
mutual
theorem Rep.sok : ∀ {v : V} {d : D} {O S : List Addr}, Rep K H v d O S → ∀ a ∈ S, ∃ o, H a = some o
  | _, _, _, _, .non => fun _ m => nomatch m
  | _, _, _, _, .bl b => fun _ m => nomatch m
  | _, _, _, _, .int i => fun _ m => nomatch m
  | _, _, _, _, .str z => fun _ m => nomatch m
  | _, _, _, _, .tup h r => RepL.sok r
  | _, _, _, _, .own h r => RepL.sok r
  | _, _, _, _, .shr h r => fun a m => by
    rcases List.mem_cons.mp m with e | m
    · exact ⟨_, e ▸ h⟩
    · exact RepL.sok r a m
  | _, _, _, _, .frl h r => RepL.sok r
theorem RepL.sok : ∀ {vs : List V} {ds : List D} {O S : List Addr}, RepL K H vs ds O S → ∀ a ∈ S, ∃ o, H a = some o
  | _, _, _, _, .nil => fun _ m => nomatch m
  | _, _, _, _, .cons h r => fun a m => by
    rcases List.mem_append.mp m with m | m
    · exact Rep.sok h a m
    · exact RepL.sok r a m
end
theorem SL.wok : ∀ {σ : List (Option V)} {env : List D} {O S : List Addr}, SL K H σ env O S → WOk H O
  | _, _, _, _, .nil => wok_nil
  | _, _, _, _, .jnk r => SL.wok r
  | _, _, _, _, .cons h r => fun a m => by
    rcases List.mem_append.mp m with m | m
    · exact Rep.wok h a m
    · exact SL.wok r a m
theorem SL.sok : ∀ {σ : List (Option V)} {env : List D} {O S : List Addr}, SL K H σ env O S → ∀ a ∈ S, ∃ o, H a = some o
  | _, _, _, _, .nil => fun _ m => nomatch m
  | _, _, _, _, .jnk r => SL.sok r
  | _, _, _, _, .cons h r => fun a m => by
    rcases List.mem_append.mp m with m | m
    · exact Rep.sok h a m
    · exact SL.sok r a m
theorem SL.length : ∀ {σ : List (Option V)} {env : List D} {O S : List Addr}, SL K H σ env O S → σ.length = env.length
  | _, _, _, _, .nil => rfl
  | _, _, _, _, .jnk r => congrArg (· + 1) (SL.length r)
  | _, _, _, _, .cons h r => congrArg (· + 1) (SL.length r)
theorem RepL.length : ∀ {σ : List V} {env : List D} {O S : List Addr}, RepL K H σ env O S → σ.length = env.length
  | _, _, _, _, .nil => rfl
  | _, _, _, _, .cons h r => congrArg (· + 1) (RepL.length r)

/-! owned lists made read-only -/
mutual
theorem Rep.fz : ∀ {v : V} {d : D} {O S : List Addr}, Rep K H v d O S → ∃ S', Rep K H v (fz d) [] S' ∧ ∀ a ∈ S', a ∈ O ∨ a ∈ S
  | _, _, _, _, .non => ⟨[], .non, fun _ m => nomatch m⟩
  | _, _, _, _, .bl b => ⟨[], .bl b, fun _ m => nomatch m⟩
  | _, _, _, _, .int i => ⟨[], .int i, fun _ m => nomatch m⟩
  | _, _, _, _, .str z => ⟨[], .str z, fun _ m => nomatch m⟩
  | _, _, _, _, .tup h r => by
    obtain ⟨S', q, hs⟩ := RepL.fz r
    exact ⟨S', .tup h q, hs⟩
  | _, _, _, _, .own (a := a) h r => by
    obtain ⟨S', q, hs⟩ := RepL.fz r
    refine ⟨a :: S', .shr h q, fun b m => ?_⟩
    rcases List.mem_cons.mp m with e | m
    · exact .inl (e ▸ List.mem_cons_self)
    · rcases hs b m with z | z
      · exact .inl (List.mem_cons_of_mem _ z)
      · exact .inr z
  | _, _, _, _, .shr (a := a) h r => by
    obtain ⟨S', q, hs⟩ := RepL.fz r
    refine ⟨a :: S', .shr h q, fun b m => ?_⟩
    rcases List.mem_cons.mp m with e | m
    · exact .inr (e ▸ List.mem_cons_self)
    · rcases hs b m with z | z
      · cases z
      · exact .inr (List.mem_cons_of_mem _ z)
  | _, _, _, _, .frl h r => by
    obtain ⟨S', q, hs⟩ := RepL.fz r
    exact ⟨S', .frl h q, hs⟩
theorem RepL.fz : ∀ {vs : List V} {ds : List D} {O S : List Addr}, RepL K H vs ds O S → ∃ S', RepL K H vs (LT.fzs ds) [] S' ∧ ∀ a ∈ S', a ∈ O ∨ a ∈ S
  | _, _, _, _, .nil => ⟨[], .nil, fun _ m => nomatch m⟩
  | _, _, _, _, .cons h r => by
    obtain ⟨S1, q1, h1⟩ := Rep.fz h
    obtain ⟨S2, q2, h2⟩ := RepL.fz r
    refine ⟨S1 ++ S2, .cons (O1 := []) (O2 := []) q1 q2, fun b m => ?_⟩
    rcases List.mem_append.mp m with m | m
    · rcases h1 b m with z | z
      · exact .inl (List.mem_append_left _ z)
      · exact .inr (List.mem_append_left _ z)
    · rcases h2 b m with z | z
      · exact .inl (List.mem_append_right _ z)
      · exact .inr (List.mem_append_right _ z)
end
mutual
theorem Rep.noOwn : ∀ {v : V} {d : D} {O S : List Addr}, Rep K H v d O S → noOwn d = true → O = []
  | _, _, _, _, .non, _ => rfl
  | _, _, _, _, .bl b, _ => rfl
  | _, _, _, _, .int i, _ => rfl
  | _, _, _, _, .str z, _ => rfl
  | _, _, _, _, .tup h r, n => RepL.noOwn r n
  | _, _, _, _, .own h r, n => nomatch n
  | _, _, _, _, .shr h r, _ => rfl
  | _, _, _, _, .frl h r, n => RepL.noOwn r n
theorem RepL.noOwn : ∀ {vs : List V} {ds : List D} {O S : List Addr}, RepL K H vs ds O S → LT.noOwns ds = true → O = []
  | _, _, _, _, .nil, _ => rfl
  | _, _, _, _, .cons h r, n => by
    have n := (Bool.and_eq_true _ _).mp n
    rw [Rep.noOwn h n.1, RepL.noOwn r n.2]
    rfl
end
mutual
theorem Rep.noShr : ∀ {v : V} {d : D} {O S : List Addr}, Rep K H v d O S → noShr d = true → S = []
  | _, _, _, _, .non, _ => rfl
  | _, _, _, _, .bl b, _ => rfl
  | _, _, _, _, .int i, _ => rfl
  | _, _, _, _, .str z, _ => rfl
  | _, _, _, _, .tup h r, n => RepL.noShr r n
  | _, _, _, _, .own h r, n => RepL.noShr r n
  | _, _, _, _, .shr h r, n => nomatch n
  | _, _, _, _, .frl h r, n => RepL.noShr r n
theorem RepL.noShr : ∀ {vs : List V} {ds : List D} {O S : List Addr}, RepL K H vs ds O S → LT.noShrs ds = true → S = []
  | _, _, _, _, .nil, _ => rfl
  | _, _, _, _, .cons h r, n => by
    have n := (Bool.and_eq_true _ _).mp n
    rw [Rep.noShr h n.1, RepL.noShr r n.2]
    rfl
end
theorem RepL.get : ∀ {vs : List V} {ds : List D} {O S : List Addr} {i : Nat} {d : D}, RepL K H vs ds O S → ds[i]? = some d → ∃ v O1 S1, vs[i]? = some v ∧ Rep K H v d O1 S1 ∧ (∀ a ∈ O1, a ∈ O) ∧ (∀ a ∈ S1, a ∈ S)
  | _, _, _, _, _, _, .nil, e => by simp at e
  | _, _, _, _, 0, _, .cons h r, e => by
    cases (Option.some.inj e : _ = _)
    exact ⟨_, _, _, rfl, h, fun a m => List.mem_append_left _ m, fun a m => List.mem_append_left _ m⟩
  | _, _, _, _, i + 1, _, .cons h r, e => by
    obtain ⟨v, O1, S1, q1, q2, q3, q4⟩ := RepL.get (i := i) r e
    exact ⟨v, O1, S1, q1, q2, fun a m => List.mem_append_right _ (q3 a m), fun a m => List.mem_append_right _ (q4 a m)⟩
/-- a value that is no more than its data -/
theorem Rep.ne_jnk {v : V} {O S : List Addr} (h : Rep K H v .jnk O S) : False := nomatch h
end
end LT

set_option Elab.async false
set_option linter.all false
set_option maxRecDepth 100000
namespace LT
open PySem PySem.Spec PyProof.Rows L2

/-- the slots hold the data, no list is owned twice, none that is owned is read from elsewhere -/
structure Good (K : PySem.W.Frag) (H : Hp) (σ : List (Option V)) (env : List D) (O S : List Addr) : Prop where
  sl : SL K H σ env O S
  nd : ∀ a, O.count a ≤ 1
  dj : ∀ a ∈ S, O.count a = 0
structure Step (H H' : Hp) (O O' S S' : List Addr) : Prop where
  fr : Fr H H' O
  ow : ∀ a ∈ O', a ∈ O ∨ H a = none
  sh : ∀ a ∈ S', a ∈ S ∨ a ∈ O ∨ H a = none
/-- lists may be given up, or made read-only -/
def Re (O S O2 S2 : List Addr) : Prop := ∃ M : List Addr, (∀ a, O2.count a + M.count a ≤ O.count a) ∧ ∀ a ∈ S2, a ∈ S ∨ a ∈ M

theorem set_self {α : Type} : ∀ {l : List α} {i : Nat} {x : α}, l[i]? = some x → l.set i x = l
  | [], _, _, e => by simp at e
  | a :: r, 0, x, e => by cases (Option.some.inj e : _ = _); rfl
  | a :: r, i + 1, x, e => congrArg (a :: ·) (set_self (i := i) e)
theorem Re.of {O S O2 S2 : List Addr} (h : ∀ a, O2.count a ≤ O.count a) (hs : ∀ a ∈ S2, a ∈ S) : Re O S O2 S2 := ⟨[], by simpa using h, fun a m => .inl (hs a m)⟩
theorem cpos {a : Addr} {O : List Addr} : a ∈ O ↔ 0 < O.count a := List.count_pos_iff.symm
theorem cnull {a : Addr} {O : List Addr} : a ∉ O ↔ O.count a = 0 := List.count_eq_zero.symm

section
variable {K : PySem.W.Frag} {H H1 H2 H' : Hp} {σ σ' : List (Option V)} {env env' : List D} {O O1 O2 O' S S1 S2 S' : List Addr}

theorem Step.refl : Step H H O O S S := ⟨fun a o e _ => e, fun a m => .inl m, fun a m => .inl m⟩
theorem Step.trans (a : Step H H1 O O1 S S1) (b : Step H1 H2 O1 O2 S1 S2) : Step H H2 O O2 S S2 := by
  have back : ∀ x, H1 x = none → x ∈ O ∨ H x = none := fun x h => by
    by_cases hx : x ∈ O
    · exact .inl hx
    · cases e : H x with
      | none => exact .inr rfl
      | some o => rw [a.fr x o e hx] at h; cases h
  refine ⟨fun x o e hx => ?_, fun x m => ?_, fun x m => ?_⟩
  · refine b.fr x o (a.fr x o e hx) fun m => ?_
    rcases a.ow x m with z | z
    · exact hx z
    · rw [e] at z; cases z
  · rcases b.ow x m with z | z
    · exact a.ow x z
    · exact back x z
  · rcases b.sh x m with z | z | z
    · exact a.sh x z
    · exact .inr (a.ow x z)
    · exact .inr (back x z)
theorem Good.re (g : Good K H σ env O S) (s : SL K H' σ' env' O2 S2) (r : Re O S O2 S2) (hf : Fr H H' O) : Good K H' σ' env' O2 S2 ∧ Step H H' O O2 S S2 := by
  obtain ⟨M, h1, h2⟩ := r
  refine ⟨⟨s, fun a => ?_, fun a m => ?_⟩, ⟨hf, fun a m => .inl ?_, fun a m => ?_⟩⟩
  · have := g.nd a; have := h1 a; omega
  · rcases h2 a m with z | z
    · have := g.dj a z; have := h1 a; omega
    · have := cpos.mp z; have := g.nd a; have := h1 a; omega
  · have := cpos.mp m; have := h1 a; exact cpos.mpr (by omega)
  · rcases h2 a m with z | z
    · exact .inl z
    · refine .inr (.inl ?_)
      have := cpos.mp z; have := h1 a; exact cpos.mpr (by omega)
theorem fr_refl : Fr H H O := fun a o e _ => e

/-! ### parts -/
theorem SL.split : ∀ {xs σ : List (Option V)} {ds env : List D} {O S : List Addr}, SL K H (xs ++ σ) (ds ++ env) O S → xs.length = ds.length →
    ∃ O1 S1 O2 S2, SL K H xs ds O1 S1 ∧ SL K H σ env O2 S2 ∧ O = O1 ++ O2 ∧ S = S1 ++ S2
  | [], σ, [], env, O, S, h, _ => ⟨[], [], O, S, .nil, h, rfl, rfl⟩
  | x :: xs, σ, d :: ds, env, _, _, h, hl => by
    have hl' : xs.length = ds.length := by simpa using hl
    cases h with
    | jnk r =>
      obtain ⟨O1, S1, O2, S2, a, b, e1, e2⟩ := SL.split r hl'
      exact ⟨O1, S1, O2, S2, .jnk a, b, e1, e2⟩
    | cons q r =>
      obtain ⟨O1, S1, O2, S2, a, b, e1, e2⟩ := SL.split r hl'
      exact ⟨_, _, O2, S2, .cons q a, b, by rw [e1, List.append_assoc], by rw [e2, List.append_assoc]⟩
  | [], _, _ :: _, _, _, _, _, hl => by simp at hl
  | _ :: _, _, [], _, _, _, _, hl => by simp at hl
theorem SL.join : ∀ {xs σ : List (Option V)} {ds env : List D} {O1 S1 O2 S2 : List Addr}, SL K H xs ds O1 S1 → SL K H σ env O2 S2 → SL K H (xs ++ σ) (ds ++ env) (O1 ++ O2) (S1 ++ S2)
  | _, _, _, _, _, _, _, _, .nil, h => h
  | _, _, _, _, _, _, _, _, .jnk r, h => .jnk (SL.join r h)
  | _, _, _, _, _, _, _, _, .cons q r, h => by
    rw [List.append_assoc, List.append_assoc]
    exact .cons q (SL.join r h)
theorem SL.of_repL : ∀ {vs : List V} {ds : List D} {O S : List Addr}, RepL K H vs ds O S → SL K H (vs.map some) ds O S
  | _, _, _, _, .nil => .nil
  | _, _, _, _, .cons q r => .cons q (SL.of_repL r)
theorem RepL.of_sl : ∀ {vs : List V} {ds : List D} {O S : List Addr}, SL K H (vs.map some) ds O S → (∀ d ∈ ds, d ≠ .jnk) → RepL K H vs ds O S
  | [], _, _, _, .nil, _ => .nil
  | v :: vs, _, _, _, .jnk r, n => absurd rfl (n _ List.mem_cons_self)
  | v :: vs, _, _, _, .cons q r, n => .cons q (RepL.of_sl r fun d m => n d (List.mem_cons_of_mem _ m))

/-- work on the slots behind, the held ones ahead -/
theorem Good.lift {xs : List (Option V)} {ds : List D} (g : Good K H (xs ++ σ) (ds ++ env) O S) (hl : xs.length = ds.length) :
    ∃ Oσ Sσ, Good K H σ env Oσ Sσ ∧ (∀ a ∈ Oσ, a ∈ O) ∧ ∀ H' σ' env' O' S', Good K H' σ' env' O' S' → Step H H' Oσ O' Sσ S' → ∃ O2 S2, Good K H' (xs ++ σ') (ds ++ env') O2 S2 ∧ Step H H' O O2 S S2 := by
  obtain ⟨O1, S1, O2, S2, h1, h2, e1, e2⟩ := g.sl.split hl
  subst e1 e2
  have nd := g.nd
  have dj := g.dj
  simp only [List.count_append] at nd dj
  have w2 := h2.wok
  refine ⟨O2, S2, ⟨h2, fun a => ?_, fun a m => ?_⟩, fun a m => List.mem_append_right _ m, fun H' σ' env' O' S' g' st => ?_⟩
  · have := nd a; omega
  · have := dj a (List.mem_append_right _ m); omega
  have d1 : ∀ a ∈ O1, a ∉ O2 := fun a m z => by have := cpos.mp m; have := cpos.mp z; have := nd a; omega
  have d2 : ∀ a ∈ S1, a ∉ O2 := fun a m => cnull.mpr (by have := dj a (List.mem_append_left _ m); omega)
  have h1' := h1.frame st.fr w2 d1 d2
  have wk1 := h1.wok
  have sk1 := h1.sok
  have nnone : ∀ a o, H a = some o → ¬ H a = none := fun a o e z => by rw [e] at z; cases z
  have o1 : ∀ a ∈ O1, a ∉ O' := fun a m z => by
    rcases st.ow a z with q | q
    · exact d1 a m q
    · obtain ⟨o, e, _⟩ := wk1 a m
      exact nnone a o e q
  refine ⟨O1 ++ O', S1 ++ S', ⟨h1'.join g'.sl, fun a => ?_, fun a m => ?_⟩, ⟨fun a o e hn => ?_, fun a m => ?_, fun a m => ?_⟩⟩
  · rw [List.count_append]
    by_cases ha : a ∈ O1
    · have := cnull.mp (o1 a ha); have := nd a; omega
    · have := cnull.mp ha; have := g'.nd a; omega
  · rw [List.count_append]
    rcases List.mem_append.mp m with m | m
    · have h0 := dj a (List.mem_append_left _ m)
      have : O'.count a = 0 := cnull.mp fun z => by
        rcases st.ow a z with q | q
        · exact d2 a m q
        · obtain ⟨o, e⟩ := sk1 a m
          exact nnone a o e q
      omega
    · have h0 := g'.dj a m
      have : O1.count a = 0 := cnull.mp fun z => by
        obtain ⟨o, e, _⟩ := wk1 a z
        rcases st.sh a m with q | q | q
        · have := dj a (List.mem_append_right _ q); have := cpos.mp z; omega
        · exact d1 a z q
        · exact nnone a o e q
      omega
  · exact st.fr a o e fun z => hn (List.mem_append_right _ z)
  · rcases List.mem_append.mp m with m | m
    · exact .inl (List.mem_append_left _ m)
    · rcases st.ow a m with q | q
      · exact .inl (List.mem_append_right _ q)
      · exact .inr q
  · rcases List.mem_append.mp m with m | m
    · exact .inl (List.mem_append_left _ m)
    · rcases st.sh a m with q | q | q
      · exact .inl (List.mem_append_right _ q)
      · exact .inr (.inl (List.mem_append_right _ q))
      · exact .inr (.inr q)

/-! ### a slot is taken out, filled -/
theorem SL.take : ∀ {σ : List (Option V)} {env : List D} {O S : List Addr} {i : Nat} {d : D}, SL K H σ env O S → env[i]? = some d → d ≠ .jnk →
    ∃ v O1 S1 O2 S2, σ[i]? = some (some v) ∧ Rep K H v d O1 S1 ∧ SL K H σ (env.set i .jnk) O2 S2 ∧ (∀ a, O1.count a + O2.count a = O.count a) ∧ (∀ a ∈ S1, a ∈ S) ∧ ∀ a ∈ S2, a ∈ S
  | _, _, _, _, _, _, .nil, e, _ => by simp at e
  | _, _, _, _, 0, d, .jnk r, e, n => absurd (Option.some.inj e).symm n
  | _, _, _, _, 0, d, .cons q r, e, n => by
    cases (Option.some.inj e : _ = _)
    exact ⟨_, _, _, _, _, rfl, q, .jnk r, fun a => by rw [List.count_append], fun a m => List.mem_append_left _ m, fun a m => List.mem_append_right _ m⟩
  | _, _, _, _, i + 1, d, .jnk r, e, n => by
    obtain ⟨v, O1, S1, O2, S2, h1, h2, h3, h4, h5, h6⟩ := SL.take (i := i) r e n
    exact ⟨v, O1, S1, O2, S2, h1, h2, .jnk h3, h4, h5, h6⟩
  | _, _, _, _, i + 1, d, .cons q r, e, n => by
    obtain ⟨v, O1, S1, O2, S2, h1, h2, h3, h4, h5, h6⟩ := SL.take (i := i) r e n
    refine ⟨v, O1, S1, _, _, h1, h2, .cons q h3, fun a => ?_, fun a m => List.mem_append_right _ (h5 a m), fun a m => ?_⟩
    · have := h4 a
      rw [List.count_append, List.count_append]; omega
    · rcases List.mem_append.mp m with m | m
      · exact List.mem_append_left _ m
      · exact List.mem_append_right _ (h6 a m)
theorem SL.put : ∀ {σ : List (Option V)} {env : List D} {O2 S2 O1 S1 : List Addr} {i : Nat} {d : D} {v : V}, SL K H σ env O2 S2 → σ[i]? = some (some v) → Rep K H v d O1 S1 →
    ∃ O S, SL K H σ (env.set i d) O S ∧ (∀ a, O.count a ≤ O1.count a + O2.count a) ∧ ∀ a ∈ S, a ∈ S1 ∨ a ∈ S2
  | _, _, _, _, _, _, _, _, _, .nil, e, _ => by simp at e
  | _, _, _, _, O1, S1, 0, d, v, .jnk r, e, q => by
    cases (Option.some.inj e : _ = _)
    exact ⟨_, _, .cons q r, fun a => by rw [List.count_append]; exact Nat.le_refl _, fun a m => List.mem_append.mp m⟩
  | _, _, _, _, O1, S1, 0, d, v, .cons _ r, e, q => by
    cases (Option.some.inj e : _ = _)
    refine ⟨_, _, .cons q r, fun a => by rw [List.count_append, List.count_append]; omega, fun a m => ?_⟩
    rcases List.mem_append.mp m with m | m
    · exact .inl m
    · exact .inr (List.mem_append_right _ m)
  | _, _, _, _, O1, S1, i + 1, d, v, .jnk r, e, q => by
    obtain ⟨O, S, h1, h2, h3⟩ := SL.put (i := i) r e q
    exact ⟨O, S, .jnk h1, h2, h3⟩
  | _, _, _, _, O1, S1, i + 1, d, v, .cons p r, e, q => by
    obtain ⟨O, S, h1, h2, h3⟩ := SL.put (i := i) r e q
    refine ⟨_, _, .cons p h1, fun a => ?_, fun a m => ?_⟩
    · have := h2 a
      rw [List.count_append, List.count_append]; omega
    · rcases List.mem_append.mp m with m | m
      · exact .inr (List.mem_append_left _ m)
      · rcases h3 a m with z | z
        · exact .inl z
        · exact .inr (List.mem_append_right _ z)
/-- a slot gets a new value -/
theorem SL.store : ∀ {σ : List (Option V)} {env : List D} {O2 S2 O1 S1 : List Addr} {i : Nat} {d : D} {v : V}, SL K H σ env O2 S2 → Rep K H v d O1 S1 →
    ∃ O S, SL K H (σ.set i (some v)) (env.set i d) O S ∧ (∀ a, O.count a ≤ O1.count a + O2.count a) ∧ ∀ a ∈ S, a ∈ S1 ∨ a ∈ S2
  | _, _, _, _, O1, S1, i, d, v, .nil, q => ⟨[], [], by simp only [List.set_nil]; exact .nil, fun a => Nat.zero_le _, fun a m => nomatch m⟩
  | _, _, _, _, O1, S1, 0, d, v, .jnk r, q => ⟨_, _, .cons q r, fun a => by rw [List.count_append]; exact Nat.le_refl _, fun a m => List.mem_append.mp m⟩
  | _, _, _, _, O1, S1, 0, d, v, .cons _ r, q => by
    refine ⟨_, _, .cons q r, fun a => by rw [List.count_append, List.count_append]; omega, fun a m => ?_⟩
    rcases List.mem_append.mp m with m | m
    · exact .inl m
    · exact .inr (List.mem_append_right _ m)
  | _, _, _, _, O1, S1, i + 1, d, v, .jnk r, q => by
    obtain ⟨O, S, h1, h2, h3⟩ := SL.store (i := i) r q
    exact ⟨O, S, .jnk h1, h2, h3⟩
  | _, _, _, _, O1, S1, i + 1, d, v, .cons p r, q => by
    obtain ⟨O, S, h1, h2, h3⟩ := SL.store (i := i) r q
    refine ⟨_, _, .cons p h1, fun a => ?_, fun a m => ?_⟩
    · have := h2 a
      rw [List.count_append, List.count_append]; omega
    · rcases List.mem_append.mp m with m | m
      · exact .inr (List.mem_append_left _ m)
      · rcases h3 a m with z | z
        · exact .inl z
        · exact .inr (List.mem_append_right _ z)
/-- a slot is forgotten -/
theorem SL.forget : ∀ {σ : List (Option V)} {env : List D} {O S : List Addr} (i : Nat) (x : Option V), SL K H σ env O S → ∃ O2 S2, SL K H (σ.set i x) (env.set i .jnk) O2 S2 ∧ (∀ a, O2.count a ≤ O.count a) ∧ ∀ a ∈ S2, a ∈ S
  | _, _, _, _, i, x, .nil => ⟨[], [], by simp only [List.set_nil]; exact .nil, fun a => Nat.le_refl _, fun a m => m⟩
  | _, _, _, _, 0, x, .jnk r => ⟨_, _, .jnk r, fun a => Nat.le_refl _, fun a m => m⟩
  | _, _, _, _, 0, x, .cons _ r => ⟨_, _, .jnk r, fun a => by rw [List.count_append]; omega, fun a m => List.mem_append_right _ m⟩
  | _, _, _, _, i + 1, x, .jnk r => by
    obtain ⟨O2, S2, h1, h2, h3⟩ := SL.forget i x r
    exact ⟨O2, S2, .jnk h1, h2, h3⟩
  | _, _, _, _, i + 1, x, .cons q r => by
    obtain ⟨O2, S2, h1, h2, h3⟩ := SL.forget i x r
    refine ⟨_, _, .cons q h1, fun a => ?_, fun a m => ?_⟩
    · have := h2 a
      rw [List.count_append, List.count_append]; omega
    · rcases List.mem_append.mp m with m | m
      · exact List.mem_append_left _ m
      · exact List.mem_append_right _ (h3 a m)

theorem Good.take {i : Nat} {d : D} (g : Good K H σ env O S) (e : env[i]? = some d) (n : d ≠ .jnk) :
    ∃ v, σ[i]? = some (some v) ∧ ∃ O' S', Good K H (some v :: σ) (d :: env.set i .jnk) O' S' ∧ Step H H O O' S S' := by
  obtain ⟨v, O1, S1, O2, S2, h1, h2, h3, h4, h5, h6⟩ := g.sl.take e n
  refine ⟨v, h1, O1 ++ O2, S1 ++ S2, g.re (.cons h2 h3) (.of (fun a => ?_) (fun a m => ?_)) fr_refl⟩
  · rw [List.count_append, h4 a]; exact Nat.le_refl _
  · rcases List.mem_append.mp m with m | m
    · exact h5 a m
    · exact h6 a m
theorem Good.put {i : Nat} {d : D} {v : V} (g : Good K H (some v :: σ) (d :: env) O S) (e : σ[i]? = some (some v)) :
    ∃ O' S', Good K H σ (env.set i d) O' S' ∧ Step H H O O' S S' := by
  have h := g.sl
  cases h with
  | jnk r =>
    obtain ⟨O', S', h1, h2, h3⟩ := r.forget i (some v)
    rw [set_self e] at h1
    exact ⟨O', S', g.re h1 (.of h2 h3) fr_refl⟩
  | cons q r =>
    obtain ⟨O', S', h1, h2, h3⟩ := r.put e q
    exact ⟨O', S', g.re h1 (.of (fun a => by rw [List.count_append]; exact h2 a) (fun a m => List.mem_append.mpr (h3 a m))) fr_refl⟩
theorem Good.store {i : Nat} {d : D} {v : V} (g : Good K H (some v :: σ) (d :: env) O S) :
    ∃ O' S', Good K H (σ.set i (some v)) (env.set i d) O' S' ∧ Step H H O O' S S' := by
  have h := g.sl
  cases h with
  | jnk r =>
    obtain ⟨O', S', h1, h2, h3⟩ := r.forget i (some v)
    exact ⟨O', S', g.re h1 (.of h2 h3) fr_refl⟩
  | cons q r =>
    obtain ⟨O', S', h1, h2, h3⟩ := r.store (i := i) q
    exact ⟨O', S', g.re h1 (.of (fun a => by rw [List.count_append]; exact h2 a) (fun a m => List.mem_append.mpr (h3 a m))) fr_refl⟩
/-- the first one is dropped -/
theorem Good.drop {x : Option V} {d : D} (g : Good K H (x :: σ) (d :: env) O S) : ∃ O' S', Good K H σ env O' S' ∧ Step H H O O' S S' := by
  have h := g.sl
  cases h with
  | jnk r => exact ⟨_, _, g.re r (.of (fun a => Nat.le_refl _) (fun a m => m)) fr_refl⟩
  | cons q r => exact ⟨_, _, g.re r (.of (fun a => by rw [List.count_append]; omega) (fun a m => List.mem_append_right _ m)) fr_refl⟩
theorem Good.drops : ∀ {xs : List (Option V)} {ds : List D} {O S : List Addr}, xs.length = ds.length → Good K H (xs ++ σ) (ds ++ env) O S → ∃ O' S', Good K H σ env O' S' ∧ Step H H O O' S S'
  | [], [], O, S, _, g => ⟨O, S, g, .refl⟩
  | x :: xs, d :: ds, O, S, hl, g => by
    obtain ⟨O1, S1, g1, s1⟩ := g.drop
    obtain ⟨O2, S2, g2, s2⟩ := Good.drops (xs := xs) (ds := ds) (by simpa using hl) g1
    exact ⟨O2, S2, g2, s1.trans s2⟩
  | [], _ :: _, _, _, hl, _ => by simp at hl
  | _ :: _, [], _, _, hl, _ => by simp at hl
/-- its data, of the first one -/
theorem Good.head {v : V} {d : D} (g : Good K H (some v :: σ) (d :: env) O S) (n : d ≠ .jnk) : ∃ O1 S1 O2 S2, Rep K H v d O1 S1 ∧ SL K H σ env O2 S2 ∧ O = O1 ++ O2 ∧ S = S1 ++ S2 := by
  have h := g.sl
  cases h with
  | jnk r => exact absurd rfl n
  | cons q r => exact ⟨_, _, _, _, q, r, rfl, rfl⟩
/-- the first two change places -/
theorem Good.swap {x y : Option V} {d e : D} (g : Good K H (x :: y :: σ) (d :: e :: env) O S) : ∃ O' S', Good K H (y :: x :: σ) (e :: d :: env) O' S' ∧ Step H H O O' S S' := by
  have h := g.sl
  cases h with
  | jnk r =>
    cases r with
    | jnk r => exact ⟨_, _, g.re (.jnk (.jnk r)) (.of (fun a => Nat.le_refl _) (fun a m => m)) fr_refl⟩
    | cons q r => exact ⟨_, _, g.re (.cons q (.jnk r)) (.of (fun a => Nat.le_refl _) (fun a m => m)) fr_refl⟩
  | cons p r =>
    cases r with
    | jnk r => exact ⟨_, _, g.re (.jnk (.cons p r)) (.of (fun a => Nat.le_refl _) (fun a m => m)) fr_refl⟩
    | cons q r =>
      refine ⟨_, _, g.re (.cons q (.cons p r)) (.of (fun a => ?_) (fun a m => ?_)) fr_refl⟩
      · simp only [List.count_append]; omega
      · simp only [List.mem_append] at m ⊢
        rcases m with m | m | m
        · exact .inr (.inl m)
        · exact .inl m
        · exact .inr (.inr m)
theorem upd_fr {p : Addr} {o : HO} (hp : H p = none) : Fr H (upd H p o) O := fun a u e _ => by rw [upd_ne (ne_of_none e hp)]; exact e
theorem upd_same' {p : Addr} {o : HO} (hp : H p = none) : Same H (upd H p o) := fun a u e => by rw [upd_ne (ne_of_none e hp)]; exact e
theorem Good.same (g : Good K H σ env O S) (h : Same H H') : Good K H' σ env O S := ⟨g.sl.same h, g.nd, g.dj⟩
theorem Step.same (h : Same H H') : Step H H' O O S S := ⟨fun a o e _ => h a o e, fun a m => .inl m, fun a m => .inl m⟩
/-- a new list of held values -/
theorem Good.newList {vs : List V} {ds : List D} {p : Addr} (g : Good K H (vs.map some ++ σ) (ds ++ env) O S) (n : ∀ d ∈ ds, d ≠ .jnk) (hl : vs.length = ds.length) (hp : H p = none) :
    ∃ O' S', Good K (upd H p (.lst vs)) (some (.ref p) :: σ) (.lst true ds :: env) O' S' ∧ Step H (upd H p (.lst vs)) O O' S S' := by
  obtain ⟨O1, S1, O2, S2, h1, h2, e1, e2⟩ := g.sl.split (by simpa using hl)
  subst e1 e2
  have sm := upd_same' (o := .lst vs) hp
  have h1' := (RepL.of_sl h1 n).same sm
  have np : ∀ a ∈ O1 ++ O2, a ≠ p := fun a m z => by
    obtain ⟨o, e, _⟩ := g.sl.wok a m
    rw [z, hp] at e; cases e
  have nq : ∀ a ∈ S1 ++ S2, a ≠ p := fun a m z => by
    obtain ⟨o, e⟩ := g.sl.sok a m
    rw [z, hp] at e; cases e
  refine ⟨(p :: O1) ++ O2, S1 ++ S2, ⟨.cons (.own upd_same h1') (h2.same sm), fun a => ?_, fun a m => ?_⟩, ⟨upd_fr hp, fun a m => ?_, fun a m => .inl m⟩⟩
  · rw [List.cons_append, List.count_cons]
    by_cases e : p = a
    · subst e
      have := cnull.mp (fun z => np _ z rfl : p ∉ O1 ++ O2)
      rw [this]; simp
    · have := g.nd a
      have hb : (p == a) = false := beq_eq_false_iff_ne.mpr e
      rw [hb]; simpa using this
  · rw [List.cons_append, List.count_cons]
    have hb : (p == a) = false := beq_eq_false_iff_ne.mpr (fun e => nq a m e.symm)
    rw [hb]; simpa using g.dj a m
  · rw [List.cons_append] at m
    rcases List.mem_cons.mp m with e | m
    · exact .inr (e ▸ hp)
    · exact .inl m
theorem Good.newTup {vs : List V} {ds : List D} {p : Addr} (g : Good K H (vs.map some ++ σ) (ds ++ env) O S) (n : ∀ d ∈ ds, d ≠ .jnk) (hl : vs.length = ds.length) (hp : H p = none) :
    ∃ O' S', Good K (upd H p (.tup vs)) (some (.ref p) :: σ) (.tup ds :: env) O' S' ∧ Step H (upd H p (.tup vs)) O O' S S' := by
  obtain ⟨O1, S1, O2, S2, h1, h2, e1, e2⟩ := g.sl.split (by simpa using hl)
  subst e1 e2
  have sm := upd_same' (o := .tup vs) hp
  have h1' := (RepL.of_sl h1 n).same sm
  exact ⟨O1 ++ O2, S1 ++ S2, ⟨.cons (.tup (SqT.of upd_same) h1') (h2.same sm), g.nd, g.dj⟩, ⟨upd_fr hp, fun a m => .inl m, fun a m => .inl m⟩⟩
/-- a value that owns nothing may be held once more -/
theorem Good.copy {v : V} {d : D} {O1 S1 : List Addr} (g : Good K H σ env O S) (r : Rep K H v d O1 S1) (n : noOwn d = true) (hs : ∀ a ∈ S1, a ∈ S) :
    ∃ O' S', Good K H (some v :: σ) (d :: env) O' S' ∧ Step H H O O' S S' := by
  have e := r.noOwn n
  subst e
  refine ⟨_, _, g.re (.cons r g.sl) (.of (fun a => ?_) (fun a m => ?_)) fr_refl⟩
  · simp
  · rcases List.mem_append.mp m with m | m
    · exact hs a m
    · exact m
end
end LT

set_option Elab.async false
set_option linter.all false
set_option maxRecDepth 100000
namespace LT
open PySem PySem.Spec PyProof.Rows L2
abbrev En := List D

/-- a value that is seen: nothing of it is new but what was not tracked -/
def Vw (K : PySem.W.Frag) (H H' : Hp) (v : V) (d : D) (O S : List Addr) : Prop :=
  ∃ O1 S1, Rep K H' v d O1 S1 ∧ (∀ a ∈ O1, a ∈ O ∨ H a = none) ∧ ∀ a ∈ S1, a ∈ S ∨ H a = none
/-- a value that is new: what it owns was not tracked -/
def Fv (K : PySem.W.Frag) (H H' : Hp) (v : V) (d : D) (S : List Addr) : Prop :=
  ∃ O1 S1, Rep K H' v d O1 S1 ∧ (∀ a, O1.count a ≤ 1) ∧ (∀ a ∈ O1, H a = none) ∧ ∀ a ∈ S1, (a ∈ S ∨ H a = none) ∧ O1.count a = 0
def VwL (K : PySem.W.Frag) (H H' : Hp) (v : List V) (d : List D) (O S : List Addr) : Prop :=
  ∃ O1 S1, RepL K H' v d O1 S1 ∧ (∀ a ∈ O1, a ∈ O ∨ H a = none) ∧ ∀ a ∈ S1, a ∈ S ∨ H a = none
def FvL (K : PySem.W.Frag) (H H' : Hp) (v : List V) (d : List D) (S : List Addr) : Prop :=
  ∃ O1 S1, RepL K H' v d O1 S1 ∧ (∀ a, O1.count a ≤ 1) ∧ (∀ a ∈ O1, H a = none) ∧ ∀ a ∈ S1, (a ∈ S ∨ H a = none) ∧ O1.count a = 0
section
variable {K : PySem.W.Frag} {H H1 H2 : Hp} {v : V} {d : D} {vs : List V} {ds : List D} {O S S1 : List Addr}
theorem Vw.base (h : Same H H1) (x : Vw K H1 H2 v d O S) : Vw K H H2 v d O S := by
  obtain ⟨O1, S1, r, ho, hs⟩ := x
  exact ⟨O1, S1, r, fun a m => (ho a m).imp id h.free, fun a m => (hs a m).imp id h.free⟩
theorem Vw.up (h : Same H1 H2) (x : Vw K H H1 v d O S) : Vw K H H2 v d O S := by
  obtain ⟨O1, S1, r, ho, hs⟩ := x
  exact ⟨O1, S1, r.same h, ho, hs⟩
theorem VwL.base (h : Same H H1) (x : VwL K H1 H2 vs ds O S) : VwL K H H2 vs ds O S := by
  obtain ⟨O1, S1, r, ho, hs⟩ := x
  exact ⟨O1, S1, r, fun a m => (ho a m).imp id h.free, fun a m => (hs a m).imp id h.free⟩
theorem VwL.up (h : Same H1 H2) (x : VwL K H H1 vs ds O S) : VwL K H H2 vs ds O S := by
  obtain ⟨O1, S1, r, ho, hs⟩ := x
  exact ⟨O1, S1, r.same h, ho, hs⟩
theorem Fv.base (h : Same H H1) (x : Fv K H1 H2 v d S) : Fv K H H2 v d S := by
  obtain ⟨O1, S1, r, nd, ho, hs⟩ := x
  exact ⟨O1, S1, r, nd, fun a m => h.free (ho a m), fun a m => ⟨(hs a m).1.imp id h.free, (hs a m).2⟩⟩
theorem Fv.up (h : Same H1 H2) (x : Fv K H H1 v d S) : Fv K H H2 v d S := by
  obtain ⟨O1, S1, r, nd, ho, hs⟩ := x
  exact ⟨O1, S1, r.same h, nd, ho, hs⟩
theorem FvL.base (h : Same H H1) (x : FvL K H1 H2 vs ds S) : FvL K H H2 vs ds S := by
  obtain ⟨O1, S1, r, nd, ho, hs⟩ := x
  exact ⟨O1, S1, r, nd, fun a m => h.free (ho a m), fun a m => ⟨(hs a m).1.imp id h.free, (hs a m).2⟩⟩
theorem Fv.mono (x : Fv K H H1 v d S1) (h : ∀ a ∈ S1, a ∈ S ∨ H a = none) : Fv K H H1 v d S := by
  obtain ⟨O1, S1', r, nd, ho, hs⟩ := x
  refine ⟨O1, S1', r, nd, ho, fun a m => ⟨?_, (hs a m).2⟩⟩
  rcases (hs a m).1 with z | z
  · exact h a z
  · exact .inr z
theorem Fv.vw (x : Fv K H H1 v d S) : Vw K H H1 v d O S := by
  obtain ⟨O1, S1, r, nd, ho, hs⟩ := x
  exact ⟨O1, S1, r, fun a m => .inr (ho a m), fun a m => (hs a m).1⟩
theorem FvL.vw (x : FvL K H H1 vs ds S) : VwL K H H1 vs ds O S := by
  obtain ⟨O1, S1, r, nd, ho, hs⟩ := x
  exact ⟨O1, S1, r, fun a m => .inr (ho a m), fun a m => (hs a m).1⟩
theorem Vw.fv (x : Vw K H H1 v d O S) (n : noOwn d = true) : Fv K H H1 v d S := by
  obtain ⟨O1, S1, r, ho, hs⟩ := x
  have e := r.noOwn n
  subst e
  exact ⟨[], S1, r, fun a => Nat.zero_le _, (fun a m => nomatch m), fun a m => ⟨hs a m, rfl⟩⟩
theorem VwL.cons (h1 : Same H H1) (h2 : Same H1 H2) (x : Vw K H H1 v d O S) (y : VwL K H1 H2 vs ds O S) : VwL K H H2 (v :: vs) (d :: ds) O S := by
  obtain ⟨O1, S1, r, ho, hs⟩ := x
  obtain ⟨O2, S2, r2, ho2, hs2⟩ := y
  refine ⟨_, _, .cons (r.same h2) r2, fun a m => ?_, fun a m => ?_⟩
  · rcases List.mem_append.mp m with m | m
    · exact ho a m
    · exact (ho2 a m).imp id h1.free
  · rcases List.mem_append.mp m with m | m
    · exact hs a m
    · exact (hs2 a m).imp id h1.free
theorem Rep.not_none {K : PySem.W.Frag} {H : Hp} {v : V} {d : D} {O S : List Addr} (r : Rep K H v d O S) {a : Addr} (m : a ∈ O ∨ a ∈ S) : H a ≠ none := by
  rcases m with m | m
  · obtain ⟨o, e, _⟩ := r.wok a m
    rw [e]; exact fun z => nomatch z
  · obtain ⟨o, e⟩ := r.sok a m
    rw [e]; exact fun z => nomatch z
theorem FvL.cons (h1 : Same H H1) (h2 : Same H1 H2) (hS : ∀ a ∈ S, H a ≠ none) (x : Fv K H H1 v d S) (y : FvL K H1 H2 vs ds S) : FvL K H H2 (v :: vs) (d :: ds) S := by
  obtain ⟨O1, S1, r, nd, ho, hs⟩ := x
  obtain ⟨O2, S2, r2, nd2, ho2, hs2⟩ := y
  have d12 : ∀ a ∈ O1, a ∉ O2 := fun a m z => r.not_none (.inl m) (ho2 a z)
  refine ⟨_, _, .cons (r.same h2) r2, fun a => ?_, fun a m => ?_, fun a m => ?_⟩
  · rw [List.count_append]
    by_cases ha : a ∈ O1
    · have := cnull.mp (d12 a ha); have := nd a; omega
    · have := cnull.mp ha; have := nd2 a; omega
  · rcases List.mem_append.mp m with m | m
    · exact ho a m
    · exact h1.free (ho2 a m)
  · rw [List.count_append]
    rcases List.mem_append.mp m with m | m
    · refine ⟨(hs a m).1, ?_⟩
      have := (hs a m).2
      have : O2.count a = 0 := cnull.mp fun z => r.not_none (.inr m) (ho2 a z)
      omega
    · refine ⟨(hs2 a m).1.imp id h1.free, ?_⟩
      have := (hs2 a m).2
      have : O1.count a = 0 := cnull.mp fun z => by
        rcases (hs2 a m).1 with q | q
        · exact hS a q (ho a z)
        · exact r.not_none (.inl z) q
      omega
theorem Good.snone {σ : List (Option V)} {env : En} (g : Good K H σ env O S) : ∀ a ∈ S, H a ≠ none := fun a m z => by
  obtain ⟨o, e⟩ := g.sl.sok a m
  rw [z] at e; cases e
theorem Good.onone {σ : List (Option V)} {env : En} (g : Good K H σ env O S) : ∀ a ∈ O, H a ≠ none := fun a m z => by
  obtain ⟨o, e, _⟩ := g.sl.wok a m
  rw [z] at e; cases e
/-- new values ahead of the slots -/
theorem Good.held {σ : List (Option V)} {env : En} (g : Good K H σ env O S) (h : Same H H1) (x : FvL K H H1 vs ds S) : ∃ O' S', Good K H1 (vs.map some ++ σ) (ds ++ env) O' S' ∧ Step H H1 O O' S S' := by
  obtain ⟨O1, S1, r, nd, ho, hs⟩ := x
  refine ⟨O1 ++ O, S1 ++ S, ⟨(SL.of_repL r).join (g.sl.same h), fun a => ?_, fun a m => ?_⟩, ⟨fun a o e _ => h a o e, fun a m => ?_, fun a m => ?_⟩⟩
  · rw [List.count_append]
    by_cases ha : a ∈ O1
    · have : O.count a = 0 := cnull.mp fun z => g.onone a z (ho a ha)
      have := nd a; omega
    · have := cnull.mp ha; have := g.nd a; omega
  · rw [List.count_append]
    rcases List.mem_append.mp m with m | m
    · have := (hs a m).2
      have : O.count a = 0 := by
        rcases (hs a m).1 with z | z
        · exact g.dj a z
        · exact cnull.mp fun q => g.onone a q z
      omega
    · have := g.dj a m
      have : O1.count a = 0 := cnull.mp fun z => g.snone a m (ho a z)
      omega
  · rcases List.mem_append.mp m with m | m
    · exact .inr (ho a m)
    · exact .inl m
  · rcases List.mem_append.mp m with m | m
    · rcases (hs a m).1 with z | z
      · exact .inl z
      · exact .inr (.inr z)
    · exact .inl m
theorem Fv.l1 (x : Fv K H H1 v d S) : FvL K H H1 [v] [d] S := by
  obtain ⟨O1, S1, r, nd, ho, hs⟩ := x
  refine ⟨O1 ++ [], S1 ++ [], .cons r .nil, ?_, ?_, ?_⟩
  · simpa using nd
  · simpa using ho
  · simpa using hs
theorem Good.held1 {σ : List (Option V)} {env : En} (g : Good K H σ env O S) (h : Same H H1) (x : Fv K H H1 v d S) : ∃ O' S', Good K H1 (some v :: σ) (d :: env) O' S' ∧ Step H H1 O O' S S' := by
  simpa using g.held h x.l1
end

/-! ### the readings -/
def tV (K : PySem.W.Frag) (g : En → Option D) : TE := fun σ H Q => ∃ env O S d, Good K H σ env O S ∧ g env = some d ∧ ∀ v H', Same H H' → Vw K H H' v d O S → Q v H'
def tX (K : PySem.W.Frag) (g : En → Option D) : TE := fun σ H Q => ∃ env O S d, Good K H σ env O S ∧ g env = some d ∧ ∀ v H', Same H H' → Fv K H H' v d S → Q v H'
def tE (K : PySem.W.Frag) (f : En → Option (D × En)) : TE := fun σ H Q => ∃ env O S d env', Good K H σ env O S ∧ f env = some (d, env') ∧
  ∀ v H' O' S', d ≠ .jnk → Good K H' (some v :: σ) (d :: env') O' S' → Step H H' O O' S S' → Q v H'
def tVs (K : PySem.W.Frag) (g : En → Option (List D)) : TA := fun σ H Q => ∃ env O S d, Good K H σ env O S ∧ g env = some d ∧ ∀ v H', Same H H' → VwL K H H' v d O S → Q v H'
def tXs (K : PySem.W.Frag) (g : En → Option (List D)) : TA := fun σ H Q => ∃ env O S d, Good K H σ env O S ∧ g env = some d ∧ ∀ v H', Same H H' → FvL K H H' v d S → Q v H'
def tB1 (K : PySem.W.Frag) (g : En → Option Bool) : TT := fun σ H Q => ∃ env O S b, Good K H σ env O S ∧ g env = some b ∧ ∀ H', Same H H' → Q b H'
def tT (K : PySem.W.Frag) (f : En → Option (Bool × En)) : TT := fun σ H Q => ∃ env O S b env', Good K H σ env O S ∧ f env = some (b, env') ∧
  ∀ H' O' S', Good K H' σ env' O' S' → Step H H' O O' S S' → Q b H'
/-- an expression that changes nothing: seen; new. One that may change the slots' lists. -/
structure SV (X : Cx) (e : Expr) (g : En → Option D) : Prop where
  pe : PE X e (tV X.K g)
structure SX (X : Cx) (e : Expr) (g : En → Option D) : Prop where
  pe : PE X e (tX X.K g)
structure SE (X : Cx) (e : Expr) (f : En → Option (D × En)) : Prop where
  pe : PE X e (tE X.K f)
structure SVs (X : Cx) (es : List Expr) (g : En → Option (List D)) : Prop where
  pa : PA X es (tVs X.K g)
structure SXs (X : Cx) (es : List Expr) (g : En → Option (List D)) : Prop where
  pa : PA X es (tXs X.K g)
structure SB (X : Cx) (e : Expr) (g : En → Option Bool) : Prop where
  pt : PT X e (tB1 X.K g)
structure ST (X : Cx) (e : Expr) (f : En → Option (Bool × En)) : Prop where
  pt : PT X e (tT X.K f)
structure SWB (X : Cx) (e : Expr) (g : En → Option Bool) : Prop where
  pw : PW X e (tB1 X.K g)
structure SWT (X : Cx) (e : Expr) (f : En → Option (Bool × En)) : Prop where
  pw : PW X e (tT X.K f)

theorem PE.imp {X : Cx} {e : Expr} {t t' : TE} (h : PE X e t) (i : ∀ σ H Q, t' σ H Q → t σ H Q) : PE X e t' := ⟨fun pins s σ H Q I q => h.run pins s σ H Q I (i σ H Q q)⟩
theorem PA.imp {X : Cx} {e : List Expr} {t t' : TA} (h : PA X e t) (i : ∀ σ H Q, t' σ H Q → t σ H Q) : PA X e t' := ⟨fun pos pins s σ H Q I q => h.run pos pins s σ H Q I (i σ H Q q)⟩
theorem PT.imp {X : Cx} {e : Expr} {t t' : TT} (h : PT X e t) (i : ∀ σ H Q, t' σ H Q → t σ H Q) : PT X e t' := ⟨fun pins s σ H Q I q => h.run pins s σ H Q I (i σ H Q q)⟩
theorem PW.imp {X : Cx} {e : Expr} {t t' : TT} (h : PW X e t) (i : ∀ σ H Q, t' σ H Q → t σ H Q) : PW X e t' := ⟨fun wh pins s σ H Q I q => h.run wh pins s σ H Q I (i σ H Q q)⟩
theorem PS.imp {X : Cx} {e : Stmt} {t t' : TS} (h : PS X e t) (i : ∀ D σ H, t' D σ H → t D σ H) : PS X e t' := ⟨fun pins s σ H D I q => h.run pins s σ H D I (i D σ H q)⟩
theorem PSs.imp {X : Cx} {e : List Stmt} {t t' : TS} (h : PSs X e t) (i : ∀ D σ H, t' D σ H → t D σ H) : PSs X e t' := ⟨fun pins s σ H D I q => h.run pins s σ H D I (i D σ H q)⟩

/-! ### from one to another -/
def cp (g : En → Option D) : En → Option D := fun env => (g env).bind fun d => if noOwn d then some d else none
def up (g : En → Option D) : En → Option (D × En) := fun env => (g env).map fun d => (d, env)
def upB (g : En → Option Bool) : En → Option (Bool × En) := fun env => (g env).map fun d => (d, env)
def asB : D → Option Bool
  | .bl b => some b
  | _ => none
def tst (g : En → Option D) : En → Option Bool := fun env => (g env).bind asB
def tstE (f : En → Option (D × En)) : En → Option (Bool × En) := fun env => (f env).bind fun p => (asB p.1).map fun b => (b, p.2)
section
variable {X : Cx} {e : Expr} {es : List Expr} {g : En → Option D} {gs : En → Option (List D)} {f : En → Option (D × En)}
theorem Rep.nj {K : PySem.W.Frag} {H : Hp} {v : V} {d : D} {O S : List Addr} (r : Rep K H v d O S) : d ≠ .jnk := fun z => by subst z; exact nomatch r
theorem Fv.nj {K : PySem.W.Frag} {H H' : Hp} {v : V} {d : D} {S : List Addr} (r : Fv K H H' v d S) : d ≠ .jnk := let ⟨_, _, r, _⟩ := r; r.nj
theorem RepL.nj {K : PySem.W.Frag} {H : Hp} : ∀ {v : List V} {d : List D} {O S : List Addr}, RepL K H v d O S → ∀ x ∈ d, x ≠ .jnk
  | _, _, _, _, .nil, _, m => nomatch m
  | _, _, _, _, .cons h r, x, m => by
    rcases List.mem_cons.mp m with e | m
    · exact e ▸ h.nj
    · exact RepL.nj r x m
theorem SX.sv (h : SX X e g) : SV X e g := ⟨PE.imp h.pe fun σ H Q q => by
  obtain ⟨env, O, S, d, gd, hg, q⟩ := q
  exact ⟨env, O, S, d, gd, hg, fun v H' sm x => q v H' sm x.vw⟩⟩
theorem SV.sx (h : SV X e g) : SX X e (cp g) := ⟨PE.imp h.pe fun σ H Q q => by
  obtain ⟨env, O, S, d, gd, hg, q⟩ := q
  unfold cp at hg
  obtain ⟨d0, h0, h1⟩ := Option.bind_eq_some_iff.mp hg
  by_cases n : noOwn d0 = true
  · rw [if_pos n] at h1
    cases h1
    exact ⟨env, O, S, _, gd, h0, fun v H' sm x => q v H' sm (x.fv n)⟩
  · rw [if_neg n] at h1; cases h1⟩
theorem SX.se (h : SX X e g) : SE X e (up g) := ⟨PE.imp h.pe fun σ H Q q => by
  obtain ⟨env, O, S, d, env', gd, hg, q⟩ := q
  unfold up at hg
  obtain ⟨d0, h0, h1⟩ := Option.map_eq_some_iff.mp hg
  cases h1
  refine ⟨env, O, S, _, gd, h0, fun v H' sm x => ?_⟩
  obtain ⟨O', S', g', st⟩ := gd.held1 sm x
  exact q v H' O' S' x.nj g' st⟩
theorem SV.se (h : SV X e g) : SE X e (up (cp g)) := h.sx.se
theorem SVs.nil : SVs X [] (fun _ => some []) := ⟨PA.imp pa_nil fun σ H Q q => by
  obtain ⟨env, O, S, d, gd, hg, q⟩ := q
  cases hg
  exact q [] H (Same.refl H) ⟨[], [], .nil, (fun a m => nomatch m), (fun a m => nomatch m)⟩⟩
def consG (g : En → Option D) (gs : En → Option (List D)) : En → Option (List D) := fun env => (g env).bind fun d => (gs env).map fun ds => d :: ds
theorem SVs.cons (h : SV X e g) (hs : SVs X es gs) (hst : starEach (e :: es) X.env = (false, eval e X.env) :: starEach es X.env := by rfl) : SVs X (e :: es) (consG g gs) := ⟨PA.imp (pa_cons h.pe hs.pa hst) fun σ H Q q => by
  obtain ⟨env, O, S, ds, gd, hg, q⟩ := q
  unfold consG at hg
  obtain ⟨d, h0, h1⟩ := Option.bind_eq_some_iff.mp hg
  obtain ⟨ds', h2, h3⟩ := Option.map_eq_some_iff.mp h1
  cases h3
  refine ⟨env, O, S, d, gd, h0, fun v H' sm x => ?_⟩
  refine ⟨env, O, S, ds', gd.same sm, h2, fun vs H2 sm2 y => ?_⟩
  exact q _ H2 (sm.trans sm2) (VwL.cons sm sm2 x y)⟩
theorem SXs.nil : SXs X [] (fun _ => some []) := ⟨PA.imp pa_nil fun σ H Q q => by
  obtain ⟨env, O, S, d, gd, hg, q⟩ := q
  cases hg
  exact q [] H (Same.refl H) ⟨[], [], .nil, fun a => Nat.zero_le _, (fun a m => nomatch m), (fun a m => nomatch m)⟩⟩
theorem SXs.cons (h : SX X e g) (hs : SXs X es gs) (hst : starEach (e :: es) X.env = (false, eval e X.env) :: starEach es X.env := by rfl) : SXs X (e :: es) (consG g gs) := ⟨PA.imp (pa_cons h.pe hs.pa hst) fun σ H Q q => by
  obtain ⟨env, O, S, ds, gd, hg, q⟩ := q
  unfold consG at hg
  obtain ⟨d, h0, h1⟩ := Option.bind_eq_some_iff.mp hg
  obtain ⟨ds', h2, h3⟩ := Option.map_eq_some_iff.mp h1
  cases h3
  refine ⟨env, O, S, d, gd, h0, fun v H' sm x => ?_⟩
  refine ⟨env, O, S, ds', gd.same sm, h2, fun vs H2 sm2 y => ?_⟩
  exact q _ H2 (sm.trans sm2) (FvL.cons sm sm2 gd.snone x y)⟩

/-! ### names, constants -/
def nj : D → Option D
  | .jnk => none
  | d => some d
def rd (i : Nat) : En → Option D := fun env => (env[i]?).bind nj
theorem nj_some {d e : D} (h : nj d = some e) : d = e ∧ d ≠ .jnk := by
  cases d <;> first | (cases h; exact ⟨rfl, fun z => nomatch z⟩) | cases h
theorem rd_some {i : Nat} {env : En} {d : D} (h : rd i env = some d) : env[i]? = some d ∧ d ≠ .jnk := by
  obtain ⟨e, h1, h2⟩ := Option.bind_eq_some_iff.mp h
  obtain ⟨rfl, n⟩ := nj_some h2
  exact ⟨h1, n⟩
theorem SV.name (i : Nat) {x : Str} {pos : Pos} (hN : X.N[i]? = some x := by rfl) (hv : Vis X.env.scope x := by first | exact Or.inl rfl | exact Or.inr (Or.inl rfl) | exact Or.inr (Or.inr rfl)) (hd : (x == ("__debug__" : Str)) = false := by decide)
    (hcd : (x == ("__classdict__" : Str)) = false := by decide) : SV X (.Name x pos) (rd i) := ⟨PE.imp (pe_var hN hv hd hcd) fun σ H Q q => by
  obtain ⟨env, O, S, d, gd, hg, q⟩ := q
  obtain ⟨h1, h2⟩ := rd_some hg
  obtain ⟨v, O1, S1, O2, S2, e1, r, _, hc, hs, _⟩ := gd.sl.take h1 h2
  refine ⟨v, e1, q v H (Same.refl H) ⟨O1, S1, r, fun a m => .inl ?_, fun a m => .inl (hs a m)⟩⟩
  have := hc a; have := cpos.mp m; exact cpos.mpr (by omega)⟩
/-- a plain value -/
def scV : D → Option V
  | .non => some .non
  | .bl b => some (.bl b)
  | .int i => some (.int i)
  | .str z => some (.str z)
  | _ => none
theorem scV_fv {K : PySem.W.Frag} {H H' : Hp} {d : D} {v : V} {S : List Addr} (h : scV d = some v) : Fv K H H' v d S := by
  refine ⟨[], [], ?_, fun a => Nat.zero_le _, (fun a m => nomatch m), (fun a m => nomatch m)⟩
  cases d <;> cases h
  · exact .non
  · exact .bl _
  · exact .int _
  · exact .str _
theorem sx_const {v : V} {d : D} (h : PE X e (tC v)) (hd : scV d = some v) : SX X e (fun _ => some d) := ⟨PE.imp h fun σ H Q q => by
  obtain ⟨env, O, S, d, gd, hg, q⟩ := q
  cases hg
  exact q v H (Same.refl H) (scV_fv hd)⟩
theorem SX.int {i : Int} {j : Nat} {pos : Pos} : SX X (.Constant (.int i) j pos) (fun _ => some (.int i)) := sx_const pe_int rfl
theorem SX.bl {b : Bool} {j : Nat} {pos : Pos} : SX X (.Constant (.bool b) j pos) (fun _ => some (.bl b)) := sx_const pe_bl rfl
theorem SX.non {j : Nat} {pos : Pos} : SX X (.Constant .none j pos) (fun _ => some .non) := sx_const pe_non rfl
theorem SX.str {z : Str} {j : Nat} {pos : Pos} : SX X (.Constant (.str z) j pos) (fun _ => some (.str z)) := sx_const pe_str rfl
end

/-! ### by values -/
structure OpN (X : Cx) (f : Value → Value → Sem Value) (k : D → D → Option D) : Prop where
  ex : ∃ r, OpR X f r ∧ ∀ (H : Hp) (x y : V) (dx dy z : D) (O1 S1 O2 S2 : List Addr) (Q : VK), Rep X.K H x dx O1 S1 → Rep X.K H y dy O2 S2 → k dx dy = some z →
    (∀ v H', Same H H' → Fv X.K H H' v z (S1 ++ S2) → Q v H') → r x y H Q
structure UnN (X : Cx) (f : Value → Sem Value) (k : D → Option D) : Prop where
  ex : ∃ r, UnR X f r ∧ ∀ (H : Hp) (x : V) (dx z : D) (O1 S1 : List Addr) (Q : VK), Rep X.K H x dx O1 S1 → k dx = some z → (∀ v H', Same H H' → Fv X.K H H' v z S1 → Q v H') → r x H Q
structure CallN (X : Cx) (f : Value) (k : List D → Option D) : Prop where
  ex : ∃ r, CallR X f r ∧ ∀ (H : Hp) (xs : List V) (ds : List D) (z : D) (O1 S1 : List Addr) (Q : VK), RepL X.K H xs ds O1 S1 → k ds = some z → (∀ v H', Same H H' → Fv X.K H H' v z S1 → Q v H') → r xs H Q
structure IxN (X : Cx) (k : D → D → Option D) : Prop where
  ex : ∃ r, IxR X r ∧ ∀ (H : Hp) (x y : V) (dx dy z : D) (O1 S1 O2 S2 : List Addr) (Q : VK), Rep X.K H x dx O1 S1 → Rep X.K H y dy O2 S2 → k dx dy = some z →
    (∀ v H' O S, Same H H' → Rep X.K H' v z O S → (∀ a ∈ O, a ∈ O1) → (∀ a ∈ S, a ∈ S1) → Q v H') → r x y H Q
def bin2 (k : D → D → Option D) (ga gb : En → Option D) : En → Option D := fun env => (ga env).bind fun x => (gb env).bind fun y => k x y
def un1 (k : D → Option D) (ga : En → Option D) : En → Option D := fun env => (ga env).bind k
def callK (k : List D → Option D) (gs : En → Option (List D)) : En → Option D := fun env => (gs env).bind k
section
variable {X : Cx} {a b e : Expr} {es : List Expr} {ga gb g : En → Option D} {gs : En → Option (List D)} {pos : Pos} {k : D → D → Option D}
/-- two values that are seen, one behind the other -/
theorem two_seen {σ : L2.St} {H : Hp} {Q : VK} (h : tX X.K (bin2 k ga gb) σ H Q) {r : R2}
    (hr : ∀ (H : Hp) (x y : V) (dx dy z : D) (O1 S1 O2 S2 : List Addr) (Q : VK), Rep X.K H x dx O1 S1 → Rep X.K H y dy O2 S2 → k dx dy = some z → (∀ v H', Same H H' → Fv X.K H H' v z (S1 ++ S2) → Q v H') → r x y H Q) :
    tOp r (tV X.K ga) (tV X.K gb) σ H Q := by
  obtain ⟨env, O, S, z, gd, hg, q⟩ := h
  unfold bin2 at hg
  obtain ⟨dx, h0, h1⟩ := Option.bind_eq_some_iff.mp hg
  obtain ⟨dy, h2, h3⟩ := Option.bind_eq_some_iff.mp h1
  refine ⟨env, O, S, dx, gd, h0, fun x H1 sm1 vx => ?_⟩
  refine ⟨env, O, S, dy, gd.same sm1, h2, fun y H2 sm2 vy => ?_⟩
  obtain ⟨O1, S1, r1, ho1, hs1⟩ := vx.up sm2
  obtain ⟨O2, S2, r2, ho2, hs2⟩ := vy.base sm1
  refine hr H2 x y dx dy z O1 S1 O2 S2 Q r1 r2 h3 fun v H' sm3 w => ?_
  refine q v H' ((sm1.trans sm2).trans sm3) (Fv.mono (w.base (sm1.trans sm2)) fun c m => ?_)
  rcases List.mem_append.mp m with m | m
  · exact hs1 c m
  · exact hs2 c m
theorem SX.op {op : Operator} (ho : OpN X (binaryOp op) k) (ha : SV X a ga) (hb : SV X b gb) : SX X (.BinOp a op b pos) (bin2 k ga gb) := by
  obtain ⟨r, h1, h2⟩ := ho.ex
  exact ⟨PE.imp (pe_op h1 ha.pe hb.pe) fun σ H Q q => two_seen q h2⟩
theorem SX.cmp {op : CmpOp} (ho : OpN X (compareOp op) k) (ha : SV X a ga) (hb : SV X b gb) (hm : behindInMarks op b = false) : SX X (.Compare a [op] [b] pos) (bin2 k ga gb) := by
  obtain ⟨r, h1, h2⟩ := ho.ex
  exact ⟨PE.imp (pe_cmpR h1 ha.pe hb.pe hm) fun σ H Q q => two_seen q h2⟩
theorem tX_bool {g : En → Option D} {σ : L2.St} {H : Hp} {Q : Bool → Hp → Prop} (h : tB1 X.K (tst g) σ H Q) : tX X.K g σ H (fun x H' => ∃ k, x = .bl k ∧ Q k H') := by
  obtain ⟨env, O, S, b, gd, hg, q⟩ := h
  obtain ⟨d, h0, h1⟩ := Option.bind_eq_some_iff.mp hg
  have e : d = .bl b := by cases d <;> cases h1; rfl
  subst e
  refine ⟨env, O, S, _, gd, h0, fun v H' sm x => ?_⟩
  obtain ⟨O1, S1, r, _⟩ := x
  cases r
  exact ⟨b, rfl, q H' sm⟩
theorem tV_bool {g : En → Option D} {σ : L2.St} {H : Hp} {Q : Bool → Hp → Prop} (h : tB1 X.K (tst g) σ H Q) : tV X.K g σ H (fun x H' => ∃ k, x = .bl k ∧ Q k H') := by
  obtain ⟨env, O, S, b, gd, hg, q⟩ := h
  obtain ⟨d, h0, h1⟩ := Option.bind_eq_some_iff.mp hg
  have e : d = .bl b := by cases d <;> cases h1; rfl
  subst e
  refine ⟨env, O, S, _, gd, h0, fun v H' sm x => ?_⟩
  obtain ⟨O1, S1, r, _⟩ := x
  cases r
  exact ⟨b, rfl, q H' sm⟩
theorem SB.cmp {op : CmpOp} (ho : OpN X (compareOp op) k) (ha : SV X a ga) (hb : SV X b gb) (hm : behindInMarks op b = false) : SB X (.Compare a [op] [b] pos) (tst (bin2 k ga gb)) := by
  obtain ⟨r, h1, h2⟩ := ho.ex
  exact ⟨PT.imp (pt_cmpR h1 ha.pe hb.pe hm) fun σ H Q q => two_seen (tX_bool q) h2⟩
/-- any expression whose value is a bool -/
theorem SB.val (h : SV X e g) (he : ∀ whole, isTrue e X.env whole = (do let v ← whole; standAt e.pos; holding [v] (truthy v)) := by intro _; rfl) : SB X e (tst g) :=
  ⟨PT.imp (pt_val h.pe he) fun σ H Q q => tV_bool q⟩
theorem SX.un {op : UnaryOp} {k : D → Option D} (ho : UnN X (unaryOp op) k) (ha : SV X a ga) : SX X (.UnaryOp op a pos) (un1 k ga) := by
  obtain ⟨r, h1, h2⟩ := ho.ex
  refine ⟨PE.imp (pe_un h1 ha.pe) fun σ H Q q => ?_⟩
  obtain ⟨env, O, S, z, gd, hg, q⟩ := q
  obtain ⟨dx, h0, h3⟩ := Option.bind_eq_some_iff.mp hg
  refine ⟨env, O, S, dx, gd, h0, fun x H1 sm1 vx => ?_⟩
  obtain ⟨O1, S1, r1, ho1, hs1⟩ := vx
  exact h2 H1 x dx z O1 S1 Q r1 h3 fun v H' sm w => q v H' (sm1.trans sm) (Fv.mono (w.base sm1) hs1)
theorem SX.callB {x : Str} {id : String} {k : List D → Option D} {npos : Pos} (ho : CallN X (.builtin id) k) (hg : Gl X x) (hm : X.mg x = none) (hv : bootBuiltins x = some (.builtin id)) (ha : SVs X (e :: es) gs) (hn : x ≠ "__name__" := by decide) (hdb : (x == ("__debug__" : Str)) = false := by decide)
    (hplain : starEach (e :: es) X.env = (false, eval e X.env) :: starEach es X.env := by rfl) (hpl : (backTo pos (starEach es X.env)).any (·.1) = false := by rfl) :
    SX X (.Call (.Name x npos) (e :: es) [] pos) (callK k gs) := by
  obtain ⟨r, h1, h2⟩ := ho.ex
  refine ⟨PE.imp (pe_callB h1 hg hm hv ha.pa hn hdb hplain hpl) fun σ H Q q => ?_⟩
  obtain ⟨env, O, S, z, gd, hg, q⟩ := q
  obtain ⟨dx, h0, h3⟩ := Option.bind_eq_some_iff.mp hg
  refine ⟨env, O, S, dx, gd, h0, fun x H1 sm1 vx => ?_⟩
  obtain ⟨O1, S1, r1, ho1, hs1⟩ := vx
  exact h2 H1 x dx z O1 S1 Q r1 h3 fun v H' sm w => q v H' (sm1.trans sm) (Fv.mono (w.base sm1) hs1)
theorem SX.callTy {x : Str} {T : String} {k : List D → Option D} {npos : Pos} (ho : CallN X (.type T) k) (hg : Gl X x) (hm : X.mg x = none) (hv : bootBuiltins x = some (.type T)) (ha : SVs X (e :: es) gs) (hn : x ≠ "__name__" := by decide) (hdb : (x == ("__debug__" : Str)) = false := by decide)
    (hplain : starEach (e :: es) X.env = (false, eval e X.env) :: starEach es X.env := by rfl) (hpl : (backTo pos (starEach es X.env)).any (·.1) = false := by rfl) :
    SX X (.Call (.Name x npos) (e :: es) [] pos) (callK k gs) := by
  obtain ⟨r, h1, h2⟩ := ho.ex
  refine ⟨PE.imp (pe_callTy h1 hg hm hv ha.pa hn hdb hplain hpl) fun σ H Q q => ?_⟩
  obtain ⟨env, O, S, z, gd, hg, q⟩ := q
  obtain ⟨dx, h0, h3⟩ := Option.bind_eq_some_iff.mp hg
  refine ⟨env, O, S, dx, gd, h0, fun x H1 sm1 vx => ?_⟩
  obtain ⟨O1, S1, r1, ho1, hs1⟩ := vx
  exact h2 H1 x dx z O1 S1 Q r1 h3 fun v H' sm w => q v H' (sm1.trans sm) (Fv.mono (w.base sm1) hs1)
theorem SV.ix {k : D → D → Option D} (ho : IxN X k) (ha : SV X a ga) (hb : SV X b gb) (hs : PlainIx b := by exact fun _ _ => rfl) : SV X (.Subscript a b pos) (bin2 k ga gb) := by
  obtain ⟨r, h1, h2⟩ := ho.ex
  refine ⟨PE.imp (pe_ix h1 ha.pe hb.pe hs) fun σ H Q q => ?_⟩
  obtain ⟨env, O, S, z, gd, hg, q⟩ := q
  obtain ⟨dx, h0, h4⟩ := Option.bind_eq_some_iff.mp hg
  obtain ⟨dy, h5, h3⟩ := Option.bind_eq_some_iff.mp h4
  refine ⟨env, O, S, dx, gd, h0, fun x H1 sm1 vx => ?_⟩
  refine ⟨env, O, S, dy, gd.same sm1, h5, fun y H2 sm2 vy => ?_⟩
  obtain ⟨O1, S1, r1, ho1, hs1⟩ := vx.up sm2
  obtain ⟨O2, S2, r2, ho2, hs2⟩ := vy.base sm1
  refine h2 H2 x y dx dy z O1 S1 O2 S2 Q r1 r2 h3 fun v H' O' S' sm3 w h6 h7 => ?_
  exact q v H' ((sm1.trans sm2).trans sm3) ⟨O', S', w, fun c m => ho1 c (h6 c m), fun c m => hs1 c (h7 c m)⟩
/-! ### displays -/
def tupG (gs : En → Option (List D)) : En → Option D := fun env => (gs env).bind fun ds => if ds.length ≤ sizeLine then some (.tup ds) else none
def lstG (gs : En → Option (List D)) : En → Option D := fun env => (gs env).bind fun ds => if ds.length ≤ sizeLine then some (.lst true ds) else none
theorem SV.tup {x1 : Nat} (h : SVs X es gs) : SV X (.Tuple es x1 pos) (tupG gs) := ⟨PE.imp (pe_tup h.pa) fun σ H Q q => by
  obtain ⟨env, O, S, z, gd, hg, q⟩ := q
  obtain ⟨ds, h0, h1⟩ := Option.bind_eq_some_iff.mp hg
  by_cases n : ds.length ≤ sizeLine
  · rw [if_pos n] at h1
    cases h1
    refine ⟨env, O, S, ds, gd, h0, fun vs H1 sm x => ?_⟩
    obtain ⟨O1, S1, r, ho, hs⟩ := x
    refine ⟨by rw [r.length]; exact n, fun p np => ?_⟩
    have s2 := upd_same' (o := .tup vs) np
    exact q _ _ (sm.trans s2) ⟨O1, S1, .tup (SqT.of upd_same) (r.same s2), ho, hs⟩
  · rw [if_neg n] at h1; cases h1⟩
theorem SX.tup {x1 : Nat} (h : SXs X es gs) : SX X (.Tuple es x1 pos) (tupG gs) := ⟨PE.imp (pe_tup h.pa) fun σ H Q q => by
  obtain ⟨env, O, S, z, gd, hg, q⟩ := q
  obtain ⟨ds, h0, h1⟩ := Option.bind_eq_some_iff.mp hg
  by_cases n : ds.length ≤ sizeLine
  · rw [if_pos n] at h1
    cases h1
    refine ⟨env, O, S, ds, gd, h0, fun vs H1 sm x => ?_⟩
    obtain ⟨O1, S1, r, nd, ho, hs⟩ := x
    refine ⟨by rw [r.length]; exact n, fun p np => ?_⟩
    have s2 := upd_same' (o := .tup vs) np
    exact q _ _ (sm.trans s2) ⟨O1, S1, .tup (SqT.of upd_same) (r.same s2), nd, ho, hs⟩
  · rw [if_neg n] at h1; cases h1⟩
theorem cons_new {K : PySem.W.Frag} {H H1 : Hp} {p : Addr} {vs : List V} {ds : List D} {S : List Addr} (sm : Same H H1) (np : H1 p = none) (x : FvL K H H1 vs ds S) (hS : ∀ a ∈ S, H a ≠ none) : Fv K H (upd H1 p (.lst vs)) (.ref p) (.lst true ds) S := by
  obtain ⟨O1, S1, r, nd, ho, hs⟩ := x
  have s2 := upd_same' (o := .lst vs) np
  have n1 : p ∉ O1 := fun m => by
    obtain ⟨o, e, _⟩ := r.wok p m
    rw [np] at e; cases e
  have n2 : p ∉ S1 := fun m => by
    obtain ⟨o, e⟩ := r.sok p m
    rw [np] at e; cases e
  refine ⟨p :: O1, S1, .own upd_same (r.same s2), fun a => ?_, fun a m => ?_, fun a m => ⟨(hs a m).1, ?_⟩⟩
  · rw [List.count_cons]
    by_cases e : p = a
    · subst e
      rw [cnull.mp n1]; simp
    · have hb : (p == a) = false := beq_eq_false_iff_ne.mpr e
      rw [hb]; simpa using nd a
  · rcases List.mem_cons.mp m with e | m
    · rw [e]; exact sm.free np
    · exact ho a m
  · rw [List.count_cons]
    have hb : (p == a) = false := beq_eq_false_iff_ne.mpr fun e => n2 (e ▸ m)
    rw [hb]; simpa using (hs a m).2
theorem SX.lst (h : SXs X es gs) : SX X (.List es pos) (lstG gs) := ⟨PE.imp (pe_lst h.pa) fun σ H Q q => by
  obtain ⟨env, O, S, z, gd, hg, q⟩ := q
  obtain ⟨ds, h0, h1⟩ := Option.bind_eq_some_iff.mp hg
  by_cases n : ds.length ≤ sizeLine
  · rw [if_pos n] at h1
    cases h1
    refine ⟨env, O, S, ds, gd, h0, fun vs H1 sm x => ?_⟩
    have hl : vs.length = ds.length := by obtain ⟨_, _, r, _⟩ := x; exact r.length
    refine ⟨by rw [hl]; exact n, fun p np => ?_⟩
    exact q _ _ (sm.trans (upd_same' np)) (cons_new sm np x gd.snone)
  · rw [if_neg n] at h1; cases h1⟩
/-! ### tests -/
def andB (ga gb : En → Option Bool) : En → Option Bool := fun env => (ga env).bind fun c => if c then gb env else some false
def orB (ga gb : En → Option Bool) : En → Option Bool := fun env => (ga env).bind fun c => if c then some true else gb env
def notB (ga : En → Option Bool) : En → Option Bool := fun env => (ga env).map fun c => !c
variable {ta tb : En → Option Bool} {rest : List Expr}
theorem SB.and1 (ha : SB X a ta) : SWB X (.BoolOp .And [a] pos) ta := ⟨pw_and1 ha.pt⟩
theorem SB.or1 (ha : SB X a ta) : SWB X (.BoolOp .Or [a] pos) ta := ⟨pw_or1 ha.pt⟩
theorem SB.and (ha : SB X a ta) (hb : SWB X (.BoolOp .And (b :: rest) pos) tb) : SWB X (.BoolOp .And (a :: b :: rest) pos) (andB ta tb) := ⟨PW.imp (pw_and ha.pt hb.pw) fun σ H Q q => by
  obtain ⟨env, O, S, z, gd, hg, q⟩ := q
  obtain ⟨c, h0, h1⟩ := Option.bind_eq_some_iff.mp hg
  refine ⟨env, O, S, c, gd, h0, fun H1 sm => ?_⟩
  cases c with
  | true => exact ⟨env, O, S, z, gd.same sm, h1, fun H2 sm2 => q H2 (sm.trans sm2)⟩
  | false => cases h1; exact q H1 sm⟩
theorem SB.or (ha : SB X a ta) (hb : SWB X (.BoolOp .Or (b :: rest) pos) tb) : SWB X (.BoolOp .Or (a :: b :: rest) pos) (orB ta tb) := ⟨PW.imp (pw_or ha.pt hb.pw) fun σ H Q q => by
  obtain ⟨env, O, S, z, gd, hg, q⟩ := q
  obtain ⟨c, h0, h1⟩ := Option.bind_eq_some_iff.mp hg
  refine ⟨env, O, S, c, gd, h0, fun H1 sm => ?_⟩
  cases c with
  | true => cases h1; exact q H1 sm
  | false => exact ⟨env, O, S, z, gd.same sm, h1, fun H2 sm2 => q H2 (sm.trans sm2)⟩⟩
theorem SWB.sb (h : SWB X e ta) : SB X e ta := ⟨h.pw.pt⟩
theorem SB.not (ha : SB X a ta) : SB X (.UnaryOp .Not a pos) (notB ta) := ⟨PT.imp (pt_not ha.pt) fun σ H Q q => by
  obtain ⟨env, O, S, z, gd, hg, q⟩ := q
  obtain ⟨c, h0, h1⟩ := Option.map_eq_some_iff.mp hg
  cases h1
  exact ⟨env, O, S, c, gd, h0, fun H1 sm => q H1 sm⟩⟩
/-! as values -/
def andV (ga gb : En → Option D) : En → Option D := fun env => (ga env).bind fun x => (asB x).bind fun c => if c then gb env else some (.bl false)
def orV (ga gb : En → Option D) : En → Option D := fun env => (ga env).bind fun x => (asB x).bind fun c => if c then some (.bl true) else gb env
def notV (ga : En → Option D) : En → Option D := fun env => (ga env).bind fun x => (asB x).map fun c => .bl !c
theorem asB_some {d : D} {b : Bool} (h : asB d = some b) : d = .bl b := by cases d <;> cases h; rfl
theorem SX.one {op : BoolOp} (h : SX X a ga) : SX X (.BoolOp op [a] pos) ga := ⟨pe_one h.pe⟩
theorem SX.and (ha : SV X a ga) (hb : SX X (.BoolOp .And (b :: rest) pos) gb) : SX X (.BoolOp .And (a :: b :: rest) pos) (andV ga gb) := ⟨PE.imp (pe_and ha.pe hb.pe) fun σ H Q q => by
  obtain ⟨env, O, S, z, gd, hg, q⟩ := q
  obtain ⟨x, h0, h1⟩ := Option.bind_eq_some_iff.mp hg
  obtain ⟨c, h2, h3⟩ := Option.bind_eq_some_iff.mp h1
  have e := asB_some h2
  subst e
  refine ⟨env, O, S, _, gd, h0, fun v H1 sm x => ?_⟩
  obtain ⟨O1, S1, r, _⟩ := x
  cases r
  refine ⟨c, rfl, ?_⟩
  cases c with
  | true => exact ⟨env, O, S, z, gd.same sm, h3, fun v H2 sm2 w => q v H2 (sm.trans sm2) (w.base sm)⟩
  | false => cases h3; exact q _ H1 sm (scV_fv rfl)⟩
theorem SX.or (ha : SV X a ga) (hb : SX X (.BoolOp .Or (b :: rest) pos) gb) : SX X (.BoolOp .Or (a :: b :: rest) pos) (orV ga gb) := ⟨PE.imp (pe_or ha.pe hb.pe) fun σ H Q q => by
  obtain ⟨env, O, S, z, gd, hg, q⟩ := q
  obtain ⟨x, h0, h1⟩ := Option.bind_eq_some_iff.mp hg
  obtain ⟨c, h2, h3⟩ := Option.bind_eq_some_iff.mp h1
  have e := asB_some h2
  subst e
  refine ⟨env, O, S, _, gd, h0, fun v H1 sm x => ?_⟩
  obtain ⟨O1, S1, r, _⟩ := x
  cases r
  refine ⟨c, rfl, ?_⟩
  cases c with
  | false => exact ⟨env, O, S, z, gd.same sm, h3, fun v H2 sm2 w => q v H2 (sm.trans sm2) (w.base sm)⟩
  | true => cases h3; exact q _ H1 sm (scV_fv rfl)⟩
theorem SX.not (ha : SV X a ga) : SX X (.UnaryOp .Not a pos) (notV ga) := ⟨PE.imp (pe_not ha.pe) fun σ H Q q => by
  obtain ⟨env, O, S, z, gd, hg, q⟩ := q
  obtain ⟨x, h0, h1⟩ := Option.bind_eq_some_iff.mp hg
  obtain ⟨c, h2, h3⟩ := Option.map_eq_some_iff.mp h1
  have e := asB_some h2
  subst e
  cases h3
  refine ⟨env, O, S, _, gd, h0, fun v H1 sm x => ?_⟩
  obtain ⟨O1, S1, r, _⟩ := x
  cases r
  exact ⟨c, rfl, q _ H1 sm (scV_fv rfl)⟩⟩
def ifV (t : En → Option Bool) (ga gb : En → Option D) : En → Option D := fun env => (t env).bind fun c => if c then ga env else gb env
theorem SX.ifExp {c : Expr} (hc : SB X c ta) (ha : SX X a ga) (hb : SX X b gb) : SX X (.IfExp c a b pos) (ifV ta ga gb) := ⟨PE.imp (pe_ifExp hc.pt ha.pe hb.pe) fun σ H Q q => by
  obtain ⟨env, O, S, z, gd, hg, q⟩ := q
  obtain ⟨c, h0, h1⟩ := Option.bind_eq_some_iff.mp hg
  refine ⟨env, O, S, c, gd, h0, fun H1 sm => ?_⟩
  cases c with
  | true => exact ⟨env, O, S, z, gd.same sm, h1, fun v H2 sm2 w => q v H2 (sm.trans sm2) (w.base sm)⟩
  | false => exact ⟨env, O, S, z, gd.same sm, h1, fun v H2 sm2 w => q v H2 (sm.trans sm2) (w.base sm)⟩⟩
end
end LT

set_option Elab.async false
set_option linter.all false
set_option maxRecDepth 100000
set_option maxHeartbeats 1000000
namespace LT
open PySem PySem.Spec PyProof.Rows L2
/-! ### data -/
def kids : D → Option (List D)
  | .tup xs => some xs
  | .lst _ xs => some xs
  | .frl xs => some xs
  | _ => none
/-- its items, where nothing in them is owned -/
def kidsN (d : D) : Option (List D) := (kids d).bind fun xs => if noOwns xs then some xs else none
def intsD : List D → Option (List Int)
  | [] => some []
  | .int i :: r => (intsD r).map (i :: ·)
  | _ => none
def blsD : List D → Option (List Bool)
  | [] => some []
  | .bl i :: r => (blsD r).map (i :: ·)
  | _ => none
def scVs : List D → Option (List V)
  | [] => some []
  | d :: r => (scV d).bind fun v => (scVs r).map (v :: ·)
theorem intsD_map : ∀ ns : List Int, intsD (ns.map D.int) = some ns
  | [] => rfl
  | n :: r => by show (intsD (r.map D.int)).map (n :: ·) = _; rw [intsD_map r]; rfl
theorem blsD_map : ∀ ns : List Bool, blsD (ns.map D.bl) = some ns
  | [] => rfl
  | n :: r => by show (blsD (r.map D.bl)).map (n :: ·) = _; rw [blsD_map r]; rfl
theorem scVs_map : ∀ ns : List Int, scVs (ns.map D.int) = some (ns.map V.int)
  | [] => rfl
  | n :: r => by show ((some (V.int n)).bind fun v => (scVs (r.map D.int)).map (v :: ·)) = _; rw [scVs_map r]; rfl
mutual
def pd : D → PyData
  | .jnk => .none
  | .non => .none
  | .bl b => .bool b
  | .int i => .int i
  | .str z => .str z
  | .tup xs => .tuple (pds xs)
  | .lst _ xs => .list (pds xs)
  | .frl xs => .list (pds xs)
def pds : List D → List PyData
  | [] => []
  | x :: r => pd x :: pds r
end
mutual
/-- may be compared: not deeper than n -/
def okd : Nat → D → Bool
  | _, .jnk => false
  | _, .non => true
  | _, .bl _ => true
  | _, .int _ => true
  | _, .str z => PyData.canLay0 (.str z)
  | 0, .tup _ => false
  | 0, .lst _ _ => false
  | 0, .frl _ => false
  | n + 1, .tup xs => okds n xs
  | n + 1, .lst _ xs => okds n xs
  | n + 1, .frl xs => okds n xs
def okds : Nat → List D → Bool
  | _, [] => true
  | n, x :: r => okd n x && okds n r
end
theorem okds_map {α : Type} {f : α → D} {n : Nat} (h : ∀ x, okd n (f x) = true) : ∀ l : List α, okds n (l.map f) = true
  | [] => by rw [List.map_nil, okds]
  | x :: r => by rw [List.map_cons, okds, h x, okds_map h r]; rfl
mutual
theorem okd_shape : ∀ (n : Nat) (d : D), okd n d = true → PyData.canLay0 (pd d) = true ∧ PyData.depth (pd d) ≤ n
  | n, .jnk, h => by simp [okd] at h
  | n, .non, h => ⟨rfl, Nat.zero_le _⟩
  | n, .bl _, h => ⟨rfl, Nat.zero_le _⟩
  | n, .int _, h => ⟨rfl, Nat.zero_le _⟩
  | n, .str z, h => ⟨(by simpa [okd] using h : PyData.canLay0 (.str z) = true), Nat.zero_le _⟩
  | 0, .tup _, h => by simp [okd] at h
  | 0, .lst _ _, h => by simp [okd] at h
  | 0, .frl _, h => by simp [okd] at h
  | n + 1, .tup xs, h => by
    obtain ⟨a, b⟩ := okds_shape n xs (by simpa [okd] using h)
    exact ⟨a, Nat.succ_le_succ b⟩
  | n + 1, .lst _ xs, h => by
    obtain ⟨a, b⟩ := okds_shape n xs (by simpa [okd] using h)
    exact ⟨a, Nat.succ_le_succ b⟩
  | n + 1, .frl xs, h => by
    obtain ⟨a, b⟩ := okds_shape n xs (by simpa [okd] using h)
    exact ⟨a, Nat.succ_le_succ b⟩
theorem okds_shape : ∀ (n : Nat) (d : List D), okds n d = true → PyData.canLayAll0 (pds d) = true ∧ PyData.depthAll (pds d) ≤ n
  | n, [], _ => ⟨rfl, Nat.zero_le _⟩
  | n, x :: r, h => by
    have h := (Bool.and_eq_true _ _).mp (by simpa [okds] using h : (okd n x && okds n r) = true)
    obtain ⟨a, b⟩ := okd_shape n x h.1
    obtain ⟨c, d⟩ := okds_shape n r h.2
    refine ⟨?_, Nat.max_le.mpr ⟨b, d⟩⟩
    show (PyData.canLay0 (pd x) && PyData.canLayAll0 (pds r)) = true
    rw [a, c]; rfl
end
theorem okd_shaped {d : D} (h : okd 9 d = true) : SeqAt.shaped (pd d) = true := by
  obtain ⟨a, b⟩ := okd_shape 9 d h
  unfold SeqAt.shaped
  rw [a, Bool.true_and]
  exact decide_eq_true (Nat.le_trans b (by decide))

section
variable {K : PySem.W.Frag} {H : Hp}
mutual
theorem Rep.dp : ∀ {v : V} {d : D} {O S : List Addr}, Rep K H v d O S → Dp K H v (pd d)
  | _, _, _, _, .non => .non
  | _, _, _, _, .bl b => .bl b
  | _, _, _, _, .int i => .int i
  | _, _, _, _, .str z => .str z
  | _, _, _, _, .tup h r => .tup h (RepL.dp r)
  | _, _, _, _, .own h r => .lst (SqL.of h) (RepL.dp r)
  | _, _, _, _, .shr h r => .lst (SqL.of h) (RepL.dp r)
  | _, _, _, _, .frl h r => .lst h.seq (RepL.dp r)
theorem RepL.dp : ∀ {v : List V} {d : List D} {O S : List Addr}, RepL K H v d O S → DpAll K H v (pds d)
  | _, _, _, _, .nil => .nil
  | _, _, _, _, .cons h r => .cons (Rep.dp h) (RepL.dp r)
end
theorem RepL.append : ∀ {v w : List V} {d e : List D} {O S O2 S2 : List Addr}, RepL K H v d O S → RepL K H w e O2 S2 → RepL K H (v ++ w) (d ++ e) (O ++ O2) (S ++ S2)
  | _, _, _, _, _, _, _, _, .nil, h => h
  | _, _, _, _, _, _, _, _, .cons p r, h => by
    rw [List.append_assoc, List.append_assoc]
    exact .cons p (RepL.append r h)
theorem RepL.ints : ∀ {vs : List V} {ds : List D} {O S : List Addr} {ns : List Int}, RepL K H vs ds O S → intsD ds = some ns → vs = ns.map V.int ∧ ds = ns.map D.int
  | _, _, _, _, _, .nil, h => by cases h; exact ⟨rfl, rfl⟩
  | _, _, _, _, _, .cons (d := d) p r, h => by
    cases d <;> try (cases h; done)
    obtain ⟨ns, h1, h2⟩ := Option.map_eq_some_iff.mp h
    subst h2
    obtain ⟨e1, e2⟩ := RepL.ints r h1
    cases p
    exact ⟨by rw [e1]; rfl, by rw [e2]; rfl⟩
theorem RepL.bls : ∀ {vs : List V} {ds : List D} {O S : List Addr} {ns : List Bool}, RepL K H vs ds O S → blsD ds = some ns → vs = ns.map V.bl ∧ ds = ns.map D.bl
  | _, _, _, _, _, .nil, h => by cases h; exact ⟨rfl, rfl⟩
  | _, _, _, _, _, .cons (d := d) p r, h => by
    cases d <;> try (cases h; done)
    obtain ⟨ns, h1, h2⟩ := Option.map_eq_some_iff.mp h
    subst h2
    obtain ⟨e1, e2⟩ := RepL.bls r h1
    cases p
    exact ⟨by rw [e1]; rfl, by rw [e2]; rfl⟩
theorem Rep.sc {v w : V} {d : D} {O S : List Addr} (r : Rep K H v d O S) (h : scV d = some w) : v = w ∧ flatV v = true := by
  cases r <;> cases h <;> exact ⟨rfl, rfl⟩
theorem RepL.scs : ∀ {vs ws : List V} {ds : List D} {O S : List Addr}, RepL K H vs ds O S → scVs ds = some ws → vs = ws ∧ vs.all flatV = true
  | _, _, _, _, _, .nil, h => by cases h; exact ⟨rfl, rfl⟩
  | _, _, _, _, _, .cons p r, h => by
    obtain ⟨w, h1, h2⟩ := Option.bind_eq_some_iff.mp h
    obtain ⟨ws, h3, h4⟩ := Option.map_eq_some_iff.mp h2
    subst h4
    obtain ⟨e1, f1⟩ := p.sc h1
    obtain ⟨e2, f2⟩ := RepL.scs r h3
    exact ⟨by rw [e1, e2], by rw [List.all_cons, f1, f2]; rfl⟩
theorem Rep.kids {v : V} {d : D} {ds : List D} {O S : List Addr} (r : Rep K H v d O S) (h : kids d = some ds) :
    ∃ a vs O1 S1, v = .ref a ∧ (SqL K H a vs ∨ SqT K H a vs) ∧ RepL K H vs ds O1 S1 ∧ (∀ c ∈ O1, c ∈ O) ∧ ∀ c ∈ S1, c ∈ S := by
  cases r with
  | tup q r => cases h; exact ⟨_, _, _, _, rfl, .inr q, r, fun c m => m, fun c m => m⟩
  | own q r => cases h; exact ⟨_, _, _, _, rfl, .inl (SqL.of q), r, fun c m => List.mem_cons_of_mem _ m, fun c m => m⟩
  | shr q r => cases h; exact ⟨_, _, _, _, rfl, .inl (SqL.of q), r, fun c m => m, fun c m => List.mem_cons_of_mem _ m⟩
  | frl q r => cases h; exact ⟨_, _, _, _, rfl, .inl q.seq, r, fun c m => m, fun c m => m⟩
  | _ => cases h
theorem Rep.kidsN {v : V} {d : D} {ds : List D} {O S : List Addr} (r : Rep K H v d O S) (h : kidsN d = some ds) :
    ∃ a vs S1, v = .ref a ∧ (SqL K H a vs ∨ SqT K H a vs) ∧ RepL K H vs ds [] S1 ∧ ∀ c ∈ S1, c ∈ S := by
  obtain ⟨xs, h1, h2⟩ := Option.bind_eq_some_iff.mp h
  by_cases n : noOwns xs = true
  · rw [if_pos n] at h2
    cases h2
    obtain ⟨a, vs, O1, S1, e, q, r2, _, hs⟩ := r.kids h1
    have e0 := r2.noOwn n
    subst e0
    exact ⟨a, vs, S1, e, q, r2, hs⟩
  · rw [if_neg n] at h2; cases h2
theorem fvl_of {vs : List V} {ds : List D} {S1 S : List Addr} (r : RepL K H vs ds [] S1) (h : ∀ c ∈ S1, c ∈ S) : FvL K H H vs ds S :=
  ⟨[], S1, r, fun a => Nat.zero_le _, (fun a m => nomatch m), fun a m => ⟨.inl (h a m), rfl⟩⟩
theorem RepL.take : ∀ {vs : List V} {ds : List D} {O S : List Addr} (k : Nat), RepL K H vs ds O S → ∃ O2 S2, RepL K H (vs.take k) (ds.take k) O2 S2 ∧ (∀ c ∈ O2, c ∈ O) ∧ ∀ c ∈ S2, c ∈ S
  | _, _, _, _, 0, r => ⟨[], [], by rw [List.take_zero, List.take_zero]; exact .nil, (fun c m => nomatch m), (fun c m => nomatch m)⟩
  | _, _, _, _, k + 1, .nil => ⟨[], [], .nil, (fun c m => nomatch m), (fun c m => nomatch m)⟩
  | _, _, _, _, k + 1, .cons p r => by
    obtain ⟨O2, S2, a, b, d⟩ := RepL.take k r
    refine ⟨_, _, .cons p a, fun c m => ?_, fun c m => ?_⟩
    · rcases List.mem_append.mp m with m | m
      · exact List.mem_append_left _ m
      · exact List.mem_append_right _ (b c m)
    · rcases List.mem_append.mp m with m | m
      · exact List.mem_append_left _ m
      · exact List.mem_append_right _ (d c m)
theorem RepL.drop : ∀ {vs : List V} {ds : List D} {O S : List Addr} (k : Nat), RepL K H vs ds O S → ∃ O2 S2, RepL K H (vs.drop k) (ds.drop k) O2 S2 ∧ (∀ c ∈ O2, c ∈ O) ∧ ∀ c ∈ S2, c ∈ S
  | _, _, _, _, 0, r => ⟨_, _, r, fun c m => m, fun c m => m⟩
  | _, _, _, _, k + 1, .nil => ⟨[], [], .nil, (fun c m => nomatch m), (fun c m => nomatch m)⟩
  | _, _, _, _, k + 1, .cons p r => by
    obtain ⟨O2, S2, a, b, d⟩ := RepL.drop k r
    exact ⟨O2, S2, a, fun c m => List.mem_append_right _ (b c m), fun c m => List.mem_append_right _ (d c m)⟩
theorem cut_kids {vs : List V} {ds : List D} {S1 : List Addr} (r : RepL K H vs ds [] S1) (i k : Nat) : ∃ S2, RepL K H ((vs.drop i).take k) ((ds.drop i).take k) [] S2 ∧ ∀ c ∈ S2, c ∈ S1 := by
  obtain ⟨O2, S2, a, b, d⟩ := r.drop i
  obtain ⟨O3, S3, a3, b3, d3⟩ := a.take k
  have e : O3 = [] := List.eq_nil_iff_forall_not_mem.mpr fun c m => nomatch b c (b3 c m)
  subst e
  exact ⟨S3, a3, fun c m => d c (d3 c m)⟩
end

/-! ### operators -/
/-- a bound that is not to be reckoned out by the kernel -/
noncomputable def hard (p : Prop) : Bool := @decide p (Classical.propDecidable p)
theorem hard_of {p : Prop} (h : p) : hard p = true := @decide_eq_true p (Classical.propDecidable p) h
theorem of_hard {p : Prop} (h : hard p = true) : p := @of_decide_eq_true p (Classical.propDecidable p) h
noncomputable def mulOk (i j : Int) : Bool := hard ((-18446744073709551616 < i ∧ i < 18446744073709551616) ∨ (-18446744073709551616 < j ∧ j < 18446744073709551616))
def kAdd : D → D → Option D
  | .int i, .int j => some (.int (i + j))
  | .str i, .str j => if i.length + j.length ≤ sizeLine then some (.str (i ++ j)) else none
  | .lst _ xs, .lst _ ys => if noOwns xs && noOwns ys && decide (xs.length + ys.length ≤ sizeLine) then some (.lst true (xs ++ ys)) else none
  | .tup xs, .tup ys => if noOwns xs && noOwns ys && decide (xs.length + ys.length ≤ sizeLine) && !xs.isEmpty then some (.tup (xs ++ ys)) else none
  | _, _ => none
def kSub : D → D → Option D
  | .int i, .int j => some (.int (i - j))
  | _, _ => none
noncomputable def kMul : D → D → Option D
  | .int i, .int j => if mulOk i j then some (.int (i * j)) else none
  | _, _ => none
noncomputable def kDiv : D → D → Option D
  | .int i, .int j => if hard (0 < j ∧ j < 1073741824) then some (.int (i / j)) else if hard (j ≠ 0 ∧ j.natAbs < 1073741824) then some (.int (i.fdiv j)) else none
  | _, _ => none
def kMod : D → D → Option D
  | .int i, .int j => if 0 < j then some (.int (i % j)) else if j ≠ 0 then some (.int (i.fmod j)) else none
  | _, _ => none
noncomputable def kPow : D → D → Option D
  | .int i, .int j => if hard (0 ≤ j ∧ j ≤ 1000000 ∧ i.natAbs < 18446744073709551616) then some (.int (i ^ j.toNat)) else none
  | _, _ => none
def kLt : D → D → Option D
  | .int i, .int j => some (.bl (decide (i < j)))
  | _, _ => none
def kLe : D → D → Option D
  | .int i, .int j => some (.bl (decide (i ≤ j)))
  | _, _ => none
def kGt : D → D → Option D
  | .int i, .int j => some (.bl (decide (j < i)))
  | _, _ => none
def kGe : D → D → Option D
  | .int i, .int j => some (.bl (decide (j ≤ i)))
  | _, _ => none
def kEq (x y : D) : Option D := if okd 9 x && okd 9 y then some (.bl (PyData.eqv (pd x) (pd y))) else none
def kNe (x y : D) : Option D := if okd 9 x && okd 9 y then some (.bl (!PyData.eqv (pd x) (pd y))) else none
def kIn (x y : D) : Option D := (scV x).bind fun v => (kids y).bind fun ys => (scVs ys).map fun vs => .bl (inV v vs)
def kNotIn (x y : D) : Option D := (scV x).bind fun v => (kids y).bind fun ys => (scVs ys).map fun vs => .bl (!inV v vs)
def kIsN (x y : D) : Option D := match y with
  | .non => match x with | .jnk => none | .non => some (.bl true) | _ => some (.bl false)
  | _ => none
def kNotN (x y : D) : Option D := match y with
  | .non => match x with | .jnk => none | .non => some (.bl false) | _ => some (.bl true)
  | _ => none
def kNeg : D → Option D
  | .int i => some (.int (-i))
  | _ => none
def kIx (x y : D) : Option D := match y with
  | .int i => (kids x).bind fun xs => atI xs i
  | _ => none

section
variable {X : Cx}
theorem fv_sc {K : PySem.W.Frag} {H : Hp} {d : D} {v : V} {S : List Addr} (h : scV d = some v) : Fv K H H v d S := scV_fv h
theorem rep_same {K : PySem.W.Frag} {H : Hp} {x : V} {i : Int} {O S : List Addr} (h : Rep K H x (.int i) O S) : x = .int i := by cases h; rfl
/-- by two ints -/
theorem OpN.ints {f : Value → Value → Sem Value} {r : R2} {k : D → D → Option D} (ho : OpR X f r)
    (h : ∀ dx dy z, k dx dy = some z → ∃ i j v, dx = .int i ∧ dy = .int j ∧ scV z = some v ∧ ∀ (H : Hp) (Q : VK), Q v H → r (.int i) (.int j) H Q) : OpN X f k := by
  refine ⟨r, ho, fun H x y dx dy z O1 S1 O2 S2 Q r1 r2 hk q => ?_⟩
  obtain ⟨i, j, v, rfl, rfl, hz, hr⟩ := h dx dy z hk
  rw [rep_same r1, rep_same r2]
  exact hr H Q (q v H (Same.refl H) (fv_sc hz))
theorem on_sub : OpN X (binaryOp .Sub) kSub := .ints op_sub fun dx dy z h => by
  cases dx <;> cases dy <;> cases h
  exact ⟨_, _, _, rfl, rfl, rfl, fun H Q q => ⟨_, _, rfl, rfl, q⟩⟩
theorem on_mul : OpN X (binaryOp .Mult) kMul := .ints op_mul fun dx dy z h => by
  cases dx <;> cases dy <;> try (cases h; done)
  rename_i i j
  by_cases n : mulOk i j = true
  · have e : (if mulOk i j = true then some (D.int (i * j)) else none) = some z := h
    rw [if_pos n] at e
    cases e
    refine ⟨_, _, _, rfl, rfl, rfl, fun H Q q => ⟨_, _, rfl, rfl, ?_, q⟩⟩
    have := of_hard n
    unfold CMul
    omega
  · have e : (if mulOk i j = true then some (D.int (i * j)) else none) = some z := h
    rw [if_neg n] at e; cases e
theorem on_div : OpN X (binaryOp .FloorDiv) kDiv := .ints (op_fdiv.or op_fdivN) fun dx dy z h => by
  cases dx <;> cases dy <;> try (cases h; done)
  rename_i i j
  simp only [kDiv] at h
  split at h
  · rename_i n
    cases h
    exact ⟨_, _, _, rfl, rfl, rfl, fun H Q q => .inl ⟨_, _, rfl, rfl, of_hard n, q⟩⟩
  · split at h
    · rename_i n
      cases h
      exact ⟨_, _, _, rfl, rfl, rfl, fun H Q q => .inr ⟨_, _, rfl, rfl, of_hard n, q⟩⟩
    · cases h
theorem on_mod : OpN X (binaryOp .Mod) kMod := .ints (op_mod.or op_modN) fun dx dy z h => by
  cases dx <;> cases dy <;> try (cases h; done)
  rename_i i j
  simp only [kMod] at h
  split at h
  · rename_i n
    cases h
    exact ⟨_, _, _, rfl, rfl, rfl, fun H Q q => .inl ⟨_, _, rfl, rfl, n, q⟩⟩
  · split at h
    · rename_i n
      cases h
      exact ⟨_, _, _, rfl, rfl, rfl, fun H Q q => .inr ⟨_, _, rfl, rfl, n, q⟩⟩
    · cases h
theorem on_pow : OpN X (binaryOp .Pow) kPow := .ints op_pow fun dx dy z h => by
  cases dx <;> cases dy <;> try (cases h; done)
  rename_i i j
  simp only [kPow] at h
  split at h
  · rename_i n
    have n := of_hard n
    cases h
    exact ⟨_, _, _, rfl, rfl, rfl, fun H Q q => ⟨_, _, rfl, rfl, ⟨n.1, n.2.1, by have := n.2.2; omega⟩, q⟩⟩
  · cases h
theorem on_lt : OpN X (compareOp .Lt) kLt := .ints op_lt fun dx dy z h => by
  cases dx <;> cases dy <;> cases h
  exact ⟨_, _, _, rfl, rfl, rfl, fun H Q q => ⟨_, _, rfl, rfl, q⟩⟩
theorem on_le : OpN X (compareOp .LtE) kLe := .ints op_le fun dx dy z h => by
  cases dx <;> cases dy <;> cases h
  exact ⟨_, _, _, rfl, rfl, rfl, fun H Q q => ⟨_, _, rfl, rfl, q⟩⟩
theorem on_gt : OpN X (compareOp .Gt) kGt := .ints op_gt fun dx dy z h => by
  cases dx <;> cases dy <;> cases h
  exact ⟨_, _, _, rfl, rfl, rfl, fun H Q q => ⟨_, _, rfl, rfl, q⟩⟩
theorem on_ge : OpN X (compareOp .GtE) kGe := .ints op_ge fun dx dy z h => by
  cases dx <;> cases dy <;> cases h
  exact ⟨_, _, _, rfl, rfl, rfl, fun H Q q => ⟨_, _, rfl, rfl, q⟩⟩
theorem on_eq (hu : X.A.units + 64 < cLine) : OpN X (compareOp .Eq) kEq := by
  refine ⟨_, op_eqD hu, fun H x y dx dy z O1 S1 O2 S2 Q r1 r2 hk q => ?_⟩
  unfold kEq at hk
  split at hk
  · rename_i n
    have n := (Bool.and_eq_true _ _).mp n
    cases hk
    exact ⟨_, _, r1.dp, r2.dp, okd_shaped n.1, okd_shaped n.2, q _ H (Same.refl H) (fv_sc rfl)⟩
  · cases hk
theorem on_ne (hu : X.A.units + 64 < cLine) : OpN X (compareOp .NotEq) kNe := by
  refine ⟨_, op_neD hu, fun H x y dx dy z O1 S1 O2 S2 Q r1 r2 hk q => ?_⟩
  unfold kNe at hk
  split at hk
  · rename_i n
    have n := (Bool.and_eq_true _ _).mp n
    cases hk
    exact ⟨_, _, r1.dp, r2.dp, okd_shaped n.1, okd_shaped n.2, q _ H (Same.refl H) (fv_sc rfl)⟩
  · cases hk
theorem on_in : OpN X (compareOp .In) kIn := by
  refine ⟨_, op_in_seq, fun H x y dx dy z O1 S1 O2 S2 Q r1 r2 hk q => ?_⟩
  obtain ⟨v, h1, h2⟩ := Option.bind_eq_some_iff.mp hk
  obtain ⟨ys, h3, h4⟩ := Option.bind_eq_some_iff.mp h2
  obtain ⟨vs, h5, h6⟩ := Option.map_eq_some_iff.mp h4
  subst h6
  obtain ⟨e1, f1⟩ := r1.sc h1
  obtain ⟨a, ws, _, _, e2, sq, r3, _, _⟩ := r2.kids h3
  obtain ⟨e3, f3⟩ := r3.scs h5
  subst e1 e3
  exact ⟨a, ws, e2, sq, f1, f3, q _ H (Same.refl H) (fv_sc rfl)⟩
theorem on_notIn : OpN X (compareOp .NotIn) kNotIn := by
  refine ⟨_, op_notIn_seq, fun H x y dx dy z O1 S1 O2 S2 Q r1 r2 hk q => ?_⟩
  obtain ⟨v, h1, h2⟩ := Option.bind_eq_some_iff.mp hk
  obtain ⟨ys, h3, h4⟩ := Option.bind_eq_some_iff.mp h2
  obtain ⟨vs, h5, h6⟩ := Option.map_eq_some_iff.mp h4
  subst h6
  obtain ⟨e1, f1⟩ := r1.sc h1
  obtain ⟨a, ws, _, _, e2, sq, r3, _, _⟩ := r2.kids h3
  obtain ⟨e3, f3⟩ := r3.scs h5
  subst e1 e3
  exact ⟨a, ws, e2, sq, f1, f3, q _ H (Same.refl H) (fv_sc rfl)⟩
theorem on_isN : OpN X (compareOp .Is) kIsN := by
  refine ⟨_, op_isN, fun H x y dx dy z O1 S1 O2 S2 Q r1 r2 hk q => ?_⟩
  cases r2 <;> try (cases hk; done)
  refine ⟨rfl, ?_⟩
  cases r1 <;> (cases hk; exact q _ H (Same.refl H) (fv_sc rfl))
theorem on_notN : OpN X (compareOp .IsNot) kNotN := by
  refine ⟨_, op_notN, fun H x y dx dy z O1 S1 O2 S2 Q r1 r2 hk q => ?_⟩
  cases r2 <;> try (cases hk; done)
  refine ⟨rfl, ?_⟩
  cases r1 <;> (cases hk; exact q _ H (Same.refl H) (fv_sc rfl))
theorem un_negN : UnN X (unaryOp .USub) kNeg := by
  refine ⟨_, un_neg, fun H x dx z O1 S1 Q r1 hk q => ?_⟩
  cases r1 <;> cases hk
  exact ⟨_, rfl, q _ H (Same.refl H) (fv_sc rfl)⟩
theorem ix_N : IxN X kIx := by
  refine ⟨_, ix_list.or ix_tup, fun H x y dx dy z O1 S1 O2 S2 Q r1 r2 hk q => ?_⟩
  cases r2 <;> try (cases hk; done)
  rename_i i
  obtain ⟨ys, h3, h4⟩ := Option.bind_eq_some_iff.mp hk
  obtain ⟨a, ws, O3, S3, e2, sq, r3, ho, hs⟩ := r1.kids h3
  obtain ⟨j, hj1, hj2⟩ := Option.bind_eq_some_iff.mp h4
  obtain ⟨v, O4, S4, hv, r4, ho4, hs4⟩ := r3.get hj2
  have hat : atI ws i = some v := by
    unfold atI
    rw [r3.length, hj1]
    exact hv
  have fin := q v H O4 S4 (Same.refl H) r4 (fun c m => ho c (ho4 c m)) (fun c m => hs c (hs4 c m))
  rcases sq with sq | sq
  · exact .inl ⟨a, ws, i, v, e2, rfl, sq, hat, fin⟩
  · exact .inr ⟨a, ws, i, v, e2, rfl, sq, hat, fin⟩
theorem Rep.lstI {K : PySem.W.Frag} {H : Hp} {v : V} {o : Bool} {ds : List D} {O S : List Addr} (r : Rep K H v (.lst o ds) O S) : ∃ a vs O1 S1, v = .ref a ∧ H a = some (.lst vs) ∧ RepL K H vs ds O1 S1 ∧ ∀ c ∈ S1, c ∈ S := by
  cases r with
  | own q r => exact ⟨_, _, _, _, rfl, q, r, fun c m => m⟩
  | shr q r => exact ⟨_, _, _, _, rfl, q, r, fun c m => List.mem_cons_of_mem _ m⟩
theorem Rep.tupI {K : PySem.W.Frag} {H : Hp} {v : V} {ds : List D} {O S : List Addr} (r : Rep K H v (.tup ds) O S) : ∃ a vs, v = .ref a ∧ SqT K H a vs ∧ RepL K H vs ds O S := by
  cases r with
  | tup q r => exact ⟨_, _, rfl, q, r⟩
theorem RepL.snone {K : PySem.W.Frag} {H : Hp} {vs : List V} {ds : List D} {O S : List Addr} (r : RepL K H vs ds O S) : ∀ a ∈ S, H a ≠ none := fun a m z => by
  obtain ⟨o, e⟩ := r.sok a m
  rw [z] at e; cases e
theorem on_add : OpN X (binaryOp .Add) kAdd := by
  refine ⟨_, ((op_add.or op_add_str).or op_cat).or op_catT, fun H x y dx dy z O1 S1 O2 S2 Q r1 r2 hk q => ?_⟩
  unfold kAdd at hk
  split at hk
  · cases hk
    cases r1
    cases r2
    exact .inl (.inl (.inl ⟨_, _, rfl, rfl, q _ H (Same.refl H) (fv_sc rfl)⟩))
  · split at hk
    · rename_i n
      cases hk
      cases r1
      cases r2
      exact .inl (.inl (.inr ⟨_, _, rfl, rfl, n, q _ H (Same.refl H) (fv_sc rfl)⟩))
    · cases hk
  · split at hk
    · rename_i n
      simp only [Bool.and_eq_true, decide_eq_true_eq] at n
      cases hk
      obtain ⟨a, vs, O3, S3, e3, h3, p1, hs1⟩ := r1.lstI
      obtain ⟨b, ws, O4, S4, e4, h4, p2, hs2⟩ := r2.lstI
      have e1 := p1.noOwn n.1.1
      have e2 := p2.noOwn n.1.2
      subst e1 e2
      refine .inl (.inr ⟨a, b, vs, ws, e3, e4, h3, h4, by rw [p1.length, p2.length]; exact n.2, fun p np => ?_⟩)
      have r := p1.append p2
      refine q _ _ (upd_same' np) (Fv.mono (cons_new (Same.refl H) np (fvl_of r fun c m => m) r.snone) fun c m => .inl ?_)
      rcases List.mem_append.mp m with m | m
      · exact List.mem_append_left _ (hs1 c m)
      · exact List.mem_append_right _ (hs2 c m)
    · cases hk
  · split at hk
    · rename_i n
      simp only [Bool.and_eq_true, decide_eq_true_eq] at n
      cases hk
      obtain ⟨a, vs, e3, h3, p1⟩ := r1.tupI
      obtain ⟨b, ws, e4, h4, p2⟩ := r2.tupI
      have e1 := p1.noOwn n.1.1.1
      have e2 := p2.noOwn n.1.1.2
      subst e1 e2
      have hne : vs ≠ [] := fun z => by
        have := p1.length
        rw [z] at this
        have h5 := List.eq_nil_of_length_eq_zero this.symm
        rw [h5] at n
        simp at n
      have r := p1.append p2
      refine .inr ⟨a, b, vs, ws, e3, e4, h3, h4, hne, by rw [p1.length, p2.length]; exact n.1.2, fun z => ?_, fun z p np => ?_⟩
      · subst z
        cases p2
        refine q _ H (Same.refl H) ⟨[], S1, .tup h3 ?_, fun a => Nat.zero_le _, (fun a m => nomatch m), fun a m => ⟨.inl (List.mem_append_left _ m), rfl⟩⟩
        rw [List.append_nil]; exact p1
      · have s2 := upd_same' (o := .tup (vs ++ ws)) np
        exact q _ _ s2 ⟨[], S1 ++ S2, .tup (SqT.of upd_same) (r.same s2), fun a => Nat.zero_le _, (fun a m => nomatch m), fun a m => ⟨.inl m, rfl⟩⟩
    · cases hk
  · cases hk
end
end LT

set_option Elab.async false
set_option linter.all false
set_option maxRecDepth 100000
set_option maxHeartbeats 1000000
/-! walks over tuples that the library has over lists -/
namespace LTup
open PySem PySem.Spec PyProof.Rows
section
variable {prog : Program} {w : World} {A : Around} {E : Value → Shared → Prop} {s : Shared} {t : Addr}
theorem iterT {xs : Array (Int × Tok)} {Q : Value → Shared → Prop} (ht : s.heap.IsTuple t (intItems xs))
    (h : ∀ s2 : Shared, s2 = { s with heap := s.heap.push { cls := .type "tuple_iterator", data := .fields #[.ref t, .int 0 0] } } →
      (s2.heap.IsTupleIter s.heap.objs.size t 0 ∧ s2.heap.IsTuple t (intItems xs)) → (∀ c ∈ [s.heap.objs.size, t], c < s2.heap.objs.size) → t ≠ s.heap.objs.size → Q (.ref s.heap.objs.size) s2) :
    wpAny (model prog w) A (pyIter (.ref t)) Q E s := by
  have tl : t < s.heap.objs.size := by
    obtain ⟨_, e, _⟩ := ht
    exact Heap.lt_size e
  refine wpAny_pyIter_tuple ht ?_
  refine h _ rfl ⟨⟨_, Heap.get?_push_size _ rfl, rfl, rfl⟩, ht.push _⟩ ?_ (Nat.ne_of_lt tl)
  intro c hc
  show c < (Heap.push s.heap _).objs.size
  rw [Heap.size_push]
  have e : c = s.heap.objs.size ∨ c = t := by simpa using hc
  rcases e with e | e
  · rw [e]; exact Nat.lt_succ_self _
  · rw [e]; exact Nat.lt_succ_of_lt tl
theorem keptT {h' : Heap} (k : ∀ c o, c ∉ [s.heap.objs.size] → (s.heap.push { cls := .type "tuple_iterator", data := .fields #[.ref t, .int 0 0] }).get? c = some o → h'.get? c = some o) :
    ∀ c o, s.heap.get? c = some o → h'.get? c = some o := fun c o e => k c o (fun m => by
    have e1 : c = s.heap.objs.size := by simpa using m
    have := Heap.lt_size e
    rw [e1] at this
    exact Nat.lt_irrefl _ this) (Heap.get?_push_of_some _ e)
theorem maxT {xs : Array (Int × Tok)} {Q : Value → Shared → Prop} (hh : A.handled = none) (ht : s.heap.IsTuple t (intItems xs)) (hne : 0 < xs.size)
    (h : ∀ v h' tk, (intItems xs)[argBest (fun i j => decide (numAt xs i > numAt xs j)) (xs.size - 1)]? = some v → (∀ c o, s.heap.get? c = some o → h'.get? c = some o) → Q v { s with heap := h', toks := tk }) :
    wpAny (model prog w) A (call (.builtin "max") [.ref t]) Q E s := by
  refine call_max_walk (iterT ht ?_)
  rintro s2 rfl st hf tI
  refine ⟨_, _, _, _, _, _, _, rfl, Walks.tuple (A := A.in1) hh _ t tI (intItems xs), st, hf, by simpa [intItems] using hne, CmpOf.ints_gt (numAt xs) (fun _ _ => intItems_at), ?_⟩
  intro v h' tk hP hk
  exact h v h' tk (by simpa [intItems] using hP) (keptT hk)
theorem minT {xs : Array (Int × Tok)} {Q : Value → Shared → Prop} (hh : A.handled = none) (ht : s.heap.IsTuple t (intItems xs)) (hne : 0 < xs.size)
    (h : ∀ v h' tk, (intItems xs)[argBest (fun i j => decide (numAt xs i < numAt xs j)) (xs.size - 1)]? = some v → (∀ c o, s.heap.get? c = some o → h'.get? c = some o) → Q v { s with heap := h', toks := tk }) :
    wpAny (model prog w) A (call (.builtin "min") [.ref t]) Q E s := by
  refine call_min_walk (iterT ht ?_)
  rintro s2 rfl st hf tI
  refine ⟨_, _, _, _, _, _, _, rfl, Walks.tuple (A := A.in1) hh _ t tI (intItems xs), st, hf, by simpa [intItems] using hne, CmpOf.ints_lt (numAt xs) (fun _ _ => intItems_at), ?_⟩
  intro v h' tk hP hk
  exact h v h' tk (by simpa [intItems] using hP) (keptT hk)
theorem sumT {xs : Array (Int × Tok)} {Q : Value → Shared → Prop} (hh : A.handled = none) (ht : s.heap.IsTuple t (intItems xs))
    (h : ∀ h' tk t', (∀ c o, s.heap.get? c = some o → h'.get? c = some o) → Q (.int (preSum (numAt xs) xs.size) t') { s with heap := h', toks := tk }) :
    wpAny (model prog w) A (call (.builtin "sum") [.ref t]) Q E s := by
  refine call_sum_walkG (iterT ht ?_)
  rintro s2 rfl st hf tI
  refine ⟨_, _, _, _, _, _, numAt xs, rfl, Walks.tuple (A := A.in1) hh _ t tI (intItems xs), st, hf, (fun _ _ => intItems_at), ?_⟩
  intro h' tk t' hk
  have q := h h' tk t' (keptT hk)
  simpa [intItems] using q
theorem numsT {its : List Value} {ns : List Int} (hi : IntsAre its ns) : ∃ xs : Array (Int × Tok), its.toArray = intItems xs ∧ xs.toList.map (·.1) = ns := by
  obtain ⟨xs, e⟩ := hi.allInts.items
  have n : numsOf (intItems xs).toList = ns := by
    rw [← e]
    exact hi.numsOf
  rw [nums_intItems] at n
  exact ⟨xs, e, n⟩
theorem max_tup {its : List Value} {ns : List Int} {Q : Value → Shared → Prop} (hh : A.handled = none) (ht : s.heap.IsTuple t its.toArray) (hi : IntsAre its ns) (hne : 0 < ns.length)
    (h : ∀ h' tk M t', (∀ c o, s.heap.get? c = some o → h'.get? c = some o) → M ∈ ns → (∀ a ∈ ns, a ≤ M) → Q (.int M t') { s with heap := h', toks := tk }) : wpAny (model prog w) A (call (.builtin "max") [.ref t]) Q E s := by
  obtain ⟨xs, e, rfl⟩ := numsT hi
  rw [e] at ht
  have z : 0 < xs.size := by simpa using hne
  refine maxT hh ht z fun v h' tk hv hk => ?_
  obtain ⟨u, rfl⟩ := intItems_at hv
  obtain ⟨b1, b2⟩ := argBest_gt (numAt xs) (xs.size - 1)
  refine h h' tk _ u hk ?_ ?_
  · rw [numAt_eq]
    exact PySem.getD_mem (by rw [List.length_map, Array.length_toList]; omega)
  · intro a ha
    obtain ⟨j, hj, rfl⟩ := mem_getD ha
    rw [List.length_map, Array.length_toList] at hj
    rw [← numAt_eq]
    exact b2 j (by omega)
theorem min_tup {its : List Value} {ns : List Int} {Q : Value → Shared → Prop} (hh : A.handled = none) (ht : s.heap.IsTuple t its.toArray) (hi : IntsAre its ns) (hne : 0 < ns.length)
    (h : ∀ h' tk M t', (∀ c o, s.heap.get? c = some o → h'.get? c = some o) → M ∈ ns → (∀ a ∈ ns, M ≤ a) → Q (.int M t') { s with heap := h', toks := tk }) : wpAny (model prog w) A (call (.builtin "min") [.ref t]) Q E s := by
  obtain ⟨xs, e, rfl⟩ := numsT hi
  rw [e] at ht
  have z : 0 < xs.size := by simpa using hne
  refine minT hh ht z fun v h' tk hv hk => ?_
  obtain ⟨u, rfl⟩ := intItems_at hv
  obtain ⟨b1, b2⟩ := argBest_lt (numAt xs) (xs.size - 1)
  refine h h' tk _ u hk ?_ ?_
  · rw [numAt_eq]
    exact PySem.getD_mem (by rw [List.length_map, Array.length_toList]; omega)
  · intro a ha
    obtain ⟨j, hj, rfl⟩ := mem_getD ha
    rw [List.length_map, Array.length_toList] at hj
    rw [← numAt_eq]
    exact b2 j (by omega)
theorem sum_tup {its : List Value} {ns : List Int} {Q : Value → Shared → Prop} (hh : A.handled = none) (ht : s.heap.IsTuple t its.toArray) (hi : IntsAre its ns)
    (h : ∀ h' tk t', (∀ c o, s.heap.get? c = some o → h'.get? c = some o) → Q (.int ns.sum t') { s with heap := h', toks := tk }) : wpAny (model prog w) A (call (.builtin "sum") [.ref t]) Q E s := by
  obtain ⟨xs, e, rfl⟩ := numsT hi
  rw [e] at ht
  refine sumT hh ht fun h' tk t' hk => ?_
  have q := h h' tk t' hk
  rw [preSum_eq, List.take_of_length_le (by simp)]
  exact q
theorem collectT {vs : List Value} {Q : List Value → Shared → Prop} (ht : s.heap.IsTuple t vs.toArray) (hz : vs.length ≤ sizeLine)
    (h : Q vs { s with heap := (s.heap.push (seqObj "list" #[] 0)).update s.heap.objs.size (Obj.mapSeq (· ++ vs.toArray)) }) : wpAny (model prog w) A (collect (.ref t)) Q E s := by
  obtain ⟨o, ho, hc, n, hd⟩ := id ht
  unfold collect
  refine wpAny_bind (wpAny_runValue (codeAny_builtin entry_proto_collect' ?_))
  show wpAny _ _ (newList [] >>= fun l => again (.builtin "list.__iadd__" ⟨[l, .ref t], []⟩)) _ _ s
  refine wpAny_bind (wpAny_newList (wpAny_pure ⟨Code.quiet_builtin _ (by decide +kernel), codeAny_builtin entry_list_iadd' ?_⟩))
  generalize hs1 : ({ s with heap := s.heap.push (seqObj "list" #[] 0) } : Shared) = s1
  have hp : s1.heap = s.heap.push (seqObj "list" #[] 0) := by rw [← hs1]
  have o1 : s1.heap.get? t = some o := by
    rw [hp]
    exact Heap.get?_push_of_some _ ho
  have o2 : s1.heap.get? s.heap.objs.size = some (seqObj "list" #[] 0) := by
    rw [hp]
    exact Heap.get?_push_size _ rfl
  show wpAny _ _ (Builtin.List.listExtendWith (.ref s.heap.objs.size) (.ref t) (.ref s.heap.objs.size)) _ _ s1
  unfold Builtin.List.listExtendWith
  refine wpAny_bind (wpAny_typeOf (T := "tuple") ⟨o, o1, hc⟩ ?_)
  have q : (Value.type "tuple" == Value.type "tuple") = true := by rfl
  rw [if_pos (by rw [q]; simp)]
  refine wpAny_bind (listItems_at o1 hd (wpAny_bind (listItems_at o2 rfl ?_)))
  rw [if_neg (by simp)]
  refine wpAny_bind (listUpdate_at o2 rfl ?_ (Nat.zero_le _) (by show (#[] ++ vs.toArray).size ≤ sizeLine + 1; simp only [Array.size_append, List.size_toArray, List.length_nil]; omega))
  refine wpAny_pure ?_
  subst hs1
  show wpAny (model prog w) A (load s.heap.objs.size >>= _) Q E _
  refine wpAny_bind (wpAny_load (get?_update_seq o2 _) ?_)
  have e : ((#[] : Array Value) ++ vs.toArray).toList = vs := by simp
  show wpAny _ _ (pure ((#[] : Array Value) ++ vs.toArray).toList) Q E _
  rw [e]
  exact wpAny_pure h
open Srt SrtO in
theorem sortedT {vs : List Value} {ns : List Int} {Q : Value → Shared → Prop} (ht : s.heap.IsTuple t vs.toArray) (hz : vs.length ≤ sizeLine) (hi : IntsAre vs ns)
    (h : ∀ out : List Value, Srtd ltIv out → Stb ltIv out vs → Q (.ref (s.heap.objs.size + 1)) { s with heap := sortedAll s.heap vs out.toArray }) :
    wpAny (model prog w) A (call (.builtin "sorted") [.ref t]) Q E s := by
  refine Calls.call_function_entry kind_sorted plain_sorted entry_sorted (args_sorted1 _) ?_
  unfold Builtin.«sorted»
  refine wpAny_bind (m := checkCount "sorted" 1 1 _) (wpAny_pure (wpAny_bind (collectT ht hz (wpAny_bind (wpAny_newList ?_ hz)))))
  generalize hg : (s.heap.push (seqObj "list" #[] 0)).update s.heap.objs.size (Obj.mapSeq (· ++ vs.toArray)) = g
  have gs : g.objs.size = s.heap.objs.size + 1 := by rw [← hg, Heap.size_update, size_push']
  show wpAny _ _ _ _ _ { s with heap := g.push (seqObj "list" vs.toArray 0) }
  have at1 : (g.push (seqObj "list" vs.toArray 0)).get? (s.heap.objs.size + 1) = some (seqObj "list" vs.toArray 0) := by
    rw [← gs]
    exact Heap.get?_push_size _ rfl
  rw [gs]
  refine wpAny_bind (wpAny_holding (wpAny_call_entry slot_list_sort ⟨_, at1, rfl⟩ entry_list_sort (list_sort_ord swo_int at1 hz (fun h2 => ints_sortable hi h2) fun out o1 o2 => ⟨_, rfl, ?_⟩) (args_list_sort _)))
  subst hg
  exact wpAny_pure ⟨_, rfl, h out o1 o2⟩
end
end LTup
namespace LT
open PySem PySem.Spec PyProof.Rows L2
/-! ### built-in calls -/
def bestD (b : Int → Int → Bool) : List Int → Option Int
  | [] => none
  | [x] => some x
  | x :: r => (bestD b r).map fun m => if b m x then m else x
def maxD : List Int → Option Int := bestD fun m x => decide (x < m)
def minD : List Int → Option Int := bestD fun m x => decide (m < x)
theorem maxD_spec : ∀ {ns : List Int}, ns ≠ [] → ∃ m, maxD ns = some m ∧ m ∈ ns ∧ ∀ x ∈ ns, x ≤ m
  | [], h => absurd rfl h
  | [x], _ => ⟨x, rfl, List.mem_singleton_self x, fun y m => by rw [List.mem_singleton.mp m]; exact Int.le_refl _⟩
  | x :: y :: r, _ => by
    obtain ⟨m, h1, h2, h3⟩ := maxD_spec (ns := y :: r) (by simp)
    have e : maxD (x :: y :: r) = some (if decide (x < m) then m else x) := by
      show (maxD (y :: r)).map _ = _
      rw [h1]; rfl
    by_cases c : x < m
    · refine ⟨m, by rw [e, if_pos (decide_eq_true c)], List.mem_cons_of_mem _ h2, fun z hz => ?_⟩
      rcases List.mem_cons.mp hz with q | q
      · rw [q]; omega
      · exact h3 z q
    · refine ⟨x, by rw [e, if_neg (by simpa using c)], List.mem_cons_self, fun z hz => ?_⟩
      rcases List.mem_cons.mp hz with q | q
      · rw [q]; exact Int.le_refl _
      · have := h3 z q; omega
theorem minD_spec : ∀ {ns : List Int}, ns ≠ [] → ∃ m, minD ns = some m ∧ m ∈ ns ∧ ∀ x ∈ ns, m ≤ x
  | [], h => absurd rfl h
  | [x], _ => ⟨x, rfl, List.mem_singleton_self x, fun y m => by rw [List.mem_singleton.mp m]; exact Int.le_refl _⟩
  | x :: y :: r, _ => by
    obtain ⟨m, h1, h2, h3⟩ := minD_spec (ns := y :: r) (by simp)
    have e : minD (x :: y :: r) = some (if decide (m < x) then m else x) := by
      show (minD (y :: r)).map _ = _
      rw [h1]; rfl
    by_cases c : m < x
    · refine ⟨m, by rw [e, if_pos (decide_eq_true c)], List.mem_cons_of_mem _ h2, fun z hz => ?_⟩
      rcases List.mem_cons.mp hz with q | q
      · rw [q]; omega
      · exact h3 z q
    · refine ⟨x, by rw [e, if_neg (by simpa using c)], List.mem_cons_self, fun z hz => ?_⟩
      rcases List.mem_cons.mp hz with q | q
      · rw [q]; exact Int.le_refl _
      · have := h3 z q; omega
theorem maxD_eq {ns : List Int} {m : Int} (h1 : m ∈ ns) (h2 : ∀ x ∈ ns, x ≤ m) : maxD ns = some m := by
  obtain ⟨k, e, k1, k2⟩ := maxD_spec (ns := ns) (List.ne_nil_of_mem h1)
  have := h2 k k1
  have := k2 m h1
  rw [e, show k = m by omega]
theorem minD_eq {ns : List Int} {m : Int} (h1 : m ∈ ns) (h2 : ∀ x ∈ ns, m ≤ x) : minD ns = some m := by
  obtain ⟨k, e, k1, k2⟩ := minD_spec (ns := ns) (List.ne_nil_of_mem h1)
  have := h2 k k1
  have := k2 m h1
  rw [e, show k = m by omega]
def sortI (l : List Int) : List Int := l.mergeSort (fun a b => decide (a ≤ b))
theorem sortI_perm (l : List Int) : (sortI l).Perm l := List.mergeSort_perm l _
theorem sortI_pw (l : List Int) : (sortI l).Pairwise (· ≤ ·) := by
  have h := List.pairwise_mergeSort (le := fun a b : Int => decide (a ≤ b)) (fun a b c h1 h2 => by
    have h1 := of_decide_eq_true h1
    have h2 := of_decide_eq_true h2
    exact decide_eq_true (Int.le_trans h1 h2)) (fun a b => by
    rcases Int.le_total a b with z | z
    · rw [Bool.or_eq_true]; exact .inl (decide_eq_true z)
    · rw [Bool.or_eq_true]; exact .inr (decide_eq_true z)) l
  exact h.imp fun z => of_decide_eq_true z
theorem sortI_eq {l m : List Int} (h1 : m.Perm l) (h2 : m.Pairwise (· ≤ ·)) : m = sortI l :=
  (h1.trans (sortI_perm l).symm).eq_of_pairwise (fun a b _ _ h3 h4 => Int.le_antisymm h3 h4) h2 (sortI_pw l)

def kLen : List D → Option D
  | [.str z] => if z.length ≤ sizeLine then some (.int z.length) else none
  | [d] => (kids d).map fun xs => .int xs.length
  | _ => none
def kAbs : List D → Option D
  | [.int i] => some (.int (if i < 0 then -i else i))
  | _ => none
def kInt : List D → Option D
  | [.int i] => some (.int i)
  | [.bl b] => some (.int (if b then 1 else 0))
  | _ => none
def kMax : List D → Option D
  | [.int i, .int j] => some (.int (if j > i then j else i))
  | [d] => (kids d).bind fun xs => (intsD xs).bind fun ns => (maxD ns).map D.int
  | _ => none
def kMin : List D → Option D
  | [.int i, .int j] => some (.int (if j < i then j else i))
  | [d] => (kids d).bind fun xs => (intsD xs).bind fun ns => (minD ns).map D.int
  | _ => none
def kSum : List D → Option D
  | [d] => (kids d).bind fun xs => (intsD xs).map fun ns => .int ns.sum
  | _ => none
def kAll : List D → Option D
  | [.lst _ xs] => (blsD xs).map fun bs => .bl (bs.all id)
  | _ => none
def kAny : List D → Option D
  | [.lst _ xs] => (blsD xs).map fun bs => .bl (bs.any id)
  | _ => none
def kList : List D → Option D
  | [d] => (kidsN d).map fun xs => .lst true xs
  | _ => none
def kTup : List D → Option D
  | [d] => (kidsN d).map fun xs => .tup xs
  | _ => none
def kSorted : List D → Option D
  | [d] => (kids d).bind fun xs => (intsD xs).map fun ns => .lst true ((sortI ns).map D.int)
  | _ => none
section
variable {X : Cx}
theorem RepL.one {K : PySem.W.Frag} {H : Hp} {xs : List V} {d : D} {O S : List Addr} (r : RepL K H xs [d] O S) : ∃ v, xs = [v] ∧ Rep K H v d O S := by
  cases r with
  | cons p r =>
    cases r
    refine ⟨_, rfl, ?_⟩
    rw [List.append_nil, List.append_nil]; exact p
theorem RepL.two {K : PySem.W.Frag} {H : Hp} {xs : List V} {d e : D} {O S : List Addr} (r : RepL K H xs [d, e] O S) : ∃ v w O1 S1 O2 S2, xs = [v, w] ∧ Rep K H v d O1 S1 ∧ Rep K H w e O2 S2 ∧ (∀ c ∈ S1, c ∈ S) ∧ ∀ c ∈ S2, c ∈ S := by
  cases r with
  | cons p r =>
    obtain ⟨w, rfl, q⟩ := r.one
    exact ⟨_, w, _, _, _, _, rfl, p, q, fun c m => List.mem_append_left _ m, fun c m => List.mem_append_right _ m⟩
theorem cn_len : CallN X (.builtin "len") kLen := by
  refine ⟨_, call_len_seq.or call_len_str, fun H xs ds z O1 S1 Q r hk q => ?_⟩
  unfold kLen at hk
  split at hk
  · split at hk
    · rename_i n
      cases hk
      obtain ⟨v, rfl, p⟩ := r.one
      cases p
      exact .inr ⟨_, rfl, n, q _ H (Same.refl H) (fv_sc rfl)⟩
    · cases hk
  · obtain ⟨v, rfl, p⟩ := r.one
    obtain ⟨ys, h1, h2⟩ := Option.map_eq_some_iff.mp hk
    subst h2
    obtain ⟨a, vs, _, _, rfl, sq, r2, _, _⟩ := p.kids h1
    refine .inl ⟨a, vs, rfl, sq, ?_⟩
    rw [r2.length]
    exact q _ H (Same.refl H) (fv_sc rfl)
  · cases hk
theorem cn_abs : CallN X (.builtin "abs") kAbs := by
  refine ⟨_, call_abs, fun H xs ds z O1 S1 Q r hk q => ?_⟩
  unfold kAbs at hk
  split at hk
  · cases hk
    obtain ⟨v, rfl, p⟩ := r.one
    cases p
    exact ⟨_, rfl, q _ H (Same.refl H) (fv_sc rfl)⟩
  · cases hk
theorem cn_int : CallN X (.type "int") kInt := by
  refine ⟨_, call_int1, fun H xs ds z O1 S1 Q r hk q => ?_⟩
  unfold kInt at hk
  split at hk
  · cases hk
    obtain ⟨v, rfl, p⟩ := r.one
    cases p
    exact .inl ⟨_, rfl, q _ H (Same.refl H) (fv_sc rfl)⟩
  · cases hk
    obtain ⟨v, rfl, p⟩ := r.one
    cases p
    exact .inr ⟨_, rfl, q _ H (Same.refl H) (fv_sc rfl)⟩
  · cases hk
/-- of a tuple of ints -/
theorem call_maxT (hc : X.calm = true) : CallR X (.builtin "max") (fun vs H Q => ∃ (a : Addr) (ns : List Int), vs = [V.ref a] ∧ SqT X.K H a (ns.map V.int) ∧ 0 < ns.length ∧ ∀ m, m ∈ ns → (∀ y, y ∈ ns → y ≤ m) → Q (.int m) H) := by
  intro pins s σ H vs us Q I r h
  obtain ⟨a, ns, rfl, hs, hne, q⟩ := h
  obtain ⟨its, rv, ht, hz⟩ := I.tuple hs
  rw [Vals.ref1 r]
  exact LTup.max_tup (I.ok.hd hc) ht rv.ints hne fun h' tk M t' hk h1 h2 => ⟨.int M, H, I.kept hk, ⟨t', rfl⟩, q M h1 h2⟩
theorem call_minT (hc : X.calm = true) : CallR X (.builtin "min") (fun vs H Q => ∃ (a : Addr) (ns : List Int), vs = [V.ref a] ∧ SqT X.K H a (ns.map V.int) ∧ 0 < ns.length ∧ ∀ m, m ∈ ns → (∀ y, y ∈ ns → m ≤ y) → Q (.int m) H) := by
  intro pins s σ H vs us Q I r h
  obtain ⟨a, ns, rfl, hs, hne, q⟩ := h
  obtain ⟨its, rv, ht, hz⟩ := I.tuple hs
  rw [Vals.ref1 r]
  exact LTup.min_tup (I.ok.hd hc) ht rv.ints hne fun h' tk M t' hk h1 h2 => ⟨.int M, H, I.kept hk, ⟨t', rfl⟩, q M h1 h2⟩
theorem call_sumT (hc : X.calm = true) : CallR X (.builtin "sum") (fun vs H Q => ∃ (a : Addr) (ns : List Int), vs = [V.ref a] ∧ SqT X.K H a (ns.map V.int) ∧ Q (.int ns.sum) H) := by
  intro pins s σ H vs us Q I r h
  obtain ⟨a, ns, rfl, hs, q⟩ := h
  obtain ⟨its, rv, ht, hz⟩ := I.tuple hs
  rw [Vals.ref1 r]
  exact LTup.sum_tup (I.ok.hd hc) ht rv.ints fun h' tk t' hk => ⟨.int _, H, I.kept hk, ⟨t', rfl⟩, q⟩
theorem call_sortedT : CallR X (.builtin "sorted") (fun vs H Q => ∃ (a : Addr) (ns : List Int), vs = [V.ref a] ∧ SqT X.K H a (ns.map V.int) ∧
    ∀ (ns' : List Int) (p : Addr), ns'.Perm ns → ns'.Pairwise (· ≤ ·) → H p = none → Q (.ref p) (upd H p (.lst (ns'.map V.int)))) := by
  intro pins s σ H vs us Q I r h
  obtain ⟨a, ns, rfl, hs, q⟩ := h
  obtain ⟨its, rv, ht, hz⟩ := I.tuple hs
  rw [Vals.ref1 r]
  refine LTup.sortedT ht (by rw [← rv.length]; exact hz) rv.ints fun out h1 h2 => ?_
  obtain ⟨k1, k2, k3⟩ := SrtO.ints_out rv.ints h1 h2
  obtain ⟨ep, he⟩ := PyProof.Rows.sortedAll_at s.heap its out.toArray
  have hn : H (s.heap.objs.size + 1) = none := I.hok.fresh (Nat.le_succ _)
  have hl : ((out.map SrtO.iv).map V.int).length ≤ sizeLine := by
    rw [List.length_map, k2.length_eq, ← List.length_map (f := V.int)]
    exact hz
  have I2 := I.laid (o := .lst ((out.map SrtO.iv).map V.int)) (t' := s.toks) (fun _ _ => PyProof.Rows.sortedAll_old) (Nat.le_succ _) ⟨hl, out, ep, vals_of_ints k1, he⟩
  exact ⟨.ref _, _, I2, rfl, q _ _ k2 k3 hn⟩
theorem int_kids {K : PySem.W.Frag} {H : Hp} {v : V} {d : D} {xs : List D} {ns : List Int} {O S : List Addr} (r : Rep K H v d O S) (h1 : kids d = some xs) (h2 : intsD xs = some ns) :
    ∃ a, v = .ref a ∧ (SqL K H a (ns.map V.int) ∨ SqT K H a (ns.map V.int)) := by
  obtain ⟨a, vs, _, _, e, sq, r2, _, _⟩ := r.kids h1
  obtain ⟨e2, _⟩ := r2.ints h2
  subst e2
  exact ⟨a, e, sq⟩
theorem cn_max (hc : X.calm = true) : CallN X (.builtin "max") kMax := by
  refine ⟨_, (call_max2 hc).or ((cr_max hc).or (call_maxT hc)), fun H xs ds z O1 S1 Q r hk q => ?_⟩
  unfold kMax at hk
  split at hk
  · cases hk
    obtain ⟨v, w, _, _, _, _, rfl, p1, p2, _, _⟩ := r.two
    cases p1
    cases p2
    exact .inl ⟨_, _, rfl, q _ H (Same.refl H) (fv_sc rfl)⟩
  · obtain ⟨v, rfl, p⟩ := r.one
    obtain ⟨ys, h1, h2⟩ := Option.bind_eq_some_iff.mp hk
    obtain ⟨ns, h3, h4⟩ := Option.bind_eq_some_iff.mp h2
    obtain ⟨m, h5, h6⟩ := Option.map_eq_some_iff.mp h4
    subst h6
    obtain ⟨a, rfl, sq⟩ := int_kids p h1 h3
    have hne : ns ≠ [] := fun z => by rw [z] at h5; cases h5
    have hp : 0 < ns.length := List.length_pos_iff.mpr hne
    have fin : ∀ m', m' ∈ ns → (∀ y, y ∈ ns → y ≤ m') → Q (.int m') H := fun m' a1 a2 => by
      have e := maxD_eq a1 a2
      rw [h5] at e
      cases e
      exact q _ H (Same.refl H) (fv_sc rfl)
    rcases sq with sq | sq
    · exact .inr (.inl ⟨a, ns, rfl, sq, hp, fin⟩)
    · exact .inr (.inr ⟨a, ns, rfl, sq, hp, fin⟩)
  · cases hk
theorem cn_min (hc : X.calm = true) : CallN X (.builtin "min") kMin := by
  refine ⟨_, (call_min2 hc).or ((cr_min hc).or (call_minT hc)), fun H xs ds z O1 S1 Q r hk q => ?_⟩
  unfold kMin at hk
  split at hk
  · cases hk
    obtain ⟨v, w, _, _, _, _, rfl, p1, p2, _, _⟩ := r.two
    cases p1
    cases p2
    exact .inl ⟨_, _, rfl, q _ H (Same.refl H) (fv_sc rfl)⟩
  · obtain ⟨v, rfl, p⟩ := r.one
    obtain ⟨ys, h1, h2⟩ := Option.bind_eq_some_iff.mp hk
    obtain ⟨ns, h3, h4⟩ := Option.bind_eq_some_iff.mp h2
    obtain ⟨m, h5, h6⟩ := Option.map_eq_some_iff.mp h4
    subst h6
    obtain ⟨a, rfl, sq⟩ := int_kids p h1 h3
    have hne : ns ≠ [] := fun z => by rw [z] at h5; cases h5
    have hp : 0 < ns.length := List.length_pos_iff.mpr hne
    have fin : ∀ m', m' ∈ ns → (∀ y, y ∈ ns → m' ≤ y) → Q (.int m') H := fun m' a1 a2 => by
      have e := minD_eq a1 a2
      rw [h5] at e
      cases e
      exact q _ H (Same.refl H) (fv_sc rfl)
    rcases sq with sq | sq
    · exact .inr (.inl ⟨a, ns, rfl, sq, hp, fin⟩)
    · exact .inr (.inr ⟨a, ns, rfl, sq, hp, fin⟩)
  · cases hk
theorem cn_sum (hc : X.calm = true) : CallN X (.builtin "sum") kSum := by
  refine ⟨_, (cr_sum hc).or (call_sumT hc), fun H xs ds z O1 S1 Q r hk q => ?_⟩
  unfold kSum at hk
  split at hk
  · obtain ⟨v, rfl, p⟩ := r.one
    obtain ⟨ys, h1, h2⟩ := Option.bind_eq_some_iff.mp hk
    obtain ⟨ns, h3, h4⟩ := Option.map_eq_some_iff.mp h2
    subst h4
    obtain ⟨a, rfl, sq⟩ := int_kids p h1 h3
    rcases sq with sq | sq
    · exact .inl ⟨a, ns, rfl, sq, q _ H (Same.refl H) (fv_sc rfl)⟩
    · exact .inr ⟨a, ns, rfl, sq, q _ H (Same.refl H) (fv_sc rfl)⟩
  · cases hk
theorem cn_all (hc : X.calm = true) : CallN X (.builtin "all") kAll := by
  refine ⟨_, cr_all hc, fun H xs ds z O1 S1 Q r hk q => ?_⟩
  unfold kAll at hk
  split at hk
  · obtain ⟨v, rfl, p⟩ := r.one
    obtain ⟨bs, h3, h4⟩ := Option.map_eq_some_iff.mp hk
    subst h4
    obtain ⟨a, vs, _, _, rfl, h, r2, _⟩ := p.lstI
    obtain ⟨e, _⟩ := r2.bls h3
    subst e
    exact ⟨a, bs, rfl, SqL.of h, q _ H (Same.refl H) (fv_sc rfl)⟩
  · cases hk
theorem cn_any (hc : X.calm = true) : CallN X (.builtin "any") kAny := by
  refine ⟨_, cr_any hc, fun H xs ds z O1 S1 Q r hk q => ?_⟩
  unfold kAny at hk
  split at hk
  · obtain ⟨v, rfl, p⟩ := r.one
    obtain ⟨bs, h3, h4⟩ := Option.map_eq_some_iff.mp hk
    subst h4
    obtain ⟨a, vs, _, _, rfl, h, r2, _⟩ := p.lstI
    obtain ⟨e, _⟩ := r2.bls h3
    subst e
    exact ⟨a, bs, rfl, SqL.of h, q _ H (Same.refl H) (fv_sc rfl)⟩
  · cases hk
theorem cn_list : CallN X (.type "list") kList := by
  refine ⟨_, call_list_of, fun H xs ds z O1 S1 Q r hk q => ?_⟩
  unfold kList at hk
  split at hk
  · obtain ⟨v, rfl, p⟩ := r.one
    obtain ⟨ys, h3, h4⟩ := Option.map_eq_some_iff.mp hk
    subst h4
    obtain ⟨a, vs, S2, rfl, sq, r2, hs⟩ := p.kidsN h3
    refine ⟨a, vs, rfl, sq, fun l hl => q _ _ (upd_same' hl) ?_⟩
    exact Fv.mono (cons_new (Same.refl H) hl (fvl_of r2 fun c m => m) r2.snone) fun c m => .inl (hs c m)
  · cases hk
theorem cn_tup : CallN X (.type "tuple") kTup := by
  refine ⟨_, call_tuple_of, fun H xs ds z O1 S1 Q r hk q => ?_⟩
  unfold kTup at hk
  split at hk
  · obtain ⟨v, rfl, p⟩ := r.one
    obtain ⟨ys, h3, h4⟩ := Option.map_eq_some_iff.mp hk
    subst h4
    obtain ⟨a, vs, S2, rfl, sq, r2, hs⟩ := p.kidsN h3
    refine ⟨a, vs, rfl, ?_⟩
    rcases sq with sq | sq
    · refine .inl ⟨sq, fun l hl => q _ _ (upd_same' hl) ?_⟩
      exact ⟨[], S2, .tup (SqT.of upd_same) (r2.same (upd_same' hl)), fun a => Nat.zero_le _, (fun a m => nomatch m), fun a m => ⟨.inl (hs a m), rfl⟩⟩
    · exact .inr ⟨sq, q _ H (Same.refl H) ⟨[], S2, .tup sq r2, fun a => Nat.zero_le _, (fun a m => nomatch m), fun a m => ⟨.inl (hs a m), rfl⟩⟩⟩
  · cases hk
theorem repL_ints {K : PySem.W.Frag} {H : Hp} : ∀ ns : List Int, RepL K H (ns.map V.int) (ns.map D.int) [] []
  | [] => .nil
  | n :: r => .cons (O1 := []) (S1 := []) (.int n) (repL_ints r)
theorem cn_sorted : CallN X (.builtin "sorted") kSorted := by
  refine ⟨_, cr_sortedI.or call_sortedT, fun H xs ds z O1 S1 Q r hk q => ?_⟩
  unfold kSorted at hk
  split at hk
  · obtain ⟨v, rfl, p⟩ := r.one
    obtain ⟨ys, h1, h2⟩ := Option.bind_eq_some_iff.mp hk
    obtain ⟨ns, h3, h4⟩ := Option.map_eq_some_iff.mp h2
    subst h4
    obtain ⟨a, rfl, sq⟩ := int_kids p h1 h3
    have fin : ∀ (ns' : List Int) (p : Addr), ns'.Perm ns → ns'.Pairwise (· ≤ ·) → H p = none → Q (.ref p) (upd H p (.lst (ns'.map V.int))) := fun ns' p h5 h6 np => by
      have e := sortI_eq h5 h6
      subst e
      refine q _ _ (upd_same' np) (Fv.mono (cons_new (S := []) (Same.refl H) np (fvl_of (repL_ints _) fun c m => m) (fun a m => nomatch m)) fun c m => nomatch m)
    rcases sq with sq | sq
    · exact .inl ⟨a, ns, rfl, sq, fin⟩
    · exact .inr ⟨a, ns, rfl, sq, fin⟩
  · cases hk
/-! ### isinstance -/
def tyD : D → Option String
  | .non => some "NoneType"
  | .bl _ => some "bool"
  | .int _ => some "int"
  | .str _ => some "str"
  | .tup _ => some "tuple"
  | .lst _ _ => some "list"
  | .frl _ => some "list"
  | .jnk => none
def isiD (T : String) (g : En → Option D) : En → Option D := fun env => (g env).bind fun d => (tyD d).map fun t => .bl (t == T || (t == "bool" && T == "int"))
theorem tyx_of {K : PySem.W.Frag} {H : Hp} {v : V} {d : D} {O S : List Addr} (r : Rep K H v d O S) {t : String} (h : tyD d = some t) : TyX K H v (.type t) := by
  cases r with
  | non => cases h; exact .base .non
  | bl b => cases h; exact .base (.bl b)
  | int i => cases h; exact .base (.int i)
  | str z => cases h; exact .base (.str z)
  | tup q r =>
    cases h
    rcases q with (q | ⟨o, q⟩) | ⟨o, its, n, q1, q2, _⟩
    · exact .base (.tup q)
    · exact .fTuple q
    · exact .kTuple q1 q2
  | own q r => cases h; exact .base (.lst q)
  | shr q r => cases h; exact .base (.lst q)
  | frl q r =>
    cases h
    rcases q with ⟨o, q⟩ | q
    · exact .base (.frz q)
    · rcases q (fun _ => none) with (q | ⟨o, q⟩) | ⟨o, its, n, q1, q2, _⟩
      · cases q
      · cases q
      · exact .kList q1 q2
theorem kit_tab {K : PySem.W.Frag} {d : D} {t T : String} (h : tyD d = some t) (hT : T ∈ ["int", "bool", "tuple", "list", "str"]) : PySem.W.kitOne K (.type t) (.type T) = some (t == T || (t == "bool" && T == "int")) := by
  have ht : t ∈ ["NoneType", "bool", "int", "str", "tuple", "list"] := by cases d <;> cases h <;> decide
  simp only [List.mem_cons, List.mem_nil_iff, or_false] at hT ht
  rcases ht with rfl | rfl | rfl | rfl | rfl | rfl <;> rcases hT with rfl | rfl | rfl | rfl | rfl <;> exact kit_ty (by decide +kernel)
theorem SX.isi {e : Expr} {g : En → Option D} {p p2 pos : Pos} {x2 : Str} {T : String} (h : SV X e g) (hT : T ∈ ["int", "bool", "tuple", "list", "str"]) (hg : Gl X "isinstance") (hm : X.mg "isinstance" = none)
    (hg2 : Gl X x2) (hm2 : X.mg x2 = none) (hv2 : bootBuiltins x2 = some (.type T)) (hn2 : x2 ≠ "__name__" := by decide) (hd2 : (x2 == ("__debug__" : Str)) = false := by decide)
    (hst : starEach [e, .Name x2 p2] X.env = (false, eval e X.env) :: starEach [.Name x2 p2] X.env := by rfl) (hst2 : starEach [.Name x2 p2] X.env = (false, eval (.Name x2 p2) X.env) :: starEach [] X.env := by rfl)
    (hpl : (backTo pos (starEach [.Name x2 p2] X.env)).any (·.1) = false := by rfl) : SX X (.Call (.Name "isinstance" p) [e, .Name x2 p2] [] pos) (isiD T g) := by
  refine ⟨PE.imp (pe_callB call_isi hg hm (by decide +kernel) (pa_cons h.pe (pa_cons (pe_bltn (v := .ty T) hg2 hm2 hv2 rfl hn2 hd2) pa_nil hst2) hst) (by decide) (by decide) hst hpl) fun σ H Q q => ?_⟩
  obtain ⟨env, O, S, z, gd, hg, q⟩ := q
  obtain ⟨d, h1, h2⟩ := Option.bind_eq_some_iff.mp hg
  obtain ⟨t, h3, h4⟩ := Option.map_eq_some_iff.mp h2
  subst h4
  refine ⟨env, O, S, d, gd, h1, fun v H1 sm x => ?_⟩
  obtain ⟨O1, S1, r, _⟩ := x
  exact ⟨v, .ty T, .type t, .type T, _, rfl, .ty T, tyx_of r h3, kit_tab h3 hT, q _ H1 sm (scV_fv rfl)⟩
/-! ### slices -/
def optI (g : En → Option D) : En → Option (Option Int) := fun env => (g env).bind fun d => match d with | .int i => some (some i) | _ => none
def noI : En → Option (Option Int) := fun _ => some none
def tP (K : PySem.W.Frag) (g : En → Option (Option Int)) : TO := fun σ H Q => ∃ env O S i, Good K H σ env O S ∧ g env = some i ∧ ∀ H', Same H H' → Q i H'
structure SP (X : Cx) (e : Option Expr) (g : En → Option (Option Int)) : Prop where
  po : PO X e (tP X.K g)
theorem PO.imp {e : Option Expr} {t t' : TO} (h : PO X e t) (i : ∀ σ H Q, t' σ H Q → t σ H Q) : PO X e t' := ⟨fun pins s σ H Q I q => h.run pins s σ H Q I (i σ H Q q)⟩
theorem SP.none : SP X none noI := ⟨PO.imp po_none fun σ H Q q => by
  obtain ⟨env, O, S, i, gd, hg, q⟩ := q
  cases hg
  exact q H (Same.refl H)⟩
theorem SP.some {e : Expr} {g : En → Option D} (h : SV X e g) : SP X (some e) (optI g) := ⟨PO.imp (po_some h.pe) fun σ H Q q => by
  obtain ⟨env, O, S, i, gd, hg, q⟩ := q
  obtain ⟨d, h1, h2⟩ := Option.bind_eq_some_iff.mp hg
  refine ⟨env, O, S, d, gd, h1, fun v H1 sm x => ?_⟩
  obtain ⟨O1, S1, r, _⟩ := x
  cases d <;> try (cases h2; done)
  cases h2
  cases r
  exact ⟨_, rfl, q H1 sm⟩⟩
def cutD (xs : List D) (lo hi : Option Int) : List D := (xs.drop (HT.sIx xs.length 0 lo)).take (HT.sIx xs.length xs.length hi - HT.sIx xs.length 0 lo)
def kSl (d : D) (lo hi : Option Int) : Option D := match d with
  | .lst _ xs => if noOwns xs then some (.lst true (cutD xs lo hi)) else none
  | .frl xs => if noOwns xs then some (.lst true (cutD xs lo hi)) else none
  | .tup xs => if noOwns xs && !(HT.sIx xs.length 0 lo == 0 && HT.sIx xs.length xs.length hi == xs.length) then some (.tup (cutD xs lo hi)) else none
  | _ => none
def slG (g : En → Option D) (gl gh : En → Option (Option Int)) : En → Option D := fun env => (g env).bind fun d => (gl env).bind fun lo => (gh env).bind fun hi => kSl d lo hi
theorem SX.slice {e : Expr} {lo hi : Option Expr} {g : En → Option D} {gl gh : En → Option (Option Int)} {pos p2 : Pos} (h : SV X e g) (hl : SP X lo gl) (hh : SP X hi gh) : SX X (.Subscript e (.Slice lo hi .none p2) pos) (slG g gl gh) := by
  refine ⟨PE.imp (pe_slice (sl_list.or sl_tup) h.pe hl.po hh.po) fun σ H Q q => ?_⟩
  obtain ⟨env, O, S, z, gd, hg, q⟩ := q
  obtain ⟨d, h1, h2⟩ := Option.bind_eq_some_iff.mp hg
  obtain ⟨a, h3, h4⟩ := Option.bind_eq_some_iff.mp h2
  obtain ⟨b, h5, h6⟩ := Option.bind_eq_some_iff.mp h4
  refine ⟨env, O, S, d, gd, h1, fun v H1 s1 x => ?_⟩
  refine ⟨env, O, S, a, gd.same s1, h3, fun H2 s2 => ?_⟩
  refine ⟨env, O, S, b, gd.same (s1.trans s2), h5, fun H3 s3 => ?_⟩
  obtain ⟨O1, S1, r, ho, hs⟩ := x.up (s2.trans s3)
  have s13 := (s1.trans s2).trans s3
  have key : ∀ {vs : List V} {ds : List D} {S2 : List Addr}, RepL X.K H3 vs ds [] S2 → (∀ c ∈ S2, c ∈ S1) → ∃ S3, RepL X.K H3 (cutV vs a b) (cutD ds a b) [] S3 ∧ ∀ c ∈ S3, c ∈ S1 := by
    intro vs ds S2 r2 hs2
    unfold cutV cutD
    rw [r2.length]
    obtain ⟨S3, r3, h7⟩ := cut_kids r2 (HT.sIx ds.length 0 a) (HT.sIx ds.length ds.length b - HT.sIx ds.length 0 a)
    exact ⟨S3, r3, fun c m => hs2 c (h7 c m)⟩
  have lst : ∀ {p : Addr} {vs : List V} {ds : List D} {S2 : List Addr}, SqL X.K H3 p vs → RepL X.K H3 vs ds [] S2 → (∀ c ∈ S2, c ∈ S1) → z = .lst true (cutD ds a b) → (rSlL X.K (.ref p) a b H3 Q ∨ rSlT X.K (.ref p) a b H3 Q) := by
    intro p vs ds S2 sq r2 hs2 ez
    obtain ⟨S3, r3, h7⟩ := key r2 hs2
    subst ez
    refine .inl ⟨p, vs, rfl, sq, fun t ht => q _ _ (s13.trans (upd_same' ht)) ?_⟩
    refine Fv.mono ((cons_new (Same.refl H3) ht (fvl_of r3 fun c m => m) r3.snone).base s13) fun c m => hs c (h7 c m)
  cases r with
  | own w r2 =>
    simp only [kSl] at h6
    split at h6
    · rename_i n
      cases h6
      have e0 := r2.noOwn n
      subst e0
      exact lst (SqL.of w) r2 (fun c m => m) rfl
    · cases h6
  | shr w r2 =>
    simp only [kSl] at h6
    split at h6
    · cases h6
      exact lst (SqL.of w) r2 (fun c m => List.mem_cons_of_mem _ m) rfl
    · cases h6
  | frl w r2 =>
    simp only [kSl] at h6
    split at h6
    · rename_i n
      cases h6
      have e0 := r2.noOwn n
      subst e0
      exact lst w.seq r2 (fun c m => m) rfl
    · cases h6
  | tup w r2 =>
    simp only [kSl] at h6
    split at h6
    · rename_i n
      cases h6
      rw [Bool.and_eq_true] at n
      have e0 := r2.noOwn n.1
      subst e0
      obtain ⟨S3, r3, h7⟩ := key r2 (fun c m => m)
      refine .inr ⟨_, _, rfl, w, ?_, fun t ht => q _ _ (s13.trans (upd_same' ht)) ?_⟩
      · rw [r2.length]
        rintro ⟨a1, a2⟩
        have n2 := n.2
        rw [a1, a2] at n2
        simp at n2
      · refine Fv.mono (S1 := S3) (Fv.base s13 ⟨[], S3, .tup (SqT.of upd_same) (r3.same (upd_same' ht)), fun a => Nat.zero_le _, (fun a m => nomatch m), fun a m => ⟨.inl m, rfl⟩⟩) fun c m => hs c (h7 c m)
    · cases h6
  | _ => cases h6
end
end LT

set_option Elab.async false
set_option linter.all false
set_option maxRecDepth 100000
set_option maxHeartbeats 1000000
namespace LT
open PySem PySem.Spec PyProof.Rows L2

section
variable {K : PySem.W.Frag} {H H1 : Hp} {σ : List (Option V)} {env : En} {O S : List Addr}
/-- the first one stays, some behind it are dropped -/
theorem Good.keep1 {x : Option V} {d : D} {xs : List (Option V)} {ds : List D} (hl : xs.length = ds.length) (g : Good K H (x :: (xs ++ σ)) (d :: (ds ++ env)) O S) : ∃ O' S', Good K H (x :: σ) (d :: env) O' S' ∧ Step H H O O' S S' := by
  have h := g.sl
  cases h with
  | jnk r =>
    obtain ⟨O1, S1, O2, S2, h1, h2, e1, e2⟩ := r.split hl
    subst e1 e2
    exact ⟨_, _, g.re (.jnk h2) (.of (fun a => by rw [List.count_append]; omega) (fun a m => List.mem_append_right _ m)) fr_refl⟩
  | cons q r =>
    obtain ⟨O1, S1, O2, S2, h1, h2, e1, e2⟩ := r.split hl
    subst e1 e2
    refine ⟨_, _, g.re (.cons q h2) (.of (fun a => ?_) (fun a m => ?_)) fr_refl⟩
    · simp only [List.count_append]; omega
    · simp only [List.mem_append] at m ⊢
      rcases m with m | m
      · exact .inl m
      · exact .inr (.inr m)
/-- a new value made of held ones, which are dropped -/
theorem Good.made {v : V} {z : D} {xs : List (Option V)} {ds : List D} {S1 : List Addr} (hl : xs.length = ds.length) (g : Good K H (xs ++ σ) (ds ++ env) O S) (sm : Same H H1) (x : Fv K H H1 v z S1) (hs : ∀ c ∈ S1, c ∈ S) :
    ∃ O' S', Good K H1 (some v :: σ) (z :: env) O' S' ∧ Step H H1 O O' S S' := by
  obtain ⟨O1, S2, g1, st1⟩ := g.held1 sm (x.mono fun c m => .inl (hs c m))
  obtain ⟨O2, S3, g2, st2⟩ := g1.keep1 hl
  exact ⟨O2, S3, g2, st1.trans st2⟩
end

/-! ### expressions that may change lists -/
def tEs (K : PySem.W.Frag) (f : En → Option (List D × En)) : TA := fun σ H Q => ∃ env O S ds env', Good K H σ env O S ∧ f env = some (ds, env') ∧
  ∀ vs H' O' S', vs.length = ds.length → (∀ d ∈ ds, d ≠ .jnk) → Good K H' (vs.map some ++ σ) (ds ++ env') O' S' → Step H H' O O' S S' → Q vs H'
structure SEs (X : Cx) (es : List Expr) (f : En → Option (List D × En)) : Prop where
  pa : PA X es (tEs X.K f)
def bin2E (k : D → D → Option D) (fa fb : En → Option (D × En)) : En → Option (D × En) := fun env => (fa env).bind fun p => (fb p.2).bind fun q => (k p.1 q.1).map fun z => (z, q.2)
def consE (f : En → Option (D × En)) (fs : En → Option (List D × En)) : En → Option (List D × En) := fun env => (f env).bind fun p => (fs p.2).map fun q => (p.1 :: q.1, q.2)
def callE (k : List D → Option D) (fs : En → Option (List D × En)) : En → Option (D × En) := fun env => (fs env).bind fun p => (k p.1).map fun z => (z, p.2)
section
variable {X : Cx} {a b e : Expr} {es : List Expr} {fa fb f : En → Option (D × En)} {fs : En → Option (List D × En)} {pos : Pos} {k : D → D → Option D}
/-- two held values, one behind the other -/
theorem two_held {σ : L2.St} {H : Hp} {Q : VK} (h : tE X.K (bin2E k fa fb) σ H Q) {r : R2}
    (hr : ∀ (H : Hp) (x y : V) (dx dy z : D) (O1 S1 O2 S2 : List Addr) (Q : VK), Rep X.K H x dx O1 S1 → Rep X.K H y dy O2 S2 → k dx dy = some z → (∀ v H', Same H H' → Fv X.K H H' v z (S1 ++ S2) → Q v H') → r x y H Q) :
    tOp r (tE X.K fa) (tE X.K fb) σ H Q := by
  obtain ⟨env, O, S, z, env', gd, hg, q⟩ := h
  obtain ⟨⟨dx, e1⟩, h0, h1⟩ := Option.bind_eq_some_iff.mp hg
  obtain ⟨⟨dy, e2⟩, h2, h3⟩ := Option.bind_eq_some_iff.mp h1
  obtain ⟨z', h4, h5⟩ := Option.map_eq_some_iff.mp h3
  cases h5
  refine ⟨env, O, S, dx, e1, gd, h0, fun x H1 O1 S1 n1 g1 st1 => ?_⟩
  obtain ⟨Oσ, Sσ, g1', _, lift⟩ := Good.lift (xs := [some x]) (ds := [dx]) g1 rfl
  refine ⟨e1, Oσ, Sσ, dy, e2, g1', h2, fun y H2 O2 S2 n2 g2 st2 => ?_⟩
  obtain ⟨O3, S3, g3, st3⟩ := lift H2 (some y :: σ) (dy :: e2) O2 S2 g2 st2
  obtain ⟨Ox, Sx, O4, S4, rx, sl4, eo, es⟩ := Good.head g3 n1
  cases sl4 with
  | jnk _ => exact absurd rfl n2
  | @cons _ _ _ _ Oy Sy O5 S5 ry r5 =>
    refine hr H2 x y dx dy z Ox Sx Oy Sy Q rx ry h4 fun v H' sm w => ?_
    obtain ⟨O6, S6, g6, st6⟩ := Good.made (xs := [some x, some y]) (ds := [dx, dy]) rfl g3 sm w fun c m => by
      rw [es]
      rcases List.mem_append.mp m with m | m
      · exact List.mem_append_left _ m
      · exact List.mem_append_right _ (List.mem_append_left _ m)
    exact q v H' O6 S6 w.nj g6 ((st1.trans st3).trans st6)
theorem SE.op {op : Operator} (ho : OpN X (binaryOp op) k) (ha : SE X a fa) (hb : SE X b fb) : SE X (.BinOp a op b pos) (bin2E k fa fb) := by
  obtain ⟨r, h1, h2⟩ := ho.ex
  exact ⟨PE.imp (pe_op h1 ha.pe hb.pe) fun σ H Q q => two_held q h2⟩
theorem SE.cmp {op : CmpOp} (ho : OpN X (compareOp op) k) (ha : SE X a fa) (hb : SE X b fb) (hm : behindInMarks op b = false) : SE X (.Compare a [op] [b] pos) (bin2E k fa fb) := by
  obtain ⟨r, h1, h2⟩ := ho.ex
  exact ⟨PE.imp (pe_cmpR h1 ha.pe hb.pe hm) fun σ H Q q => two_held q h2⟩
theorem tE_bool {f : En → Option (D × En)} {σ : L2.St} {H : Hp} {Q : Bool → Hp → Prop} (h : tT X.K (tstE f) σ H Q) : tE X.K f σ H (fun x H' => ∃ k, x = .bl k ∧ Q k H') := by
  obtain ⟨env, O, S, b, env', gd, hg, q⟩ := h
  obtain ⟨⟨d, e1⟩, h0, h1⟩ := Option.bind_eq_some_iff.mp hg
  obtain ⟨b', h2, h3⟩ := Option.map_eq_some_iff.mp h1
  cases h3
  have e := asB_some h2
  simp only at e
  subst e
  refine ⟨env, O, S, _, _, gd, h0, fun v H' O' S' n g st => ?_⟩
  obtain ⟨O1, S1, O2, S2, r, _, _, _⟩ := Good.head g n
  obtain ⟨O3, S3, g3, st3⟩ := g.drop
  cases r
  exact ⟨b, rfl, q H' O3 S3 g3 (st.trans st3)⟩
theorem ST.cmp {op : CmpOp} (ho : OpN X (compareOp op) k) (ha : SE X a fa) (hb : SE X b fb) (hm : behindInMarks op b = false) : ST X (.Compare a [op] [b] pos) (tstE (bin2E k fa fb)) := by
  obtain ⟨r, h1, h2⟩ := ho.ex
  exact ⟨PT.imp (pt_cmpR h1 ha.pe hb.pe hm) fun σ H Q q => two_held (tE_bool q) h2⟩
theorem ST.val (h : SE X e f) (he : ∀ whole, isTrue e X.env whole = (do let v ← whole; standAt e.pos; holding [v] (truthy v)) := by intro _; rfl) : ST X e (tstE f) :=
  ⟨PT.imp (pt_val h.pe he) fun σ H Q q => tE_bool q⟩
theorem SB.st {t : En → Option Bool} (h : SB X e t) : ST X e (upB t) := ⟨PT.imp h.pt fun σ H Q q => by
  obtain ⟨env, O, S, b, env', gd, hg, q⟩ := q
  obtain ⟨b', h0, h1⟩ := Option.map_eq_some_iff.mp hg
  cases h1
  exact ⟨env, O, S, _, gd, h0, fun H' sm => q H' O S (gd.same sm) (.same sm)⟩⟩
def andT (ta tb : En → Option (Bool × En)) : En → Option (Bool × En) := fun env => (ta env).bind fun p => if p.1 then tb p.2 else some (false, p.2)
def orT (ta tb : En → Option (Bool × En)) : En → Option (Bool × En) := fun env => (ta env).bind fun p => if p.1 then some (true, p.2) else tb p.2
def notT (ta : En → Option (Bool × En)) : En → Option (Bool × En) := fun env => (ta env).map fun p => (!p.1, p.2)
variable {ta tb : En → Option (Bool × En)} {rest : List Expr}
theorem ST.and1 (ha : ST X a ta) : SWT X (.BoolOp .And [a] pos) ta := ⟨pw_and1 ha.pt⟩
theorem ST.or1 (ha : ST X a ta) : SWT X (.BoolOp .Or [a] pos) ta := ⟨pw_or1 ha.pt⟩
theorem ST.and (ha : ST X a ta) (hb : SWT X (.BoolOp .And (b :: rest) pos) tb) : SWT X (.BoolOp .And (a :: b :: rest) pos) (andT ta tb) := ⟨PW.imp (pw_and ha.pt hb.pw) fun σ H Q q => by
  obtain ⟨env, O, S, z, env', gd, hg, q⟩ := q
  obtain ⟨⟨c, e1⟩, h0, h1⟩ := Option.bind_eq_some_iff.mp hg
  refine ⟨env, O, S, c, e1, gd, h0, fun H1 O1 S1 g1 st1 => ?_⟩
  cases c with
  | true => exact ⟨e1, O1, S1, z, env', g1, h1, fun H2 O2 S2 g2 st2 => q H2 O2 S2 g2 (st1.trans st2)⟩
  | false => cases h1; exact q H1 O1 S1 g1 st1⟩
theorem ST.or (ha : ST X a ta) (hb : SWT X (.BoolOp .Or (b :: rest) pos) tb) : SWT X (.BoolOp .Or (a :: b :: rest) pos) (orT ta tb) := ⟨PW.imp (pw_or ha.pt hb.pw) fun σ H Q q => by
  obtain ⟨env, O, S, z, env', gd, hg, q⟩ := q
  obtain ⟨⟨c, e1⟩, h0, h1⟩ := Option.bind_eq_some_iff.mp hg
  refine ⟨env, O, S, c, e1, gd, h0, fun H1 O1 S1 g1 st1 => ?_⟩
  cases c with
  | false => exact ⟨e1, O1, S1, z, env', g1, h1, fun H2 O2 S2 g2 st2 => q H2 O2 S2 g2 (st1.trans st2)⟩
  | true => cases h1; exact q H1 O1 S1 g1 st1⟩
theorem SWT.st (h : SWT X e ta) : ST X e ta := ⟨h.pw.pt⟩
theorem ST.not (ha : ST X a ta) : ST X (.UnaryOp .Not a pos) (notT ta) := ⟨PT.imp (pt_not ha.pt) fun σ H Q q => by
  obtain ⟨env, O, S, z, env', gd, hg, q⟩ := q
  obtain ⟨⟨c, e1⟩, h0, h1⟩ := Option.map_eq_some_iff.mp hg
  cases h1
  exact ⟨env, O, S, c, _, gd, h0, fun H1 O1 S1 g1 st1 => q H1 O1 S1 g1 st1⟩⟩
def ifE (t : En → Option (Bool × En)) (fa fb : En → Option (D × En)) : En → Option (D × En) := fun env => (t env).bind fun p => if p.1 then fa p.2 else fb p.2
theorem SE.ifExp {c : Expr} (hc : ST X c ta) (ha : SE X a fa) (hb : SE X b fb) : SE X (.IfExp c a b pos) (ifE ta fa fb) := ⟨PE.imp (pe_ifExp hc.pt ha.pe hb.pe) fun σ H Q q => by
  obtain ⟨env, O, S, z, env', gd, hg, q⟩ := q
  obtain ⟨⟨c, e1⟩, h0, h1⟩ := Option.bind_eq_some_iff.mp hg
  refine ⟨env, O, S, c, e1, gd, h0, fun H1 O1 S1 g1 st1 => ?_⟩
  cases c with
  | true => exact ⟨e1, O1, S1, z, env', g1, h1, fun v H2 O2 S2 n g2 st2 => q v H2 O2 S2 n g2 (st1.trans st2)⟩
  | false => exact ⟨e1, O1, S1, z, env', g1, h1, fun v H2 O2 S2 n g2 st2 => q v H2 O2 S2 n g2 (st1.trans st2)⟩⟩
theorem SEs.nil : SEs X [] (fun env => some ([], env)) := ⟨PA.imp pa_nil fun σ H Q q => by
  obtain ⟨env, O, S, d, env', gd, hg, q⟩ := q
  cases hg
  exact q [] H O S rfl (fun d m => nomatch m) gd .refl⟩
theorem SEs.cons (h : SE X e f) (hs : SEs X es fs) (hst : starEach (e :: es) X.env = (false, eval e X.env) :: starEach es X.env := by rfl) : SEs X (e :: es) (consE f fs) := ⟨PA.imp (pa_cons h.pe hs.pa hst) fun σ H Q q => by
  obtain ⟨env, O, S, ds, env', gd, hg, q⟩ := q
  obtain ⟨⟨d, e1⟩, h0, h1⟩ := Option.bind_eq_some_iff.mp hg
  obtain ⟨⟨ds', e2⟩, h2, h3⟩ := Option.map_eq_some_iff.mp h1
  cases h3
  refine ⟨env, O, S, d, e1, gd, h0, fun x H1 O1 S1 n1 g1 st1 => ?_⟩
  obtain ⟨Oσ, Sσ, g1', _, lift⟩ := Good.lift (xs := [some x]) (ds := [d]) g1 rfl
  refine ⟨e1, Oσ, Sσ, ds', _, g1', h2, fun vs H2 O2 S2 hl nn g2 st2 => ?_⟩
  obtain ⟨O3, S3, g3, st3⟩ := lift H2 _ _ O2 S2 g2 st2
  refine q (x :: vs) H2 O3 S3 (by simp [hl]) (fun c m => ?_) g3 (st1.trans st3)
  rcases List.mem_cons.mp m with e | m
  · exact e ▸ n1
  · exact nn c m⟩
theorem repL_of {K : PySem.W.Frag} {H : Hp} {vs : List V} {ds : List D} {σ : List (Option V)} {env : En} {O S : List Addr} (g : Good K H (vs.map some ++ σ) (ds ++ env) O S) (hl : vs.length = ds.length) (nn : ∀ d ∈ ds, d ≠ .jnk) :
    ∃ O1 S1 O2 S2, RepL K H vs ds O1 S1 ∧ SL K H σ env O2 S2 ∧ O = O1 ++ O2 ∧ S = S1 ++ S2 := by
  obtain ⟨O1, S1, O2, S2, h1, h2, e1, e2⟩ := g.sl.split (by simpa using hl)
  exact ⟨O1, S1, O2, S2, RepL.of_sl h1 nn, h2, e1, e2⟩
theorem SE.callB {x : Str} {id : String} {k : List D → Option D} {npos : Pos} (ho : CallN X (.builtin id) k) (hg : Gl X x) (hm : X.mg x = none) (hv : bootBuiltins x = some (.builtin id)) (ha : SEs X (e :: es) fs) (hn : x ≠ "__name__" := by decide) (hdb : (x == ("__debug__" : Str)) = false := by decide)
    (hplain : starEach (e :: es) X.env = (false, eval e X.env) :: starEach es X.env := by rfl) (hpl : (backTo pos (starEach es X.env)).any (·.1) = false := by rfl) :
    SE X (.Call (.Name x npos) (e :: es) [] pos) (callE k fs) := by
  obtain ⟨r, h1, h2⟩ := ho.ex
  refine ⟨PE.imp (pe_callB h1 hg hm hv ha.pa hn hdb hplain hpl) fun σ H Q q => ?_⟩
  obtain ⟨env, O, S, z, env', gd, hg, q⟩ := q
  obtain ⟨⟨ds, e1⟩, h0, h3⟩ := Option.bind_eq_some_iff.mp hg
  obtain ⟨z', h4, h5⟩ := Option.map_eq_some_iff.mp h3
  cases h5
  refine ⟨env, O, S, ds, _, gd, h0, fun vs H1 O1 S1 hl nn g1 st1 => ?_⟩
  obtain ⟨O2, S2, O3, S3, r2, _, _, es2⟩ := repL_of g1 hl nn
  refine h2 H1 vs ds z O2 S2 Q r2 h4 fun v H' sm w => ?_
  obtain ⟨O4, S4, g4, st4⟩ := Good.made (by simpa using hl) g1 sm w fun c m => by rw [es2]; exact List.mem_append_left _ m
  exact q v H' O4 S4 w.nj g4 (st1.trans st4)
theorem SE.callTy {x : Str} {T : String} {k : List D → Option D} {npos : Pos} (ho : CallN X (.type T) k) (hg : Gl X x) (hm : X.mg x = none) (hv : bootBuiltins x = some (.type T)) (ha : SEs X (e :: es) fs) (hn : x ≠ "__name__" := by decide) (hdb : (x == ("__debug__" : Str)) = false := by decide)
    (hplain : starEach (e :: es) X.env = (false, eval e X.env) :: starEach es X.env := by rfl) (hpl : (backTo pos (starEach es X.env)).any (·.1) = false := by rfl) :
    SE X (.Call (.Name x npos) (e :: es) [] pos) (callE k fs) := by
  obtain ⟨r, h1, h2⟩ := ho.ex
  refine ⟨PE.imp (pe_callTy h1 hg hm hv ha.pa hn hdb hplain hpl) fun σ H Q q => ?_⟩
  obtain ⟨env, O, S, z, env', gd, hg, q⟩ := q
  obtain ⟨⟨ds, e1⟩, h0, h3⟩ := Option.bind_eq_some_iff.mp hg
  obtain ⟨z', h4, h5⟩ := Option.map_eq_some_iff.mp h3
  cases h5
  refine ⟨env, O, S, ds, _, gd, h0, fun vs H1 O1 S1 hl nn g1 st1 => ?_⟩
  obtain ⟨O2, S2, O3, S3, r2, _, _, es2⟩ := repL_of g1 hl nn
  refine h2 H1 vs ds z O2 S2 Q r2 h4 fun v H' sm w => ?_
  obtain ⟨O4, S4, g4, st4⟩ := Good.made (by simpa using hl) g1 sm w fun c m => by rw [es2]; exact List.mem_append_left _ m
  exact q v H' O4 S4 w.nj g4 (st1.trans st4)
def tupE (fs : En → Option (List D × En)) : En → Option (D × En) := fun env => (fs env).bind fun p => if p.1.length ≤ sizeLine then some (.tup p.1, p.2) else none
def lstE (fs : En → Option (List D × En)) : En → Option (D × En) := fun env => (fs env).bind fun p => if p.1.length ≤ sizeLine then some (.lst true p.1, p.2) else none
theorem SE.tup {x1 : Nat} (h : SEs X es fs) : SE X (.Tuple es x1 pos) (tupE fs) := ⟨PE.imp (pe_tup h.pa) fun σ H Q q => by
  obtain ⟨env, O, S, z, env', gd, hg, q⟩ := q
  obtain ⟨⟨ds, e1⟩, h0, h1⟩ := Option.bind_eq_some_iff.mp hg
  by_cases n : ds.length ≤ sizeLine
  · simp only at h1
    rw [if_pos n] at h1
    cases h1
    refine ⟨env, O, S, ds, _, gd, h0, fun vs H1 O1 S1 hl nn g1 st1 => ?_⟩
    refine ⟨by rw [hl]; exact n, fun p np => ?_⟩
    obtain ⟨O2, S2, g2, st2⟩ := g1.newTup nn hl np
    exact q _ _ O2 S2 (fun z => nomatch z) g2 (st1.trans st2)
  · simp only at h1
    rw [if_neg n] at h1; cases h1⟩
theorem SE.lst (h : SEs X es fs) : SE X (.List es pos) (lstE fs) := ⟨PE.imp (pe_lst h.pa) fun σ H Q q => by
  obtain ⟨env, O, S, z, env', gd, hg, q⟩ := q
  obtain ⟨⟨ds, e1⟩, h0, h1⟩ := Option.bind_eq_some_iff.mp hg
  by_cases n : ds.length ≤ sizeLine
  · simp only at h1
    rw [if_pos n] at h1
    cases h1
    refine ⟨env, O, S, ds, _, gd, h0, fun vs H1 O1 S1 hl nn g1 st1 => ?_⟩
    refine ⟨by rw [hl]; exact n, fun p np => ?_⟩
    obtain ⟨O2, S2, g2, st2⟩ := g1.newList nn hl np
    exact q _ _ O2 S2 (fun z => nomatch z) g2 (st1.trans st2)
  · simp only at h1
    rw [if_neg n] at h1; cases h1⟩
/-! names as values: made read-only, or moved -/
def frzN (i : Nat) : En → Option (D × En) := fun env => (rd i env).map fun d => (fz d, env.set i (fz d))
def movN (i : Nat) : En → Option (D × En) := fun env => (rd i env).map fun d => if noOwn d then (d, env) else (d, env.set i .jnk)
theorem fz_nj {d : D} (h : d ≠ .jnk) : fz d ≠ .jnk := by cases d <;> first | exact absurd rfl h | exact fun z => nomatch z
theorem SE.frz (i : Nat) {x : Str} {pos : Pos} (hN : X.N[i]? = some x := by rfl) (hv : Vis X.env.scope x := by first | exact Or.inl rfl | exact Or.inr (Or.inl rfl) | exact Or.inr (Or.inr rfl)) (hd : (x == ("__debug__" : Str)) = false := by decide)
    (hcd : (x == ("__classdict__" : Str)) = false := by decide) : SE X (.Name x pos) (frzN i) := ⟨PE.imp (pe_var hN hv hd hcd) fun σ H Q q => by
  obtain ⟨env, O, S, d, env', gd, hg, q⟩ := q
  obtain ⟨d0, h0, h1⟩ := Option.map_eq_some_iff.mp hg
  cases h1
  obtain ⟨h1, h2⟩ := rd_some h0
  obtain ⟨v, O1, S1, O2, S2, e1, r, sl, hc, hs1, hs2⟩ := gd.sl.take h1 h2
  obtain ⟨S3, rf, hs3⟩ := r.fz
  obtain ⟨O4, S4, sl4, hc4, hs4⟩ := SL.put (d := fz d0) sl e1 rf
  rw [List.set_set] at sl4
  refine ⟨v, e1, ?_⟩
  have key : ∀ c, c ∈ S3 → c ∈ S ∨ c ∈ O1 := fun c m => (hs3 c m).elim .inr fun z => .inl (hs1 c z)
  have hre : Re O S ([] ++ O4) (S3 ++ S4) := by
    refine ⟨O1, fun a => ?_, fun a m => ?_⟩
    · have := hc a; have := hc4 a
      simp only [List.nil_append, List.count_nil] at *
      omega
    · rcases List.mem_append.mp m with m | m
      · exact key a m
      · rcases hs4 a m with z | z
        · exact key a z
        · exact .inl (hs2 a z)
  obtain ⟨g', st'⟩ := gd.re (.cons rf sl4) hre fr_refl
  exact q v H _ _ (fz_nj h2) g' st'⟩
theorem SE.mov (i : Nat) {x : Str} {pos : Pos} (hN : X.N[i]? = some x := by rfl) (hv : Vis X.env.scope x := by first | exact Or.inl rfl | exact Or.inr (Or.inl rfl) | exact Or.inr (Or.inr rfl)) (hd : (x == ("__debug__" : Str)) = false := by decide)
    (hcd : (x == ("__classdict__" : Str)) = false := by decide) : SE X (.Name x pos) (movN i) := ⟨PE.imp (pe_var hN hv hd hcd) fun σ H Q q => by
  obtain ⟨env, O, S, d, env', gd, hg, q⟩ := q
  obtain ⟨d0, h0, h1⟩ := Option.map_eq_some_iff.mp hg
  obtain ⟨h2, h3⟩ := rd_some h0
  by_cases n : noOwn d0 = true
  · rw [if_pos n] at h1
    cases h1
    obtain ⟨v, O1, S1, O2, S2, e1, r, sl, hc, hs1, hs2⟩ := gd.sl.take h2 h3
    obtain ⟨O3, S3, g3, st3⟩ := gd.copy r n hs1
    exact ⟨v, e1, q v H O3 S3 h3 g3 st3⟩
  · rw [if_neg n] at h1
    cases h1
    obtain ⟨v, e1, O3, S3, g3, st3⟩ := gd.take h2 h3
    exact ⟨v, e1, q v H O3 S3 h3 g3 st3⟩⟩
/-! an item of a name's list, the place reckoned by what may change lists -/
def ixNE (i : Nat) (f : En → Option (D × En)) : En → Option (D × En) := fun env => (rd i env).bind fun _ => (f env).bind fun p => (rd i p.2).bind fun d => (kIx d p.1).bind fun z => if noOwn z then some (z, p.2) else none
theorem SE.ixN (i : Nat) {x : Str} {pos ipos : Pos} (h : SE X b f) (hN : X.N[i]? = some x := by rfl) (hv : Vis X.env.scope x := by first | exact Or.inl rfl | exact Or.inr (Or.inl rfl) | exact Or.inr (Or.inr rfl)) (hd : (x == ("__debug__" : Str)) = false := by decide)
    (hcd : (x == ("__classdict__" : Str)) = false := by decide) (hs : PlainIx b := by exact fun _ _ => rfl) : SE X (.Subscript (.Name x ipos) b pos) (ixNE i f) := by
  obtain ⟨r, hr1, hr2⟩ := (ix_N (X := X)).ex
  refine ⟨PE.imp (pe_ix hr1 (pe_var hN hv hd hcd) h.pe hs) fun σ H Q q => ?_⟩
  obtain ⟨env, O, S, z, env', gd, hg, q⟩ := q
  obtain ⟨d0, h0, h1⟩ := Option.bind_eq_some_iff.mp hg
  obtain ⟨⟨di, e1⟩, h2, h3⟩ := Option.bind_eq_some_iff.mp h1
  obtain ⟨d1, h4, h5⟩ := Option.bind_eq_some_iff.mp h3
  obtain ⟨z', h6, h7⟩ := Option.bind_eq_some_iff.mp h5
  by_cases n : LT.noOwn z' = true
  · rw [if_pos n] at h7
    cases h7
    obtain ⟨k1, k2⟩ := rd_some h0
    obtain ⟨v, _, _, _, _, ev, _⟩ := gd.sl.take k1 k2
    refine ⟨v, ev, env, O, S, di, _, gd, h2, fun y H1 O1 S1 n1 g1 st1 => ?_⟩
    obtain ⟨k3, k4⟩ := rd_some h4
    have h8 := g1.sl
    cases h8 with
    | jnk _ => exact absurd rfl n1
    | cons ri sl1 =>
      obtain ⟨v', O2, S2, O3, S3, ev', rl, _, hc, hs1, _⟩ := sl1.take k3 k4
      rw [ev] at ev'
      cases ev'
      refine hr2 H1 v y d1 di z O2 S2 _ _ Q rl ri h6 fun v2 H2 Oz Sz sm rz ho hsz => ?_
      have fvz : Fv X.K H1 H2 v2 z Sz := by
        have e0 := rz.noOwn n
        subst e0
        exact ⟨[], Sz, rz, fun a => Nat.zero_le _, (fun a m => nomatch m), fun a m => ⟨.inl m, rfl⟩⟩
      obtain ⟨O4, S4, g4, st4⟩ := Good.made (xs := [some y]) (ds := [di]) rfl g1 sm fvz fun c m => List.mem_append_right _ (hs1 c (hsz c m))
      exact q v2 H2 O4 S4 fvz.nj g4 (st1.trans st4)
  · rw [if_neg n] at h7; cases h7
/-- .. of a held value -/
def ixE (fa fb : En → Option (D × En)) : En → Option (D × En) := fun env => (fa env).bind fun p => (fb p.2).bind fun q => (kIx p.1 q.1).bind fun z => if noOwn z then some (z, q.2) else none
theorem SE.ix (ha : SE X a fa) (hb : SE X b fb) (hs : PlainIx b := by exact fun _ _ => rfl) : SE X (.Subscript a b pos) (ixE fa fb) := by
  obtain ⟨r, hr1, hr2⟩ := (ix_N (X := X)).ex
  refine ⟨PE.imp (pe_ix hr1 ha.pe hb.pe hs) fun σ H Q q => ?_⟩
  obtain ⟨env, O, S, z, env', gd, hg, q⟩ := q
  obtain ⟨⟨dx, e1⟩, h0, h1⟩ := Option.bind_eq_some_iff.mp hg
  obtain ⟨⟨dy, e2⟩, h2, h3⟩ := Option.bind_eq_some_iff.mp h1
  obtain ⟨z', h6, h7⟩ := Option.bind_eq_some_iff.mp h3
  by_cases n : LT.noOwn z' = true
  · rw [if_pos n] at h7
    cases h7
    refine ⟨env, O, S, dx, e1, gd, h0, fun x H1 O1 S1 n1 g1 st1 => ?_⟩
    obtain ⟨Oσ, Sσ, g1', _, lift⟩ := Good.lift (xs := [some x]) (ds := [dx]) g1 rfl
    refine ⟨e1, Oσ, Sσ, dy, _, g1', h2, fun y H2 O2 S2 n2 g2 st2 => ?_⟩
    obtain ⟨O3, S3, g3, st3⟩ := lift H2 (some y :: σ) (dy :: _) O2 S2 g2 st2
    obtain ⟨Ox, Sx, O4, S4, rx, sl4, eo, es⟩ := Good.head g3 n1
    cases sl4 with
    | jnk _ => exact absurd rfl n2
    | @cons _ _ _ _ Oy Sy O5 S5 ry r5 =>
      refine hr2 H2 x y dx dy z Ox Sx Oy Sy Q rx ry h6 fun v2 H3 Oz Sz sm rz ho hsz => ?_
      have fvz : Fv X.K H2 H3 v2 z Sz := by
        have e0 := rz.noOwn n
        subst e0
        exact ⟨[], Sz, rz, fun a => Nat.zero_le _, (fun a m => nomatch m), fun a m => ⟨.inl m, rfl⟩⟩
      obtain ⟨O6, S6, g6, st6⟩ := Good.made (xs := [some x, some y]) (ds := [dx, dy]) rfl g3 sm fvz fun c m => by
        rw [es]
        exact List.mem_append_left _ (hsz c m)
      exact q v2 H3 O6 S6 fvz.nj g6 ((st1.trans st3).trans st6)
  · rw [if_neg n] at h7; cases h7
end

/-! ### a list of a slot is changed -/
section
variable {K : PySem.W.Frag} {H : Hp} {σ : List (Option V)} {env : En} {O S : List Addr}
theorem Fr.upd_at {p : Addr} {o : HO} : Fr H (upd H p o) [p] := fun a u e n => by
  rw [upd_ne (fun z => n (by rw [z]; exact List.mem_singleton_self p))]; exact e
/-- the list of a slot gets other items, made of its own and of held values; some values are held behind -/
theorem Good.relist {i : Nat} {xs : List (Option V)} {dxs ds : List D} (g : Good K H (xs ++ σ) (dxs ++ env) O S) (hl : xs.length = dxs.length) (e : env[i]? = some (.lst true ds)) :
    ∃ p vs, σ[i]? = some (some (.ref p)) ∧ H p = some (.lst vs) ∧ vs.length = ds.length ∧ ∃ Oc Sc Ox Sx, RepL K H vs ds Oc Sc ∧ SL K H xs dxs Ox Sx ∧
      ∀ vs' ds' ys dys Oc' Sc' Oy Sy, RepL K H vs' ds' Oc' Sc' → SL K H ys dys Oy Sy → ys.length = dys.length → (∀ a, Oc'.count a + Oy.count a ≤ Oc.count a + Ox.count a) → (∀ a ∈ Sc', a ∈ Sc ∨ a ∈ Sx) → (∀ a ∈ Sy, a ∈ Sc ∨ a ∈ Sx) →
        ∃ O' S', Good K (upd H p (.lst vs')) (ys ++ σ) (dys ++ env.set i (.lst true ds')) O' S' ∧ Step H (upd H p (.lst vs')) O O' S S' := by
  obtain ⟨Ox, Sx, Oσ, Sσ, hx, hσ, eO, eS⟩ := g.sl.split hl
  obtain ⟨v, O1, S1, O2, S2, ev, r, sl, hc, hs1, hs2⟩ := hσ.take e (fun z => nomatch z)
  generalize hD : D.lst true ds = dl at r
  cases r with
  | own hp rc =>
    cases hD
    rename_i p vs Oc
    refine ⟨p, vs, ev, hp, rc.length, Oc, S1, Ox, Sx, rc, hx, fun vs' ds' ys dys Oc' Sc' Oy Sy rc' hy hly hO hSc hSy => ?_⟩
    have nd := g.nd
    have dj := g.dj
    rw [eO] at nd dj
    rw [eS] at dj
    have cO : ∀ a, Ox.count a + ((p :: Oc).count a + O2.count a) ≤ 1 := fun a => by
      have := nd a
      rw [List.count_append, ← hc a] at this
      exact this
    have cS : ∀ a, a ∈ Sx ∨ a ∈ S1 ∨ a ∈ S2 → Ox.count a + ((p :: Oc).count a + O2.count a) = 0 := fun a m => by
      have := dj a (List.mem_append.mpr (m.imp id fun m => m.elim (hs1 a) (hs2 a)))
      rw [List.count_append, ← hc a] at this
      exact this
    have pp : (p :: Oc).count p = Oc.count p + 1 := List.count_cons_self
    have oc : ∀ a, Oc.count a ≤ (p :: Oc).count a := fun a => by rw [List.count_cons]; omega
    have np : ∀ {a : Addr} {L : List Addr}, a ∈ L → (∀ c, L.count c ≤ Oc.count c + Ox.count c) → a ∉ [p] := fun {a L} m h z => by
      have e : a = p := List.mem_singleton.mp z
      subst e
      have := cpos.mp m
      have := h a
      have := cO a
      omega
    have nps : ∀ a, a ∈ Sx ∨ a ∈ S1 ∨ a ∈ S2 → a ∉ [p] := fun a m z => by
      have e : a = p := List.mem_singleton.mp z
      subst e
      have := cS a m
      omega
    have wk : WOk H [p] := fun a m => ⟨_, (List.mem_singleton.mp m) ▸ hp, rfl⟩
    have fr : Fr H (upd H p (.lst vs')) [p] := Fr.upd_at
    have r1 := rc'.frame fr wk (fun a m => np m fun c => by have := hO c; omega) (fun a m => nps a ((hSc a m).elim (fun z => .inr (.inl z)) .inl))
    have r2 := hy.frame fr wk (fun a m => np m fun c => by have := hO c; omega) (fun a m => nps a ((hSy a m).elim (fun z => .inr (.inl z)) .inl))
    have r3 := sl.frame fr wk (fun a m z => by
      have e : a = p := List.mem_singleton.mp z
      subst e
      have := cpos.mp m
      have := cO a
      omega) (fun a m => nps a (.inr (.inr m)))
    obtain ⟨O3, S3, s3, hc3, hs3⟩ := r3.put (d := .lst true ds') ev (.own upd_same r1)
    rw [List.set_set] at s3
    refine ⟨_, _, g.re (r2.join s3) (.of (fun a => ?_) (fun a m => ?_)) (fun a u e n => ?_)⟩
    · rw [eO, List.count_append, List.count_append, ← hc a]
      have h1 := hc3 a
      have h2 := hO a
      simp only [List.count_cons] at h1 ⊢
      omega
    · rw [eS]
      have key : ∀ c, c ∈ S1 ∨ c ∈ Sx → c ∈ Sx ++ Sσ := fun c m => List.mem_append.mpr (m.elim (fun z => .inr (hs1 c z)) .inl)
      rcases List.mem_append.mp m with m | m
      · exact key a (hSy a m)
      · rcases hs3 a m with z | z
        · exact key a (hSc a z)
        · exact List.mem_append_right _ (hs2 a z)
    · refine fr a u e fun z => n ?_
      have e2 : a = p := List.mem_singleton.mp z
      subst e2
      rw [eO]
      refine List.mem_append_right _ (cpos.mpr ?_)
      have := hc a
      omega
  | _ => cases hD
end
end LT

set_option Elab.async false
set_option linter.all false
set_option maxRecDepth 100000
set_option maxHeartbeats 1000000
namespace LT
open PySem PySem.Spec PyProof.Rows L2

section
variable {K : PySem.W.Frag} {H : Hp}
theorem RepL.erase : ∀ {vs : List V} {ds : List D} {O S : List Addr} {m : Nat} {d : D}, RepL K H vs ds O S → ds[m]? = some d →
    ∃ v O1 S1 O2 S2, vs[m]? = some v ∧ Rep K H v d O1 S1 ∧ RepL K H (vs.eraseIdx m) (ds.eraseIdx m) O2 S2 ∧ (∀ a, O1.count a + O2.count a = O.count a) ∧ (∀ a ∈ S1, a ∈ S) ∧ ∀ a ∈ S2, a ∈ S
  | _, _, _, _, _, _, .nil, e => by simp at e
  | _, _, _, _, 0, _, .cons p r, e => by
    cases (Option.some.inj e : _ = _)
    exact ⟨_, _, _, _, _, rfl, p, r, fun a => by rw [List.count_append], fun a m => List.mem_append_left _ m, fun a m => List.mem_append_right _ m⟩
  | _, _, _, _, m + 1, _, .cons p r, e => by
    obtain ⟨v, O1, S1, O2, S2, h1, h2, h3, h4, h5, h6⟩ := RepL.erase (m := m) r e
    refine ⟨v, O1, S1, _, _, h1, h2, .cons p h3, fun a => ?_, fun a q => List.mem_append_right _ (h5 a q), fun a q => ?_⟩
    · have := h4 a
      simp only [List.count_append]; omega
    · rcases List.mem_append.mp q with q | q
      · exact List.mem_append_left _ q
      · exact List.mem_append_right _ (h6 a q)
theorem RepL.set : ∀ {vs : List V} {ds : List D} {O S : List Addr} {v : V} {d : D} {O1 S1 : List Addr} (m : Nat), RepL K H vs ds O S → Rep K H v d O1 S1 →
    ∃ O2 S2, RepL K H (vs.set m v) (ds.set m d) O2 S2 ∧ (∀ a, O2.count a ≤ O1.count a + O.count a) ∧ ∀ a ∈ S2, a ∈ S1 ∨ a ∈ S
  | _, _, _, _, _, _, _, _, m, .nil, _ => ⟨[], [], by rw [List.set_nil, List.set_nil]; exact .nil, fun a => Nat.zero_le _, (fun a m => nomatch m)⟩
  | _, _, _, _, _, _, _, _, 0, .cons p r, q => by
    refine ⟨_, _, .cons q r, fun a => by simp only [List.count_append]; omega, fun a m => ?_⟩
    rcases List.mem_append.mp m with m | m
    · exact .inl m
    · exact .inr (List.mem_append_right _ m)
  | _, _, _, _, _, _, _, _, m + 1, .cons p r, q => by
    obtain ⟨O2, S2, h1, h2, h3⟩ := RepL.set m r q
    refine ⟨_, _, .cons p h1, fun a => ?_, fun a z => ?_⟩
    · have := h2 a
      simp only [List.count_append]; omega
    · rcases List.mem_append.mp z with z | z
      · exact .inr (List.mem_append_left _ z)
      · rcases h3 a z with z | z
        · exact .inl z
        · exact .inr (List.mem_append_right _ z)
theorem ixN_lt {n : Nat} {k : Int} {m : Nat} (h : ixN n k = some m) : m < n := by
  obtain ⟨_, h2, _⟩ := ixN_seq h
  exact h2
/-- what the whole front does -/
theorem Good.rot {xs σ : List (Option V)} {ds env : En} {O S : List Addr} (g : Good K H (xs ++ σ) (ds ++ env) O S) (hl : xs.length = ds.length) : ∃ O' S', Good K H (σ ++ xs) (env ++ ds) O' S' ∧ Step H H O O' S S' ∧ Step H H O' O S' S := by
  obtain ⟨O1, S1, O2, S2, h1, h2, e1, e2⟩ := g.sl.split hl
  subst e1 e2
  obtain ⟨g', st⟩ := g.re (h2.join h1) (.of (fun a => by simp only [List.count_append]; omega) (fun a m => by
    rcases List.mem_append.mp m with m | m
    · exact List.mem_append_right _ m
    · exact List.mem_append_left _ m)) fr_refl
  refine ⟨_, _, g', st, ⟨fun a o e _ => e, fun a m => .inl ?_, fun a m => .inl ?_⟩⟩
  · rcases List.mem_append.mp m with m | m
    · exact List.mem_append_right _ m
    · exact List.mem_append_left _ m
  · rcases List.mem_append.mp m with m | m
    · exact List.mem_append_right _ m
    · exact List.mem_append_left _ m
theorem Good.liftF {xs σ : List (Option V)} {ds env : En} {O S : List Addr} (g : Good K H (xs ++ σ) (ds ++ env) O S) (hl : xs.length = ds.length) :
    ∃ Ox Sx, Good K H xs ds Ox Sx ∧ ∀ H' xs' ds' O' S', Good K H' xs' ds' O' S' → Step H H' Ox O' Sx S' → ∃ O2 S2, Good K H' (xs' ++ σ) (ds' ++ env) O2 S2 ∧ Step H H' O O2 S S2 := by
  have hlen := g.sl.length
  simp only [List.length_append] at hlen
  have hl2 : σ.length = env.length := by omega
  obtain ⟨O1, S1, g1, st1, _⟩ := g.rot hl
  obtain ⟨Ox, Sx, gx, _, lift⟩ := Good.lift g1 hl2
  refine ⟨Ox, Sx, gx, fun H' xs' ds' O' S' g' st' => ?_⟩
  obtain ⟨O2, S2, g2, st2⟩ := lift H' xs' ds' O' S' g' st'
  obtain ⟨O3, S3, g3, st3, _⟩ := g2.rot hl2
  exact ⟨O3, S3, g3, (st1.trans st2).trans st3⟩
end

/-! ### a method of a slot's list -/
def popK (d i : D) : Option (D × D) := match d, i with
  | .lst true ds, .int k => if ds.length ≤ sizeLine then (ixN ds.length k).bind fun m => (ds[m]?).map fun z => (z, .lst true (ds.eraseIdx m)) else none
  | _, _ => none
def popE (j : Nat) (f : En → Option (D × En)) : En → Option (D × En) := fun env => (rd j env).bind fun d0 => match d0 with
  | .lst _ _ => (f env).bind fun p => (rd j p.2).bind fun d => (popK d p.1).map fun q => (q.1, p.2.set j q.2)
  | _ => none
section
variable {X : Cx} {b e : Expr} {f : En → Option (D × En)} {pos : Pos}
theorem popK_some {d i z d' : D} (h : popK d i = some (z, d')) : ∃ ds k m, d = .lst true ds ∧ i = .int k ∧ ds.length ≤ sizeLine ∧ ixN ds.length k = some m ∧ ds[m]? = some z ∧ d' = .lst true (ds.eraseIdx m) := by
  unfold popK at h
  split at h
  · rename_i ds k
    split at h
    · rename_i n
      obtain ⟨m, h1, h2⟩ := Option.bind_eq_some_iff.mp h
      obtain ⟨z', h3, h4⟩ := Option.map_eq_some_iff.mp h2
      cases h4
      exact ⟨ds, k, m, rfl, rfl, n, h1, h3, rfl⟩
    · cases h
  · cases h
theorem SE.popAt (j : Nat) {x : Str} {npos apos : Pos} (h : SE X b f) (hN : X.N[j]? = some x := by rfl) (hv : Vis X.env.scope x := by first | exact Or.inl rfl | exact Or.inr (Or.inl rfl) | exact Or.inr (Or.inr rfl)) (hd : (x == ("__debug__" : Str)) = false := by decide)
    (hcd : (x == ("__classdict__" : Str)) = false := by decide)
    (hbase : attributeBase (.Name x npos) "pop" X.env (eval (.Name x npos) X.env) = eval (.Name x npos) X.env := by rfl)
    (hfew : ((backTo pos (starEach [b] X.env)).all (fun x => !x.1) && (backToKw pos (keywordEach [] X.env)).all (fun x => x.1.isSome)
      && decide (([b] : List Expr).length + ([] : List Keyword).length + (if ([] : List Keyword).isEmpty then 0 else 1) < 30)) = true := by rfl)
    (hline : (apos.endLine == pos.line) = true := by rfl) (hs : starEach [b] X.env = (false, eval b X.env) :: starEach [] X.env := by rfl) (hplain : (backTo pos (starEach [] X.env)).any (·.1) = false := by rfl) :
    SE X (.Call (.Attribute (.Name x npos) "pop" apos) [b] [] pos) (popE j f) := by
  refine ⟨PE.imp (pe_bm PySem.F.plainAttrs_list PySem.F.slot_list_pop PySem.F.type_list_pop mt_popAt (pe_var hN hv hd hcd) (pa_cons h.pe pa_nil hs) hbase hfew hline hs hplain) fun σ H Q q => ?_⟩
  obtain ⟨env, O, S, z, env', gd, hg, q⟩ := q
  obtain ⟨d0, h0, h1⟩ := Option.bind_eq_some_iff.mp hg
  obtain ⟨k1, k2⟩ := rd_some h0
  cases d0 <;> try (cases h1; done)
  obtain ⟨⟨di, e1⟩, h2, h3⟩ := Option.bind_eq_some_iff.mp h1
  obtain ⟨d, h4, h5⟩ := Option.bind_eq_some_iff.mp h3
  obtain ⟨⟨z', d'⟩, h6, h7⟩ := Option.map_eq_some_iff.mp h5
  cases h7
  obtain ⟨ds, k, m, rfl, e2, hz, hm, hdm, rfl⟩ := popK_some h6
  simp only at e2
  subst e2
  obtain ⟨v, O1, S1, _, _, ev, rv, _⟩ := gd.sl.take k1 k2
  obtain ⟨a, vs, _, _, rfl, ha, _, _⟩ := rv.lstI
  refine ⟨.ref a, ev, .inl ⟨rfl, vs, SqL.of ha⟩, env, O, S, _, _, gd, h2, fun y H1 O2 S2 n1 g1 st1 => ?_⟩
  obtain ⟨k3, _⟩ := rd_some h4
  obtain ⟨p, ws, ev2, hp, hlen, Oc, Sc, Ox, Sx, rc, hx, fin⟩ := Good.relist (xs := [some y]) (dxs := [.int k]) g1 rfl k3
  rw [ev] at ev2
  cases ev2
  obtain ⟨w, O3, S3, O4, S4, hw, rw3, re3, c1, c2, c3⟩ := rc.erase hdm
  obtain ⟨O5, S5, g5, st5⟩ := fin _ _ [some w] [_] _ _ _ _ re3 (.cons rw3 .nil) rfl (fun a => by rw [List.append_nil]; have := c1 a; omega) (fun a m => .inl (c3 a m)) (fun a m => .inl (c2 a (by simpa using m)))
  have hy : y = .int k := by
    cases hx with
    | cons r _ => exact rep_same r
  subst hy
  obtain ⟨q1, q2, q3, q4⟩ := ixN_seq hm
  rw [sizeLine_eq] at hz
  refine ⟨a, ws, k, m, w, rfl, rfl, hp, by omega, by omega, by rw [hlen]; exact q1, hw, ?_⟩
  exact q w _ O5 S5 rw3.nj g5 (st1.trans st5)
end

/-! ### calls of the program's defs -/
/-- what a def does with its arguments: its value, and the arguments behind the call -/
abbrev Gn := List D → Option (D × List D)
def spG (K : PySem.W.Frag) (g : Gn) : Sp := fun vs H Q _ => ∃ ds O S r ds', Good K H (vs.map some) ds O S ∧ g ds = some (r, ds') ∧
  ∀ v H' O' S', r ≠ .jnk → Good K H' (some v :: vs.map some) (r :: ds') O' S' → Step H H' O O' S S' → Q v H'
/-- the def stands there under its name and does so -/
structure Def (P : Program) (w : World) (K : PySem.W.Frag) (mg : Str → Option Value) (base : Heap) (k : Nat) (x : Str) (g : Gn) : Prop where
  ex : ∃ f fd ps, FnOk P w K mg base CX0 k f fd ps (spG K g) ∧ mg x = some (.ref f) ∧ PySem.W.keepIn K (.ref f) = true ∧ Binds K fd ps []
def borG (g : Gn) (gs : En → Option (List D)) : En → Option D := fun env => (gs env).bind fun ds => (g (fzs ds)).bind fun p => if noShr p.1 then some p.1 else none
/-- arguments, some of them names that are lent -/
def tAs (K : PySem.W.Frag) (L : List (Option Nat)) (f : En → Option (List D × En)) : TA := fun σ H Q => ∃ env O S ds env', Good K H σ env O S ∧ f env = some (ds, env') ∧
  ∀ vs H' O' S', vs.length = ds.length → (∀ d ∈ ds, d ≠ .jnk) → Good K H' (vs.map some ++ σ) (ds ++ env') O' S' → Step H H' O O' S S' → L.length = vs.length →
    (∀ (k j : Nat), L[k]? = some (some j) → ∃ v, vs[k]? = some v ∧ σ[j]? = some (some v)) → Q vs H'
structure SA (X : Cx) (L : List (Option Nat)) (es : List Expr) (f : En → Option (List D × En)) : Prop where
  pa : PA X es (tAs X.K L f)
def lendE (j : Nat) (fs : En → Option (List D × En)) : En → Option (List D × En) := fun env => (rd j env).bind fun d => (fs (env.set j .jnk)).map fun q => (d :: q.1, q.2)
def back : List (Option Nat) → List D → En → En
  | some j :: L, d :: ds, e => back L ds (e.set j d)
  | none :: L, _ :: ds, e => back L ds e
  | _, _, e => e
def lenG (g : Gn) (L : List (Option Nat)) (fs : En → Option (List D × En)) : En → Option (D × En) := fun env => (fs env).bind fun p => (g p.1).map fun q => (q.1, back L q.2 p.2)
section
variable {X : Cx} {e : Expr} {es : List Expr} {pos : Pos} {f : En → Option (D × En)} {fs : En → Option (List D × En)} {gs : En → Option (List D)} {L : List (Option Nat)} {k n : Nat} {x : Str} {g : Gn}
theorem SX.call {npos : Pos} (F : Def X.prog X.w X.K X.mg X.base k x g) (hr : Room k X.A) (ha : SVs X (e :: es) gs) (hg : Gl X x := by rfl) (hdb : (x == ("__debug__" : Str)) = false := by decide)
    (hs : starEach (e :: es) X.env = (false, eval e X.env) :: starEach es X.env := by rfl) (hpl : (backTo pos (starEach es X.env)).any (·.1) = false := by rfl) : SX X (.Call (.Name x npos) (e :: es) [] pos) (borG g gs) := by
  obtain ⟨fa, fd, ps, F1, hm, hk, hb⟩ := F.ex
  refine ⟨PE.imp (pe_call (E := E0) F1 hr hg hm hk hb .nil pass0 ha.pa hdb hs hpl) fun σ H Q q => ?_⟩
  obtain ⟨env, O, S, z, gd, hg, q⟩ := q
  obtain ⟨ds, h1, h2⟩ := Option.bind_eq_some_iff.mp hg
  obtain ⟨⟨r, ds'⟩, h3, h4⟩ := Option.bind_eq_some_iff.mp h2
  by_cases nn : noShr r = true
  · simp only [nn, if_true] at h4
    cases h4
    refine ⟨env, O, S, ds, gd, h1, fun vs H1 sm x => ?_⟩
    obtain ⟨O1, S1, rl, ho, hs⟩ := x
    obtain ⟨S2, rf, hs2⟩ := rl.fz
    show spG X.K g (vs ++ []) H1 Q E0
    rw [List.append_nil]
    refine ⟨fzs ds, [], S2, _, ds', ⟨SL.of_repL rf, fun a => Nat.zero_le _, fun a m => rfl⟩, h3, fun v H2 O3 S3 n3 g3 st3 => ?_⟩
    have sm2 : Same H1 H2 := fun a o e => st3.fr a o e (fun m => nomatch m)
    obtain ⟨O4, S4, O5, S5, rv, _, eo, es⟩ := Good.head g3 n3
    have e4 := rv.noShr nn
    subst e4
    refine q v H2 (sm.trans sm2) ⟨O4, [], rv, fun a => ?_, fun a m => ?_, (fun a m => nomatch m)⟩
    · have := g3.nd a
      rw [eo, List.count_append] at this
      omega
    · rcases st3.ow a (by rw [eo]; exact List.mem_append_left _ m) with z | z
      · cases z
      · exact sm.free z
  · simp only [nn] at h4; cases h4
theorem SX.call0 {npos : Pos} (F : Def X.prog X.w X.K X.mg X.base k x g) (hr : Room k X.A) (hg : Gl X x := by rfl) (hdb : (x == ("__debug__" : Str)) = false := by decide) : SX X (.Call (.Name x npos) [] [] pos) (borG g fun _ => some []) := by
  obtain ⟨fa, fd, ps, F1, hm, hk, hb⟩ := F.ex
  refine ⟨PE.imp (pe_call0 (E := E0) F1 hr hg hm hk hb .nil pass0 hdb) fun σ H Q q => ?_⟩
  obtain ⟨env, O, S, z, gd, hg, q⟩ := q
  obtain ⟨ds, h1, h2⟩ := Option.bind_eq_some_iff.mp hg
  cases h1
  obtain ⟨⟨r, ds'⟩, h3, h4⟩ := Option.bind_eq_some_iff.mp h2
  by_cases nn : noShr r = true
  · simp only [nn, if_true] at h4
    cases h4
    refine ⟨[], [], [], _, ds', ⟨.nil, fun a => Nat.zero_le _, fun a m => rfl⟩, h3, fun v H2 O3 S3 n3 g3 st3 => ?_⟩
    have sm2 : Same H H2 := fun a o e => st3.fr a o e (fun m => nomatch m)
    obtain ⟨O4, S4, O5, S5, rv, _, eo, es⟩ := Good.head g3 n3
    have e4 := rv.noShr nn
    subst e4
    refine q v H2 sm2 ⟨O4, [], rv, fun a => ?_, fun a m => ?_, (fun a m => nomatch m)⟩
    · have := g3.nd a
      rw [eo, List.count_append] at this
      omega
    · rcases st3.ow a (by rw [eo]; exact List.mem_append_left _ m) with z | z
      · cases z
      · exact z
  · simp only [nn] at h4; cases h4
theorem SA.nil : SA X [] [] (fun env => some ([], env)) := ⟨PA.imp pa_nil fun σ H Q q => by
  obtain ⟨env, O, S, d, env', gd, hg, q⟩ := q
  cases hg
  exact q [] H O S rfl (fun d m => nomatch m) gd .refl rfl (fun k j z => by simp at z)⟩
theorem SA.val (h : SE X e f) (hs : SA X L es fs) (hst : starEach (e :: es) X.env = (false, eval e X.env) :: starEach es X.env := by rfl) : SA X (none :: L) (e :: es) (consE f fs) := ⟨PA.imp (pa_cons h.pe hs.pa hst) fun σ H Q q => by
  obtain ⟨env, O, S, ds, env', gd, hg, q⟩ := q
  obtain ⟨⟨d, e1⟩, h0, h1⟩ := Option.bind_eq_some_iff.mp hg
  obtain ⟨⟨ds', e2⟩, h2, h3⟩ := Option.map_eq_some_iff.mp h1
  cases h3
  refine ⟨env, O, S, d, e1, gd, h0, fun x H1 O1 S1 n1 g1 st1 => ?_⟩
  obtain ⟨Oσ, Sσ, g1', _, lift⟩ := Good.lift (xs := [some x]) (ds := [d]) g1 rfl
  refine ⟨e1, Oσ, Sσ, ds', _, g1', h2, fun vs H2 O2 S2 hl nn g2 st2 hL hlent => ?_⟩
  obtain ⟨O3, S3, g3, st3⟩ := lift H2 _ _ O2 S2 g2 st2
  refine q (x :: vs) H2 O3 S3 (by simp [hl]) (fun c m => ?_) g3 (st1.trans st3) (by simp [hL]) (fun k j hk => ?_)
  · rcases List.mem_cons.mp m with e | m
    · exact e ▸ n1
    · exact nn c m
  · cases k with
    | zero => cases hk
    | succ k => exact hlent k j hk⟩
theorem SA.lend (j : Nat) {y : Str} {ypos : Pos} (hs : SA X L es fs) (hN : X.N[j]? = some y := by rfl) (hv : Vis X.env.scope y := by first | exact Or.inl rfl | exact Or.inr (Or.inl rfl) | exact Or.inr (Or.inr rfl)) (hd : (y == ("__debug__" : Str)) = false := by decide)
    (hcd : (y == ("__classdict__" : Str)) = false := by decide) (hst : starEach (.Name y ypos :: es) X.env = (false, eval (.Name y ypos) X.env) :: starEach es X.env := by rfl) : SA X (some j :: L) (.Name y ypos :: es) (lendE j fs) := ⟨PA.imp (pa_cons (pe_var hN hv hd hcd) hs.pa hst) fun σ H Q q => by
  obtain ⟨env, O, S, ds, env', gd, hg, q⟩ := q
  obtain ⟨d, h0, h1⟩ := Option.bind_eq_some_iff.mp hg
  obtain ⟨⟨ds', e2⟩, h2, h3⟩ := Option.map_eq_some_iff.mp h1
  cases h3
  obtain ⟨k1, k2⟩ := rd_some h0
  obtain ⟨v, ev, O1, S1, g1, st1⟩ := gd.take k1 k2
  obtain ⟨Oσ, Sσ, g1', _, lift⟩ := Good.lift (xs := [some v]) (ds := [d]) g1 rfl
  refine ⟨v, ev, _, Oσ, Sσ, ds', _, g1', h2, fun vs H2 O2 S2 hl nn g2 st2 hL hlent => ?_⟩
  obtain ⟨O3, S3, g3, st3⟩ := lift H2 _ _ O2 S2 g2 st2
  refine q (v :: vs) H2 O3 S3 (by simp [hl]) (fun c m => ?_) g3 (st1.trans st3) (by simp [hL]) (fun k j hk => ?_)
  · rcases List.mem_cons.mp m with e | m
    · exact e ▸ k2
    · exact nn c m
  · cases k with
    | zero => cases hk; exact ⟨v, rfl, ev⟩
    | succ k => exact hlent k j hk⟩
theorem set_behind {α : Type} (a b : List α) (j : Nat) (x : α) : (a ++ b).set (a.length + j) x = a ++ b.set j x := by
  induction a with
  | nil => simp
  | cons y r ih => simp only [List.cons_append, List.length_cons, Nat.add_right_comm _ 1, List.set_cons_succ, ih]
theorem Good.back {K : PySem.W.Frag} {H : Hp} {σ : List (Option V)} {v : V} {r : D} : ∀ {L : List (Option Nat)} {vs : List V} {ds : List D} {env : En} {O S : List Addr}, L.length = vs.length → vs.length = ds.length →
    Good K H (some v :: (vs.map some ++ σ)) (r :: (ds ++ env)) O S → (∀ (k j : Nat), L[k]? = some (some j) → ∃ v, vs[k]? = some v ∧ σ[j]? = some (some v)) → ∃ O' S', Good K H (some v :: σ) (r :: LT.back L ds env) O' S' ∧ Step H H O O' S S'
  | [], [], [], env, O, S, _, _, g, _ => ⟨O, S, g, .refl⟩
  | none :: L, w :: vs, d :: ds, env, O, S, hL, hl, g, hlent => by
    obtain ⟨O1, S1, g1, st1⟩ := Good.keep1 (xs := [some w]) (ds := [d]) rfl g
    obtain ⟨_, _, _, lift⟩ := Good.lift (xs := [some v]) (ds := [r]) g1 rfl
    obtain ⟨O2, S2, g2, st2⟩ := Good.back (L := L) (by simpa using hL) (by simpa using hl) g1 fun k j hk => hlent (k + 1) j hk
    exact ⟨O2, S2, g2, st1.trans st2⟩
  | some j :: L, w :: vs, d :: ds, env, O, S, hL, hl, g, hlent => by
    obtain ⟨w', e1, e2⟩ := hlent 0 j rfl
    cases (Option.some.inj e1 : _ = _)
    obtain ⟨O1, S1, g1, st1⟩ := g.swap
    have hl' : vs.length = ds.length := by simpa using hl
    have at1 : (some v :: (vs.map some ++ σ))[(some v :: vs.map some).length + j]? = some (some w) := by
      rw [← List.cons_append, List.getElem?_append_right (Nat.le_add_right _ _), Nat.add_sub_cancel_left]
      exact e2
    have g1' : Good K H (some w :: (some v :: (vs.map some ++ σ))) (d :: (r :: (ds ++ env))) O1 S1 := g1
    obtain ⟨O2, S2, g2, st2⟩ := Good.put g1' at1
    have e3 : (r :: (ds ++ env)).set ((some v :: vs.map some).length + j) d = r :: (ds ++ env.set j d) := by
      have h := set_behind (r :: ds) env j d
      simp only [List.cons_append, List.length_cons, List.length_map] at h ⊢
      rw [hl']
      exact h
    rw [e3] at g2
    obtain ⟨O3, S3, g3, st3⟩ := Good.back (L := L) (by simpa using hL) hl' g2 fun k j hk => hlent (k + 1) j hk
    exact ⟨O3, S3, g3, (st1.trans st2).trans st3⟩
  | [], _ :: _, _, _, _, _, hL, _, _, _ => by simp at hL
  | _ :: _, [], _, _, _, _, hL, _, _, _ => by simp at hL
  | _, [], _ :: _, _, _, _, _, hl, _, _ => by simp at hl
  | _, _ :: _, [], _, _, _, _, hl, _, _ => by simp at hl
theorem SE.call {npos : Pos} (F : Def X.prog X.w X.K X.mg X.base k x g) (hr : Room k X.A) (ha : SA X L (e :: es) fs) (hg : Gl X x := by rfl) (hdb : (x == ("__debug__" : Str)) = false := by decide)
    (hs : starEach (e :: es) X.env = (false, eval e X.env) :: starEach es X.env := by rfl) (hpl : (backTo pos (starEach es X.env)).any (·.1) = false := by rfl) : SE X (.Call (.Name x npos) (e :: es) [] pos) (lenG g L fs) := by
  obtain ⟨fa, fd, ps, F1, hm, hk, hb⟩ := F.ex
  refine ⟨PE.imp (pe_call (E := E0) F1 hr hg hm hk hb .nil pass0 ha.pa hdb hs hpl) fun σ H Q q => ?_⟩
  obtain ⟨env, O, S, z, env', gd, hg, q⟩ := q
  obtain ⟨⟨ds, e1⟩, h1, h2⟩ := Option.bind_eq_some_iff.mp hg
  obtain ⟨⟨r, ds'⟩, h3, h4⟩ := Option.map_eq_some_iff.mp h2
  cases h4
  refine ⟨env, O, S, ds, e1, gd, h1, fun vs H1 O1 S1 hl nn g1 st1 hL hlent => ?_⟩
  show spG X.K g (vs ++ []) H1 Q E0
  rw [List.append_nil]
  obtain ⟨Ox, Sx, gx, lift⟩ := Good.liftF g1 (by simpa using hl)
  refine ⟨ds, Ox, Sx, _, ds', gx, h3, fun v H2 O3 S3 n3 g3 st3 => ?_⟩
  obtain ⟨O4, S4, g4, st4⟩ := lift H2 _ _ O3 S3 g3 st3
  have hl3 : vs.length = ds'.length := by
    have := g3.sl.length
    simpa using this
  obtain ⟨O5, S5, g5, st5⟩ := Good.back hL hl3 g4 hlent
  exact q v H2 O5 S5 n3 g5 ((st1.trans st4).trans st5)
end
end LT

set_option Elab.async false
set_option linter.all false
set_option maxRecDepth 100000
set_option maxHeartbeats 1000000
/-! enumerate of a tuple -/
namespace LTup
open PySem PySem.Spec PyProof.Rows L2
theorem meets_enum1 {v : Value} {o : Obj} {G : Heap → Prop} (B : Begins v o G) :
    Meets (Builtin.«enumerate.__new__» ⟨[.type "enumerate", v], []⟩) (fun _ R s => G s.heap ∧
      R (.ok (.ret (.ref (s.heap.push o).objs.size))) { s with heap := (s.heap.push o).push { cls := .type "enumerate", data := .fields #[.none, .bool false, .ref s.heap.objs.size, rawInt 0, .none, .none] } }) :=
  .of_wp fun prog w A R s h => by
    obtain ⟨hp, gs, dr, tk, os⟩ := s
    obtain ⟨g1, h⟩ := h
    have sb := sub_enumerate
    have qi : ∀ {A' : Around} {E : Value → Shared → Prop} {Q : Value → Shared → Prop}, Q (.ref hp.objs.size) ⟨hp.push o, gs, dr, tk, os⟩ → wpAny (model prog w) A' (pyIter v) Q E ⟨hp, gs, dr, tk, os⟩ :=
      fun q => B.iter prog w _ _ ⟨hp, gs, dr, tk, os⟩ _ g1 q
    wp_walk using qi
    refine wpAny_stack_any fun st => wpAny_pure ?_
    split
    · rename_i c _ _ _ _ _
      cases (c == Value.type "enumerate")
      · wp_walk using qi
        exact ⟨_, rfl, h⟩
      · wp_walk using qi
        exact ⟨_, rfl, h⟩
    · wp_walk using qi
      exact ⟨_, rfl, h⟩
section
variable {prog : Program} {w : World} {A : Around} {E : Value → Shared → Prop} {s : Shared}
theorem enum1 {v : Value} {o : Obj} {G : Heap → Prop} {Q : Value → Shared → Prop} (B : Begins v o G) (g1 : G s.heap)
    (h : ∀ h', IsEnum h' (s.heap.objs.size + 1) s.heap.objs.size 0 .none → h'.get? s.heap.objs.size = some o → (∀ b u, s.heap.get? b = some u → h'.get? b = some u) → Q (.ref (s.heap.objs.size + 1)) { s with heap := h' }) :
    wpAny (model prog w) A (call (.type "enumerate") [v]) Q E s := by
  refine callType_new F.called_enumerate (by decide) (F.typeCall_enumerate_1 _) (F.newCall_enumerate_1 _) (fun obj => F.args_object_init_2 obj _) F.entry_enumerate_new (meets_enum1 B) ⟨g1, ?_⟩
  have hz : (s.heap.push o).objs.size = s.heap.objs.size + 1 := Heap.size_push ..
  rw [hz]
  have he : IsEnum ((s.heap.push o).push { cls := .type "enumerate", data := .fields #[.none, .bool false, .ref s.heap.objs.size, rawInt 0, .none, .none] }) (s.heap.objs.size + 1) s.heap.objs.size 0 .none := by
    rw [← hz]
    exact Heap.get?_push_size (s.heap.push o) rfl
  exact ⟨⟨_, he, rfl⟩, h _ he (Heap.get?_push_of_some _ (Heap.get?_push_size _ B.free)) fun b u x => Heap.get?_push_of_some _ (Heap.get?_push_of_some _ x)⟩
end
def IteT (K : PySem.W.Frag) (a : Addr) : It :=
  ⟨fun i H => ∃ (xs : List V) (x : V), SqT K H a xs ∧ xs[i]? = some x, fun i H v H' => ∃ T x, v = .ref T ∧ H T = none ∧ H' = upd H T (.tup [.int (i : Nat), x]) ∧ ∀ xs, SqT K H a xs → xs[i]? = some x, fun i H => ∃ xs : List V, SqT K H a xs ∧ xs.length ≤ i⟩
theorem turn_enumT {P : Program} {w : World} {K : PySem.W.Frag} {elts : List Expr} {kk : Nat} {tpos : Pos} (a e it : Addr) (hea : e ≠ a) (hia : it ≠ a) :
    Turn P w K (.Tuple elts kk tpos) (IteT K a) [e, it] e (fun i h => (∃ old, IsEnum h e it ((i : Nat) : Int) old) ∧ h.IsTupleIter it a i ∧ e ≠ it) where
  mem := by simp
  obj := fun i h st b hb => by
    obtain ⟨⟨old, he⟩, ⟨o, ho, hc, hd⟩, _⟩ := st
    have q : b = e ∨ b = it := by simpa using hb
    rcases q with q | q
    · rw [q]; exact ⟨_, he, (fun v z => nomatch z)⟩
    · exact ⟨o, q ▸ ho, fun v z => by rw [hd] at z; cases z⟩
  keep := fun i h h' st k => by
    obtain ⟨⟨old, he⟩, hi, hne⟩ := st
    exact ⟨⟨old, k e (by simp) _ he⟩, hi.at fun o q => k it (by simp) o q, hne⟩
  item := by
    intro X hP hw hK hc i pins s σ H E I hf st hg
    subst hP hw hK
    obtain ⟨⟨old, he⟩, hit, hne⟩ := st
    obtain ⟨xs, x, hq, hx⟩ := hg
    obtain ⟨its, rv, p, hz⟩ := I.tuple hq
    obtain ⟨u, hu, ru⟩ := rv.get hx
    have le : e < s.heap.objs.size := Heap.lt_size he
    have li : it < s.heap.objs.size := by
      obtain ⟨_, q, _⟩ := hit
      exact Heap.lt_size q
    have hlt : i < its.toArray.size := by
      have := (List.getElem?_eq_some_iff.mp hu).1
      simpa using this
    have dr := Draws.tuple (prog := X.prog) (w := X.w) (A := X.A.in1) (I.ok.hd hc) it a (Ne.symm hia) its.toArray
    refine wpAny_pyNext_enum_itemD dr he ⟨hit, p⟩ hlt hne (by simp [hne, hea]) fun y h' tk hy ho st' hT hsz hk => ?_
    have ey : y = u := by
      have h1 : its[i]? = some y := by simpa using hy
      rw [hu] at h1
      exact (Option.some.inj h1).symm
    subst ey
    refine ⟨_, rfl, wpAny_letOwnedTupleGo_enum (s := { s with heap := h', toks := tk + 1 }) ho fun h2 he2 sb => ?_⟩
    have t2 : h2.get? s.heap.objs.size = some { cls := .type "tuple", data := .seq #[.int i tk, y] } := (sb.2 _ (Nat.ne_of_gt le)).trans hT
    have new : ObjOk X.prog X.w (upd H s.heap.objs.size (.tup [.int (i : Nat), x])) h2 s.heap.objs.size (.tup [.int (i : Nat), x]) :=
      ⟨by show 2 ≤ sizeLine; decide, [.int i tk, y], .cons ⟨_, rfl⟩ (.cons ru .nil), ⟨_, t2, rfl, _, rfl⟩⟩
    have I1 := I.turnedNew (t' := tk + 1) (ch := [e, it]) (h' := h2) (fun b ob hb q => (sb.2 b (fun z => hb (by simp [z]))).trans (hk b ob (fun z => hb (by simp [z])) (fun z => hb (by simp [z])) q)) hf (Nat.le_refl _) new
    refine ⟨.ref s.heap.objs.size, _, I1, rfl, ⟨_, x, rfl, I.hok.fresh (Nat.le_refl _), rfl, fun ys hy => by rw [I.tuple_inj hy hq]; exact hx⟩, ⟨⟨y, ?_⟩, st'.1.at fun o q => (sb.2 it (Ne.symm hne)).trans q, hne⟩, fun b hb => ?_⟩
    · have e1 : ((i + 1 : Nat) : Int) = (i : Int) + 1 := by omega
      rw [e1]
      exact he2
    · have q : b = e ∨ b = it := by simpa using hb
      have lb : b < s.heap.objs.size := by
        rcases q with q | q
        · rw [q]; exact le
        · rw [q]; exact li
      rw [upd_ne (Nat.ne_of_lt lb)]
      exact (hf b hb).1
  done := by
    intro X hP hw hK hc i pins s σ H E I hf st hg
    subst hP hw hK
    obtain ⟨⟨old, he⟩, hit, hne⟩ := st
    obtain ⟨xs, hq, hx⟩ := hg
    obtain ⟨its, rv, p, hz⟩ := I.tuple hq
    obtain ⟨f0, f1, f2, f3, f4, f5⟩ := hf it (by simp)
    have hl := rv.length
    have hn : ¬ i < its.toArray.size := by
      simp only [List.size_toArray]
      omega
    unfold pyNext
    refine wpAny_bind (wpAny_attempt (wpAny_callSpecial?_slot (name := Str.ofString "__next__") ⟨_, he, rfl⟩ F.slot_enumerate_next
      (wpAny_call_entry F.slot_enumerate_next ⟨_, he, rfl⟩ F.entry_enumerate_next ?_ (F.args_enumerate_next_1 _))))
    show wpAny _ _ (field (.ref e) 2 >>= _) _ _ _
    refine wpAny_bind (wpAny_field he rfl (x := .ref it) rfl (wpAny_bind (wpAny_nextOf_tuple_end (A := X.A.in1) (I.ok.hd hc) hit p (by simpa using hn) fun h' x he' hx' => ?_)))
    obtain ⟨o, ho, hcl⟩ := hx'
    refine wpAny_bind (wpAny_isInstance (T := "StopIteration") (b := true) ⟨o, ho, hcl⟩ isSubtype_stop ?_)
    exact wpAny_pure ⟨rfl, I.turned (t' := s.toks) (fun b o hb q => he' b o hb q) f0 f1 f3 f4 f5⟩
  self := fun A i s Q E st h => by
    obtain ⟨⟨_, he⟩, _⟩ := st
    exact wpAny_pyIter_enum he h
def iEnumA (K : PySem.W.Frag) (ta : TA) : TI := fun σ H R => ta σ H fun vs H1 => ∃ a xs, vs = [.ref a] ∧ ((SqL K H1 a xs ∧ R (Ite K a) H1) ∨ (SqT K H1 a xs ∧ R (IteT K a) H1))
theorem pi_enumA {X : Cx} {e : Expr} {ta : TA} {p pos tpos : Pos} {elts : List Expr} {kk : Nat} (hg : Gl X "enumerate") (hm : X.mg "enumerate" = none) (ha : PA X [e] ta) (hs : starEach [e] X.env = [(false, eval e X.env)] := by rfl) :
    PI X (.Tuple elts kk tpos) (.Call (.Name "enumerate" p) [e] [] pos) (iEnumA X.K ta) := by
  refine ⟨fun pins s σ H R I h => ?_⟩
  refine Call_ (ld_blt I hg hm boot_enumerate (PyProof.Rows.callWith_type1 (thn (ha.run pos pins s σ H _ I h) fun us s1 ⟨vs, H1, I1, r1, q1⟩ => ?_) hs rfl))
  obtain ⟨a, xs, ex, q1⟩ := q1
  subst ex
  have eu := Vals.ref1 r1
  subst eu
  have fp2 : ∀ b ∈ [s1.heap.objs.size + 1, s1.heap.objs.size], FpOk X pins H1 b := fun b hb => by
    have q : b = s1.heap.objs.size + 1 ∨ b = s1.heap.objs.size := by simpa using hb
    have hle : s1.heap.objs.size ≤ b := by
      rcases q with z | z
      · rw [z]; exact Nat.le_add_right _ _
      · rw [z]; exact Nat.le_refl _
    exact I1.fpOk hle (I1.hok.fresh hle)
  rcases q1 with ⟨hq, q⟩ | ⟨hq, q⟩
  · obtain ⟨its, rv, p', hz⟩ := I1.list hq
    refine call_enumerate_list p'.isList fun h' he hit hsz hk => wpAny_pyIter_enum he ?_
    exact ⟨_, _, _, _, H1, rfl, I1.kept (t' := s1.toks) hk, turn_enum a (s1.heap.objs.size + 1) s1.heap.objs.size, ⟨⟨.none, he⟩, hit, Nat.succ_ne_self _⟩, fp2, q⟩
  · obtain ⟨its, rv, p', hz⟩ := I1.tuple hq
    have la : a < s1.heap.objs.size := p'.lt
    refine enum1 (begins_tuple a its.toArray) p' fun h' he hit hk => wpAny_pyIter_enum he ?_
    exact ⟨_, _, _, _, H1, rfl, I1.kept (t' := s1.toks) hk, turn_enumT a (s1.heap.objs.size + 1) s1.heap.objs.size (Nat.ne_of_gt (Nat.lt_succ_of_lt la)) (Nat.ne_of_gt la), ⟨⟨.none, he⟩, ⟨_, hit, rfl, rfl⟩, Nat.succ_ne_self _⟩, fp2, q⟩
def iSeq (K : PySem.W.Frag) (tl : TE) : TI := fun σ H R => tl σ H fun x H1 => ∃ a xs, x = .ref a ∧ ((SqL K H1 a xs ∧ R (Itl K a) H1) ∨ (SqT K H1 a xs ∧ R (Itt K a) H1))
theorem pi_seq {X : Cx} {tg l : Expr} {tl : TE} (hl : PE X l tl) : PI X tg l (iSeq X.K tl) := by
  refine ⟨fun pins s σ H R I h => ?_⟩
  refine thn (hl.run pins s σ H _ I h) fun v s1 ⟨x, H1, I1, r1, q1⟩ => ?_
  obtain ⟨a, xs, e, q1⟩ := q1
  subst e
  have ev : v = .ref a := r1
  subst ev
  have one : ∀ b ∈ [s1.heap.objs.size], FpOk X pins H1 b := fun b hb => by
    rw [List.mem_singleton.mp hb]
    exact I1.fpOk (Nat.le_refl _) (I1.hok.fresh (Nat.le_refl _))
  rcases q1 with ⟨hq, q⟩ | ⟨hq, q⟩
  · obtain ⟨its, rv, p, hz⟩ := I1.list hq
    exact wpAny_pyIter_list p.isList ⟨_, [s1.heap.objs.size], _, _, H1, rfl, I1.kept (t' := s1.toks) fun b o e => Heap.get?_push_of_some _ e, turn_list a _, ⟨_, Heap.get?_push_size _ rfl, rfl, rfl⟩, one, q⟩
  · obtain ⟨its, rv, p, hz⟩ := I1.tuple hq
    exact wpAny_pyIter_tuple (show s1.heap.IsTuple a its.toArray from p) ⟨_, [s1.heap.objs.size], _, _, H1, rfl, I1.kept (t' := s1.toks) fun b o e => Heap.get?_push_of_some _ e, turn_tuple a _, ⟨_, Heap.get?_push_size _ rfl, rfl, rfl⟩, one, q⟩
theorem walk_enumT {K : PySem.W.Frag} {a : Addr} {xs : List V} : Walk (IteT K a) xs.length (fun H => SqT K H a xs) (YPair (fun i => some (.int (i : Nat))) (fun i => xs[i]?)) := by
  refine ⟨fun i _ hi q => ⟨xs, xs[i], q, by simp [hi]⟩, fun _ q => ⟨xs, q, Nat.le_refl _⟩, fun i H v H' _ q y => ?_⟩
  obtain ⟨T, x, h1, h2, h3, h4⟩ := y
  exact ⟨T, .int (i : Nat), x, h1, h2, h3, rfl, h4 xs q⟩
theorem walk_zipT {K : PySem.W.Frag} {a b : Addr} {xs ys : List V} : Walk (RZ.ItzT K a b) (min xs.length ys.length) (fun H => SqT K H a xs ∧ SqT K H b ys) (YPair (fun i => xs[i]?) (fun i => ys[i]?)) := by
  refine ⟨fun i _ hi q => ?_, fun _ q => ⟨xs, ys, q.1, q.2, by omega⟩, fun i H v H' _ q y => ?_⟩
  · have h1 : i < xs.length := by omega
    have h2 : i < ys.length := by omega
    exact ⟨xs, ys, xs[i], ys[i], q.1, q.2, by simp [h1], by simp [h2]⟩
  · obtain ⟨T, x, z, h1, h2, h3, h4, h5⟩ := y
    exact ⟨T, x, z, h1, h2, h3, h4 xs q.1, h5 ys q.2⟩
end LTup

set_option Elab.async false
set_option linter.all false
set_option maxRecDepth 100000
set_option maxHeartbeats 1000000
namespace LT
open PySem PySem.Spec PyProof.Rows L2

def Kept (A : List Nat) (σ σ' : List (Option V)) : Prop := σ'.length = σ.length ∧ ∀ i, i ∉ A → σ'[i]? = σ[i]?
theorem Kept.refl {A : List Nat} {σ : List (Option V)} : Kept A σ σ := ⟨rfl, fun _ _ => rfl⟩
theorem Kept.trans {A : List Nat} {σ σ1 σ2 : List (Option V)} (a : Kept A σ σ1) (b : Kept A σ1 σ2) : Kept A σ σ2 := ⟨b.1.trans a.1, fun i h => (b.2 i h).trans (a.2 i h)⟩
theorem Kept.set {A : List Nat} {σ : List (Option V)} {i : Nat} {x : Option V} (h : i ∈ A) : Kept A σ (σ.set i x) := ⟨List.length_set, fun j hj => List.getElem?_set_ne fun e => hj (by rw [← e]; exact h)⟩

/-! ### targets -/
/-- the value goes to names -/
def tG (K : PySem.W.Frag) (A : List Nat) (ft : D → En → Option En) : TG := fun v σ H Q => ∃ d env O S env', d ≠ .jnk ∧ Good K H (some v :: σ) (d :: env) O S ∧ ft d env = some env' ∧
  ∀ σ' O' S', Good K H σ' env' O' S' → (∀ a, O'.count a ≤ O.count a) → (∀ a ∈ S', a ∈ S) → Kept A σ σ' → Q σ' H
def tGs (K : PySem.W.Frag) (A : List Nat) (ft : List D → En → Option En) : TGs := fun vs σ H Q => ∃ ds env O S env', vs.length = ds.length ∧ (∀ d ∈ ds, d ≠ .jnk) ∧ Good K H (vs.map some ++ σ) (ds ++ env) O S ∧ ft ds env = some env' ∧
  ∀ σ' O' S', Good K H σ' env' O' S' → (∀ a, O'.count a ≤ O.count a) → (∀ a ∈ S', a ∈ S) → Kept A σ σ' → Q σ' H
structure STg (X : Cx) (A : List Nat) (tg : Expr) (ft : D → En → Option En) : Prop where
  pg : PG X tg (tG X.K A ft)
structure STgs (X : Cx) (A : List Nat) (tgs : List Expr) (ft : List D → En → Option En) : Prop where
  pgs : PGs X tgs (tGs X.K A ft)
theorem PG.imp {X : Cx} {e : Expr} {t t' : TG} (h : PG X e t) (i : ∀ v σ H Q, t' v σ H Q → t v σ H Q) : PG X e t' := ⟨fun pins s σ H v u Q I r q => h.run pins s σ H v u Q I r (i v σ H Q q)⟩
theorem PGs.imp {X : Cx} {e : List Expr} {t t' : TGs} (h : PGs X e t) (i : ∀ v σ H Q, t' v σ H Q → t v σ H Q) : PGs X e t' := ⟨fun pins s σ H v u Q I r q => h.run pins s σ H v u Q I r (i v σ H Q q)⟩
def ftN (i : Nat) : D → En → Option En := fun d env => some (env.set i d)
def ftNil : List D → En → Option En := fun ds env => match ds with | [] => some env | _ => none
def ftCons (f : D → En → Option En) (fs : List D → En → Option En) : List D → En → Option En := fun ds env => match ds with | d :: r => (f d env).bind (fs r) | _ => none
def ftTup (n : Nat) (fs : List D → En → Option En) : D → En → Option En := fun d env => match d with | .tup ds => if ds.length = n then fs ds env else none | _ => none
section
variable {X : Cx} {A : List Nat} {K : PySem.W.Frag} {H : Hp} {σ : List (Option V)} {env : En} {O S : List Addr}
theorem Good.storeC {i : Nat} {d : D} {v : V} (n : d ≠ .jnk) (g : Good K H (some v :: σ) (d :: env) O S) : ∃ O' S', Good K H (σ.set i (some v)) (env.set i d) O' S' ∧ (∀ a, O'.count a ≤ O.count a) ∧ ∀ a ∈ S', a ∈ S := by
  obtain ⟨O1, S1, O2, S2, q, r, e1, e2⟩ := g.head n
  obtain ⟨O', S', h1, h2, h3⟩ := r.store (i := i) q
  subst e1 e2
  have c1 : ∀ a, O'.count a ≤ (O1 ++ O2).count a := fun a => by rw [List.count_append]; exact h2 a
  have c2 : ∀ a ∈ S', a ∈ S1 ++ S2 := fun a m => List.mem_append.mpr (h3 a m)
  exact ⟨O', S', (g.re h1 (.of c1 c2) fr_refl).1, c1, c2⟩
theorem STg.name (i : Nat) {x : Str} {pos : Pos} (hA : i ∈ A) (hN : X.N.Nodup) (hi : X.N[i]? = some x := by rfl) (hx : Loc X.env.scope x := by first | exact Or.inl rfl | exact Or.inr rfl)
    (hf : X.fn x = true ∨ X.env.scope.names.lookup x = some .local := by first | exact .inl rfl | exact .inr rfl) : STg X A (.Name x pos) (ftN i) := ⟨PG.imp (pg_name hN hi hx hf) fun v σ H Q q => by
  obtain ⟨d, env, O, S, env', n, g, hg, q⟩ := q
  cases hg
  obtain ⟨O', S', g', c1, c2⟩ := Good.storeC (i := i) n g
  exact q _ O' S' g' c1 c2 (.set hA)⟩
theorem STgs.nil : STgs X A [] ftNil := ⟨PGs.imp pgs_nil fun v σ H Q q => by
  obtain ⟨ds, env, O, S, env', hl, n, g, hg, q⟩ := q
  cases ds with
  | nil =>
    cases hg
    have e : v = [] := List.eq_nil_of_length_eq_zero hl
    subst e
    exact ⟨rfl, q σ O S g (fun a => Nat.le_refl _) (fun a m => m) .refl⟩
  | cons d r => cases hg⟩
theorem STgs.cons {e : Expr} {es : List Expr} {f : D → En → Option En} {fs : List D → En → Option En} (h1 : STg X A e f) (h2 : STgs X A es fs)
    (hs : (assignEach (e :: es) X.env).map (·.2) = assign e X.env :: (assignEach es X.env).map (·.2) := by rfl) : STgs X A (e :: es) (ftCons f fs) := ⟨PGs.imp (pgs_cons h1.pg h2.pgs hs) fun vs σ H Q q => by
  obtain ⟨ds, env, O, S, env', hl, n, g, hg, q⟩ := q
  cases ds with
  | nil => cases hg
  | cons d r =>
    cases vs with
    | nil => simp at hl
    | cons v vs =>
      obtain ⟨e1, h3, h4⟩ := Option.bind_eq_some_iff.mp hg
      have hl' : vs.length = r.length := by simpa using hl
      obtain ⟨O1, S1, g1, c1, c2⟩ : ∃ O1 S1, Good X.K H (some v :: σ) (d :: env) O1 S1 ∧ (∀ a, O1.count a ≤ O.count a) ∧ ∀ a ∈ S1, a ∈ S := by
        obtain ⟨Oa, Sa, Ob, Sb, qa, rb, e1, e2⟩ := g.head (n d List.mem_cons_self)
        obtain ⟨Oc, Sc, Od, Sd, hc, hd, e3, e4⟩ := rb.split (by simpa using hl')
        subst e1 e2 e3 e4
        have k1 : ∀ a, (Oa ++ Od).count a ≤ (Oa ++ (Oc ++ Od)).count a := fun a => by simp only [List.count_append]; omega
        have k2 : ∀ a ∈ Sa ++ Sd, a ∈ Sa ++ (Sc ++ Sd) := fun a m => by
          simp only [List.mem_append] at m ⊢
          exact m.imp id .inr
        exact ⟨_, _, (g.re (.cons qa hd) (.of k1 k2) fr_refl).1, k1, k2⟩
      -- the rest is held behind
      obtain ⟨Oa, Sa, Ob, Sb, qa, rb, ea, eb⟩ := g.head (n d List.mem_cons_self)
      obtain ⟨Oc, Sc, Od, Sd, hc, hd, ec, ed⟩ := rb.split (by simpa using hl')
      subst ea eb ec ed
      have nd := g.nd
      have dj := g.dj
      have g0 : Good X.K H (some v :: σ) (d :: env) (Oa ++ Od) (Sa ++ Sd) := ⟨.cons qa hd, fun a => by
        have := nd a
        simp only [List.count_append] at this ⊢
        omega, fun a m => by
        have := dj a (by simp only [List.mem_append] at m ⊢; exact m.imp id .inr)
        simp only [List.count_append] at this ⊢
        omega⟩
      refine ⟨v, vs, rfl, d, env, _, _, e1, n d List.mem_cons_self, g0, h3, fun σ1 O2 S2 g2 k1 k2 kp => ?_⟩
      have g3 : Good X.K H (vs.map some ++ σ1) (r ++ e1) (Oc ++ O2) (Sc ++ S2) := ⟨hc.join g2.sl, fun a => by
        have := nd a
        have := k1 a
        simp only [List.count_append] at *
        omega, fun a m => by
        have h5 := k1 a
        simp only [List.count_append] at h5 ⊢
        have h6 : a ∈ Sa ++ (Sc ++ Sd) := by
          rcases List.mem_append.mp m with m | m
          · exact List.mem_append_right _ (List.mem_append_left _ m)
          · have := k2 a m
            simp only [List.mem_append] at this ⊢
            exact this.imp id .inr
        have := dj a h6
        simp only [List.count_append] at this
        omega⟩
      refine ⟨r, e1, _, _, env', hl', fun c m => n c (List.mem_cons_of_mem _ m), g3, h4, fun σ2 O4 S4 g4 k3 k4 kp2 => q σ2 O4 S4 g4 (fun a => ?_) (fun a m => ?_) (kp.trans kp2)⟩
      · have := k3 a
        have := k1 a
        simp only [List.count_append] at *
        omega
      · have := k4 a m
        rcases List.mem_append.mp this with z | z
        · exact List.mem_append_right _ (List.mem_append_left _ z)
        · have := k2 a z
          simp only [List.mem_append] at this ⊢
          exact this.imp id .inr⟩
theorem STg.tup {es : List Expr} {k : Nat} {pos : Pos} {fs : List D → En → Option En} (hc : X.calm = true) (h : STgs X A es fs) (hn : (assignEach es X.env).length = es.length := by rfl) (hst : (assignEach es X.env).findIdx? (·.1) = none := by rfl) :
    STg X A (.Tuple es k pos) (ftTup es.length fs) := ⟨PG.imp (pg_tup hc h.pgs hn hst) fun v σ H Q q => by
  obtain ⟨d, env, O, S, env', nj, g, hg, q⟩ := q
  unfold ftTup at hg
  split at hg
  · rename_i ds
    split at hg
    · rename_i hl
      obtain ⟨O1, S1, O2, S2, r, sl, e1, e2⟩ := g.head nj
      obtain ⟨a, vs, ev, sq, rl⟩ := r.tupI
      subst e1 e2
      have g2 : Good X.K H (vs.map some ++ σ) (ds ++ env) (O1 ++ O2) (S1 ++ S2) := ⟨(SL.of_repL rl).join sl, g.nd, g.dj⟩
      exact ⟨a, vs, ev, sq, by rw [rl.length, hl], ds, env, _, _, env', rl.length, rl.nj, g2, hg, q⟩
    · cases hg
  · cases hg⟩
end

/-! ### what is walked -/
/-- in every state that St tells of, the iterator yields the items; what they read is told by P -/
def Yl (K : PySem.W.Frag) (J : It) (items : List D) (St : Hp → (Addr → Prop) → Prop) : Prop :=
  (∀ (i : Nat) (H : Hp) (P : Addr → Prop) (d : D), items[i]? = some d → St H P → J.go i H ∧ ∀ x H', J.yld i H x H' → Same H H' ∧ ∃ S1, Rep K H' x d [] S1 ∧ ∀ a ∈ S1, P a) ∧
  ∀ (H : Hp) (P : Addr → Prop), St H P → J.stop items.length H
theorem Yl.at {K : PySem.W.Frag} {J : It} {items : List D} {St : Hp → (Addr → Prop) → Prop}
    (h : ∀ H P, St H P → ∃ vs S1 G, Walk J vs.length G (YAt vs) ∧ G H ∧ RepL K H vs items [] S1 ∧ ∀ a ∈ S1, P a) : Yl K J items St := by
  refine ⟨fun i H P d hd st => ?_, fun H P st => ?_⟩
  · obtain ⟨vs, S1, G, w, g, r, hs⟩ := h H P st
    have hi : i < vs.length := by rw [r.length]; exact (List.getElem?_eq_some_iff.mp hd).1
    refine ⟨w.goes i H hi g, fun x H' y => ?_⟩
    obtain ⟨e, hx⟩ := w.yields i H x H' hi g y
    subst e
    obtain ⟨v, O1, S2, hv, rv, ho, hs2⟩ := r.get hd
    rw [hv] at hx
    cases (Option.some.inj hx : _ = _)
    have e0 : O1 = [] := List.eq_nil_iff_forall_not_mem.mpr fun a m => nomatch ho a m
    subst e0
    exact ⟨Same.refl _, S2, rv, fun a m => hs a (hs2 a m)⟩
  · obtain ⟨vs, S1, G, w, g, r, hs⟩ := h H P st
    rw [← r.length]
    exact w.stops H g
theorem Yl.pair {K : PySem.W.Frag} {J : It} {items : List D} {St : Hp → (Addr → Prop) → Prop}
    (h : ∀ H P, St H P → ∃ fx fy G, Walk J items.length G (YPair fx fy) ∧ G H ∧ ∀ (i : Nat) (d : D), items[i]? = some d → ∃ dx dy, d = .tup [dx, dy] ∧
      (∀ x, fx i = some x → ∃ S1, Rep K H x dx [] S1 ∧ ∀ a ∈ S1, P a) ∧ ∀ y, fy i = some y → ∃ S1, Rep K H y dy [] S1 ∧ ∀ a ∈ S1, P a) : Yl K J items St := by
  refine ⟨fun i H P d hd st => ?_, fun H P st => ?_⟩
  · obtain ⟨fx, fy, G, w, g, hp⟩ := h H P st
    have hi := (List.getElem?_eq_some_iff.mp hd).1
    refine ⟨w.goes i H hi g, fun x H' y => ?_⟩
    obtain ⟨T, x1, y1, e1, nT, e2, hx, hy⟩ := w.yields i H x H' hi g y
    subst e1 e2
    obtain ⟨dx, dy, e3, h1, h2⟩ := hp i d hd
    subst e3
    obtain ⟨S1, r1, p1⟩ := h1 x1 hx
    obtain ⟨S2, r2, p2⟩ := h2 y1 hy
    have sm := upd_same' (o := .tup [x1, y1]) nT
    refine ⟨sm, S1 ++ (S2 ++ []), .tup (SqT.of upd_same) (.cons (O1 := []) (O2 := []) (r1.same sm) (.cons (O1 := []) (O2 := []) (r2.same sm) .nil)), fun a m => ?_⟩
    rcases List.mem_append.mp m with m | m
    · exact p1 a m
    · exact p2 a (by simpa using m)
  · obtain ⟨fx, fy, G, w, g, hp⟩ := h H P st
    exact w.stops H g
/-- the states in which some values are held ahead -/
def HeldS (K : PySem.W.Frag) (ts : List (Option V)) (tds : List D) : Hp → (Addr → Prop) → Prop := fun H P => ∃ σ env O S, Good K H (ts ++ σ) (tds ++ env) O S ∧ P = (· ∈ S)
/-- the states to which a state has grown -/
def GrownS (H0 H1 : Hp) (S : List Addr) : Hp → (Addr → Prop) → Prop := fun H P => Same H1 H ∧ P = fun a => (a ∈ S ∨ H0 a = none) ∧ H1 a ≠ none
def tI (K : PySem.W.Frag) (fi : En → Option (List D × En)) : TI := fun σ H R => ∃ env O S items env', Good K H σ env O S ∧ fi env = some (items, env') ∧
  ∀ J ts tds H' O' S', ts.length = tds.length → Good K H' (ts ++ σ) (tds ++ env') O' S' → Step H H' O O' S S' → Yl K J items (HeldS K ts tds) → R J H'
structure SI (X : Cx) (tg e : Expr) (fi : En → Option (List D × En)) : Prop where
  pi : PI X tg e (tI X.K fi)
def tIV (K : PySem.W.Frag) (gi : En → Option (List D)) : TI := fun σ H R => ∃ env O S items, Good K H σ env O S ∧ gi env = some items ∧ ∀ J H', Same H H' → Yl K J items (GrownS H H' S) → R J H'
structure SIV (X : Cx) (tg e : Expr) (gi : En → Option (List D)) : Prop where
  pi : PI X tg e (tIV X.K gi)
theorem PI_imp {X : Cx} {tg e : Expr} {t t' : TI} (h : PI X tg e t) (i : ∀ σ H Q, t' σ H Q → t σ H Q) : PI X tg e t' := ⟨fun pins s σ H Q I q => h.run pins s σ H Q I (i σ H Q q)⟩
theorem SqT.same {K : PySem.W.Frag} {H H' : Hp} {a : Addr} {vs : List V} (sm : Same H H') (h : SqT K H a vs) : SqT K H' a vs := LT.SqT.frame (Fr.of_same sm) wok_nil h
mutual
theorem fz_own {K : PySem.W.Frag} {H : Hp} : ∀ (d : D) {v : V} {O S : List Addr}, Rep K H v (fz d) O S → O = []
  | .jnk, _, _, _, r => by cases r
  | .non, _, _, _, r => by cases r; rfl
  | .bl _, _, _, _, r => by cases r; rfl
  | .int _, _, _, _, r => by cases r; rfl
  | .str _, _, _, _, r => by cases r; rfl
  | .tup xs, _, _, _, r => by cases r with | tup _ r => exact fzs_own xs r
  | .lst _ xs, _, _, _, r => by cases r; rfl
  | .frl xs, _, _, _, r => by cases r with | frl _ r => exact fzs_own xs r
theorem fzs_own {K : PySem.W.Frag} {H : Hp} : ∀ (d : List D) {v : List V} {O S : List Addr}, RepL K H v (fzs d) O S → O = []
  | [], _, _, _, r => by cases r; rfl
  | x :: xs, _, _, _, r => by cases r with | cons p r => rw [fz_own x p, fzs_own xs r]; rfl
end
section
variable {X : Cx} {tg e : Expr} {g : En → Option D} {f : En → Option (D × En)}
def seqV (g : En → Option D) : En → Option (List D) := fun env => (g env).bind kidsN
def seqE (f : En → Option (D × En)) : En → Option (List D × En) := fun env => (f env).bind fun p => (kids p.1).map fun xs => (fzs xs, p.2)
theorem SIV.seq (h : SV X e g) : SIV X tg e (seqV g) := ⟨PI_imp (LTup.pi_seq h.pe) fun σ H R q => by
  obtain ⟨env, O, S, items, gd, hg, q⟩ := q
  obtain ⟨d, h1, h2⟩ := Option.bind_eq_some_iff.mp hg
  refine ⟨env, O, S, d, gd, h1, fun v H1 sm x => ?_⟩
  obtain ⟨O1, S1, r, ho, hs⟩ := x
  obtain ⟨a, vs, S2, ev, sq, rl, hs2⟩ := r.kidsN h2
  refine ⟨a, vs, ev, ?_⟩
  rcases sq with sq | sq
  · refine .inl ⟨sq, q _ H1 sm (Yl.at ?_)⟩
    rintro H2 P ⟨s2, rfl⟩
    exact ⟨vs, S2, _, walk_list, s2.seq sq, rl.same s2, fun c m => ⟨hs c (hs2 c m), rl.snone c m⟩⟩
  · refine .inr ⟨sq, q _ H1 sm (Yl.at ?_)⟩
    rintro H2 P ⟨s2, rfl⟩
    exact ⟨vs, S2, _, walk_tup, LT.SqT.same s2 sq, rl.same s2, fun c m => ⟨hs c (hs2 c m), rl.snone c m⟩⟩⟩
/-- a held value, made read-only -/
theorem Good.fzHead {K : PySem.W.Frag} {H : Hp} {σ : List (Option V)} {env : En} {O S : List Addr} {v : V} {d : D} (n : d ≠ .jnk) (g : Good K H (some v :: σ) (d :: env) O S) : ∃ O' S', Good K H (some v :: σ) (LT.fz d :: env) O' S' ∧ Step H H O O' S S' := by
  obtain ⟨O1, S1, O2, S2, r, sl, e1, e2⟩ := g.head n
  subst e1 e2
  obtain ⟨S3, rf, hs⟩ := r.fz
  have hre : Re (O1 ++ O2) (S1 ++ S2) ([] ++ O2) (S3 ++ S2) := ⟨O1, fun a => by simp only [List.nil_append, List.count_append]; omega, fun a m => by
    rcases List.mem_append.mp m with m | m
    · rcases hs a m with z | z
      · exact .inr z
      · exact .inl (List.mem_append_left _ z)
    · exact .inl (List.mem_append_right _ m)⟩
  obtain ⟨g', st⟩ := g.re (.cons rf sl) hre fr_refl
  exact ⟨_, _, g', st⟩
/-- what is held and read-only, seen at any later time -/
inductive SeqD : D → List D → Prop
  | lst {o : Bool} {xs : List D} : SeqD (.lst o xs) xs
  | frl {xs : List D} : SeqD (.frl xs) xs
  | tup {xs : List D} : SeqD (.tup xs) xs
theorem kids_seq {d : D} {xs : List D} (h : kids d = some xs) : SeqD d xs := by cases d <;> cases h <;> constructor
/-- list or tuple -/
def isTupD : D → Bool
  | .tup _ => true
  | _ => false
theorem held_seen {K : PySem.W.Frag} {H : Hp} {σ : List (Option V)} {env : En} {O S : List Addr} {v : V} {d : D} {xs : List D} (h : kids d = some xs) (g : Good K H (some v :: σ) (LT.fz d :: env) O S) :
    ∃ a vs S1, v = .ref a ∧ (if isTupD d then SqT K H a vs else SqL K H a vs) ∧ RepL K H vs (fzs xs) [] S1 ∧ ∀ c ∈ S1, c ∈ S := by
  have n : LT.fz d ≠ .jnk := by cases d <;> first | (cases h; done) | exact fun z => nomatch z
  obtain ⟨O1, S1, O2, S2, r, sl, e1, e2⟩ := g.head n
  have e0 := fz_own d r
  subst e0
  have sub : ∀ c ∈ S1, c ∈ S := fun c m => by rw [e2]; exact List.mem_append_left _ m
  cases d <;> cases h
  · cases r with
    | tup q r => exact ⟨_, _, _, rfl, q, r, sub⟩
  · cases r with
    | shr q r => exact ⟨_, _, _, rfl, SqL.of q, r, fun c m => sub c (List.mem_cons_of_mem _ m)⟩
  · cases r with
    | frl q r => exact ⟨_, _, _, rfl, q.seq, r, sub⟩
theorem SI.seq (h : SE X e f) : SI X tg e (seqE f) := ⟨PI_imp (LTup.pi_seq h.pe) fun σ H R q => by
  obtain ⟨env, O, S, items, env', gd, hg, q⟩ := q
  obtain ⟨⟨d, e1⟩, h1, h2⟩ := Option.bind_eq_some_iff.mp hg
  obtain ⟨xs, h3, h4⟩ := Option.map_eq_some_iff.mp h2
  cases h4
  refine ⟨env, O, S, d, _, gd, h1, fun v H1 O1 S1 n1 g1 st1 => ?_⟩
  obtain ⟨O2, S2, g2, st2⟩ := g1.fzHead n1
  obtain ⟨a, vs, S4, ev, sq, rl, hs4⟩ := held_seen h3 g2
  subst ev
  refine ⟨a, vs, rfl, ?_⟩
  by_cases t : isTupD d = true
  · rw [if_pos t] at sq
    refine .inr ⟨sq, q _ [some (.ref a)] [LT.fz d] H1 O2 S2 rfl g2 (st1.trans st2) (Yl.at ?_)⟩
    rintro H2 P ⟨σ2, env2, O3, S3, g3, rfl⟩
    obtain ⟨b, ws, S5, eb, sq5, rl5, hs5⟩ := held_seen h3 g3
    cases eb
    rw [if_pos t] at sq5
    exact ⟨ws, S5, _, walk_tup, sq5, rl5, hs5⟩
  · rw [if_neg t] at sq
    refine .inl ⟨sq, q _ [some (.ref a)] [LT.fz d] H1 O2 S2 rfl g2 (st1.trans st2) (Yl.at ?_)⟩
    rintro H2 P ⟨σ2, env2, O3, S3, g3, rfl⟩
    obtain ⟨b, ws, S5, eb, sq5, rl5, hs5⟩ := held_seen h3 g3
    cases eb
    rw [if_neg t] at sq5
    exact ⟨ws, S5, _, walk_list, sq5, rl5, hs5⟩⟩
/-! ranges -/
def rgD (lo c : Int) (n : Nat) : List D := (List.range n).map fun (i : Nat) => D.int (lo + (i : Int) * c)
theorem rgD_len (lo c : Int) (n : Nat) : (rgD lo c n).length = n := by unfold rgD; rw [List.length_map, List.length_range]
theorem yl_fn {K : PySem.W.Frag} {J : It} {lo c : Int} {n : Nat} {St : Hp → (Addr → Prop) → Prop} (w : Walk J n (fun _ => True) (YFn fun i => .int (lo + (i : Nat) * c))) : Yl K J (rgD lo c n) St := by
  refine ⟨fun i H P d hd st => ?_, fun H P st => ?_⟩
  · have hi : i < n := by
      have := (List.getElem?_eq_some_iff.mp hd).1
      rwa [rgD_len] at this
    refine ⟨w.goes i H hi trivial, fun x H' y => ?_⟩
    obtain ⟨e, hx⟩ := w.yields i H x H' hi trivial y
    subst e hx
    have ed : d = .int (lo + (i : Int) * c) := by
      unfold rgD at hd
      rw [List.getElem?_map, List.getElem?_range hi] at hd
      exact (Option.some.inj hd).symm
    subst ed
    exact ⟨Same.refl _, [], .int _, (fun a m => nomatch m)⟩
  · rw [rgD_len]
    exact w.stops H trivial
theorem walk_rng {lo : Int} {n : Nat} : Walk (Itr lo n) n (fun _ => True) (YFn fun i => .int (lo + (i : Nat) * 1)) :=
  ⟨fun _ _ hi _ => hi, fun _ _ => Nat.le_refl _, fun i _ _ _ _ _ y => ⟨y.1, y.2.trans (by show V.int (lo + (i : Int)) = V.int (lo + (i : Int) * 1); rw [Int.mul_one])⟩⟩
noncomputable def okR (i : Int) : Bool := hard (-4611686018427387904 ≤ i ∧ i < 4611686018427387904)
noncomputable def rngK : List D → Option (List D)
  | [.int j] => if okR j then some (rgD 0 1 j.toNat) else none
  | [.int i, .int j] => if okR i && okR j then some (rgD i 1 (j - i).toNat) else none
  | [.int i, .int j, .int c] => if okR i && okR j && c == -1 then some (rgD i (-1) (i - j).toNat) else none
  | _ => none
noncomputable def rngV (gs : En → Option (List D)) : En → Option (List D) := fun env => (gs env).bind rngK
noncomputable def rngE (fs : En → Option (List D × En)) : En → Option (List D × En) := fun env => (fs env).bind fun p => (rngK p.1).map fun xs => (xs, p.2)
theorem okR_iff {i : Int} (h : okR i = true) : -(2 ^ 62) ≤ i ∧ i < 2 ^ 62 := by
  have := of_hard h
  omega
theorem repL_int1 {K : PySem.W.Frag} {H : Hp} {vs : List V} {i : Int} {O S : List Addr} (r : RepL K H vs [.int i] O S) : vs = [.int i] := by
  obtain ⟨v, rfl, p⟩ := r.one
  rw [rep_same p]
theorem repL_int2 {K : PySem.W.Frag} {H : Hp} {vs : List V} {i j : Int} {O S : List Addr} (r : RepL K H vs [.int i, .int j] O S) : vs = [.int i, .int j] := by
  obtain ⟨v, w, _, _, _, _, rfl, p, q, _⟩ := r.two
  rw [rep_same p, rep_same q]
theorem repL_int3 {K : PySem.W.Frag} {H : Hp} {vs : List V} {i j k : Int} {O S : List Addr} (r : RepL K H vs [.int i, .int j, .int k] O S) : vs = [.int i, .int j, .int k] := by
  cases r with
  | cons p r => rw [rep_same p, repL_int2 r]
variable {a b c : Expr} {gs : En → Option (List D)} {fs : En → Option (List D × En)} {p pos : Pos}
theorem rng_one {K : PySem.W.Frag} {H : Hp} {vs : List V} {ds items : List D} {O S : List Addr} (r : RepL K H vs ds O S) (hl : ds.length = 1) (h : rngK ds = some items) : ∃ j, vs = [.int j] ∧ -(2 ^ 62) ≤ j ∧ j < 2 ^ 62 ∧ items = rgD 0 1 j.toNat := by
  match ds, hl, h with
  | [.int j], _, h =>
    simp only [rngK] at h
    split at h
    · rename_i n
      cases h
      exact ⟨j, repL_int1 r, (okR_iff n).1, (okR_iff n).2, rfl⟩
    · cases h
theorem rng_two {K : PySem.W.Frag} {H : Hp} {vs : List V} {ds items : List D} {O S : List Addr} (r : RepL K H vs ds O S) (hl : ds.length = 2) (h : rngK ds = some items) : ∃ i j, vs = [.int i, .int j] ∧ (-(2 ^ 62) ≤ i ∧ i < 2 ^ 62 ∧ -(2 ^ 62) ≤ j ∧ j < 2 ^ 62) ∧ items = rgD i 1 (j - i).toNat := by
  match ds, hl, h with
  | [.int i, .int j], _, h =>
    simp only [rngK] at h
    split at h
    · rename_i n
      cases h
      rw [Bool.and_eq_true] at n
      exact ⟨i, j, repL_int2 r, ⟨(okR_iff n.1).1, (okR_iff n.1).2, okR_iff n.2⟩, rfl⟩
    · cases h
theorem rng_three {K : PySem.W.Frag} {H : Hp} {vs : List V} {ds items : List D} {O S : List Addr} (r : RepL K H vs ds O S) (hl : ds.length = 3) (h : rngK ds = some items) : ∃ i j, vs = [.int i, .int j, .int (-1)] ∧ (-(2 ^ 62) ≤ i ∧ i < 2 ^ 62 ∧ -(2 ^ 62) ≤ j ∧ j < 2 ^ 62) ∧ items = rgD i (-1) (i - j).toNat := by
  match ds, hl, h with
  | [.int i, .int j, .int k], _, h =>
    simp only [rngK] at h
    split at h
    · rename_i n
      cases h
      simp only [Bool.and_eq_true, beq_iff_eq] at n
      obtain ⟨⟨n1, n2⟩, rfl⟩ := n
      exact ⟨i, j, repL_int3 r, ⟨(okR_iff n1).1, (okR_iff n1).2, okR_iff n2⟩, rfl⟩
    · cases h
theorem SIV.rng1 (hm : X.mg "range" = none) (h : SVs X [a] gs) (hg : Gl X "range" := by rfl) (hs : starEach [a] X.env = [(false, eval a X.env)] := by rfl) (hl : ∀ env ds, gs env = some ds → ds.length = 1) : SIV X tg (.Call (.Name "range" p) [a] [] pos) (rngV gs) := ⟨PI_imp (pi_range1 hg hm h.pa hs) fun σ H R q => by
  obtain ⟨env, O, S, items, gd, hg, q⟩ := q
  obtain ⟨ds, h1, h2⟩ := Option.bind_eq_some_iff.mp hg
  refine ⟨env, O, S, ds, gd, h1, fun vs H1 sm x => ?_⟩
  obtain ⟨O1, S1, r, _⟩ := x
  obtain ⟨j, e1, b1, b2, e2⟩ := rng_one r (hl _ _ h1) h2
  subst e2
  exact ⟨j, e1, b1, b2, q _ H1 sm (yl_fn walk_rng)⟩⟩
theorem SIV.rng2 (hm : X.mg "range" = none) (h : SVs X [a, b] gs) (hl : ∀ env ds, gs env = some ds → ds.length = 2) (hg : Gl X "range" := by rfl) (hs : starEach [a, b] X.env = [(false, eval a X.env), (false, eval b X.env)] := by rfl) (hs2 : starEach [b] X.env = [(false, eval b X.env)] := by rfl) : SIV X tg (.Call (.Name "range" p) [a, b] [] pos) (rngV gs) := ⟨PI_imp (pi_range2 hg hm h.pa hs hs2) fun σ H R q => by
  obtain ⟨env, O, S, items, gd, hg, q⟩ := q
  obtain ⟨ds, h1, h2⟩ := Option.bind_eq_some_iff.mp hg
  refine ⟨env, O, S, ds, gd, h1, fun vs H1 sm x => ?_⟩
  obtain ⟨O1, S1, r, _⟩ := x
  obtain ⟨i, j, e1, b1, e2⟩ := rng_two r (hl _ _ h1) h2
  subst e2
  exact ⟨i, j, e1, b1, q _ H1 sm (yl_fn walk_rng)⟩⟩
theorem yl_held0 {K : PySem.W.Frag} {J : It} {items : List D} : Yl K J items (HeldS K [] []) → Yl K J items (HeldS K [] []) := id
theorem SI.rng1 (hm : X.mg "range" = none) (h : SEs X [a] fs) (hl : ∀ env q, fs env = some q → q.1.length = 1) (hg : Gl X "range" := by rfl) (hs : starEach [a] X.env = [(false, eval a X.env)] := by rfl) : SI X tg (.Call (.Name "range" p) [a] [] pos) (rngE fs) := ⟨PI_imp (pi_range1 hg hm h.pa hs) fun σ H R q => by
  obtain ⟨env, O, S, items, env', gd, hg, q⟩ := q
  obtain ⟨⟨ds, e1⟩, h1, h2⟩ := Option.bind_eq_some_iff.mp hg
  obtain ⟨xs, h3, h4⟩ := Option.map_eq_some_iff.mp h2
  cases h4
  refine ⟨env, O, S, ds, _, gd, h1, fun vs H1 O1 S1 hv nn g1 st1 => ?_⟩
  obtain ⟨_, _, _, _, r, _⟩ := repL_of g1 hv nn
  obtain ⟨j, ev, b1, b2, ei⟩ := rng_one r (hl _ _ h1) h3
  subst ei
  obtain ⟨O2, S2, g2, st2⟩ := g1.drops (by simpa using hv)
  exact ⟨j, ev, b1, b2, q _ [] [] H1 O2 S2 rfl g2 (st1.trans st2) (yl_fn walk_rng)⟩⟩
theorem SI.rng2 (hm : X.mg "range" = none) (h : SEs X [a, b] fs) (hl : ∀ env q, fs env = some q → q.1.length = 2) (hg : Gl X "range" := by rfl) (hs : starEach [a, b] X.env = [(false, eval a X.env), (false, eval b X.env)] := by rfl) (hs2 : starEach [b] X.env = [(false, eval b X.env)] := by rfl) : SI X tg (.Call (.Name "range" p) [a, b] [] pos) (rngE fs) := ⟨PI_imp (pi_range2 hg hm h.pa hs hs2) fun σ H R q => by
  obtain ⟨env, O, S, items, env', gd, hg, q⟩ := q
  obtain ⟨⟨ds, e1⟩, h1, h2⟩ := Option.bind_eq_some_iff.mp hg
  obtain ⟨xs, h3, h4⟩ := Option.map_eq_some_iff.mp h2
  cases h4
  refine ⟨env, O, S, ds, _, gd, h1, fun vs H1 O1 S1 hv nn g1 st1 => ?_⟩
  obtain ⟨_, _, _, _, r, _⟩ := repL_of g1 hv nn
  obtain ⟨i, j, ev, b1, ei⟩ := rng_two r (hl _ _ h1) h3
  subst ei
  obtain ⟨O2, S2, g2, st2⟩ := g1.drops (by simpa using hv)
  exact ⟨i, j, ev, b1, q _ [] [] H1 O2 S2 rfl g2 (st1.trans st2) (yl_fn walk_rng)⟩⟩
theorem SI.rng3 (hm : X.mg "range" = none) (h : SEs X [a, b, c] fs) (hl : ∀ env q, fs env = some q → q.1.length = 3) (hg : Gl X "range" := by rfl) (hs : starEach [a, b, c] X.env = (false, eval a X.env) :: starEach [b, c] X.env := by rfl) (hpl : (backTo pos (starEach [b, c] X.env)).any (·.1) = false := by rfl) : SI X tg (.Call (.Name "range" p) [a, b, c] [] pos) (rngE fs) := ⟨PI_imp (pi_range3 hg hm h.pa hs hpl) fun σ H R q => by
  obtain ⟨env, O, S, items, env', gd, hg, q⟩ := q
  obtain ⟨⟨ds, e1⟩, h1, h2⟩ := Option.bind_eq_some_iff.mp hg
  obtain ⟨xs, h3, h4⟩ := Option.map_eq_some_iff.mp h2
  cases h4
  refine ⟨env, O, S, ds, _, gd, h1, fun vs H1 O1 S1 hv nn g1 st1 => ?_⟩
  obtain ⟨_, _, _, _, r, _⟩ := repL_of g1 hv nn
  obtain ⟨i, j, ev, ⟨b1, b2, b3, b4⟩, ei⟩ := rng_three r (hl _ _ h1) h3
  subst ei
  obtain ⟨O2, S2, g2, st2⟩ := g1.drops (by simpa using hv)
  exact ⟨i, j, -1, _, ev, .neg b1 b2 b3 b4, q _ [] [] H1 O2 S2 rfl g2 (st1.trans st2) (yl_fn walk_rangeC)⟩⟩
theorem len1V {g1 : En → Option D} : ∀ env ds, consG g1 (fun _ => some []) env = some ds → ds.length = 1 := fun env ds h => by
  obtain ⟨d, h1, h2⟩ := Option.bind_eq_some_iff.mp h
  cases h2; rfl
theorem len2V {g1 g2 : En → Option D} : ∀ env ds, consG g1 (consG g2 (fun _ => some [])) env = some ds → ds.length = 2 := fun env ds h => by
  obtain ⟨d, h1, h2⟩ := Option.bind_eq_some_iff.mp h
  obtain ⟨ds', h3, h4⟩ := Option.map_eq_some_iff.mp h2
  cases h4
  show _ + 1 = 2
  rw [len1V env ds' h3]
theorem len1E {f1 : En → Option (D × En)} : ∀ env q, consE f1 (fun e => some ([], e)) env = some q → q.1.length = 1 := fun env ds h => by
  obtain ⟨d, h1, h2⟩ := Option.bind_eq_some_iff.mp h
  cases h2; rfl
theorem len2E {f1 f2 : En → Option (D × En)} : ∀ env q, consE f1 (consE f2 (fun e => some ([], e))) env = some q → q.1.length = 2 := fun env ds h => by
  obtain ⟨d, h1, h2⟩ := Option.bind_eq_some_iff.mp h
  obtain ⟨ds', h3, h4⟩ := Option.map_eq_some_iff.mp h2
  cases h4
  show _ + 1 = 2
  rw [len1E _ ds' h3]
theorem len3E {f1 f2 f3 : En → Option (D × En)} : ∀ env q, consE f1 (consE f2 (consE f3 (fun e => some ([], e)))) env = some q → q.1.length = 3 := fun env ds h => by
  obtain ⟨d, h1, h2⟩ := Option.bind_eq_some_iff.mp h
  obtain ⟨ds', h3, h4⟩ := Option.map_eq_some_iff.mp h2
  cases h4
  show _ + 1 = 3
  rw [len2E _ ds' h3]
end
end LT

set_option Elab.async false
set_option linter.all false
set_option maxRecDepth 100000
set_option maxHeartbeats 1000000
namespace LT
open PySem PySem.Spec PyProof.Rows L2
/-! ### enumerate, zip -/
def enumD (xs : List D) : List D := xs.zipIdx.map fun p => D.tup [.int (p.2 : Nat), p.1]
def zipD (xs ys : List D) : List D := List.zipWith (fun a b => D.tup [a, b]) xs ys
theorem enumD_len (xs : List D) : (enumD xs).length = xs.length := by unfold enumD; rw [List.length_map, List.length_zipIdx]
theorem enumD_get {xs : List D} {i : Nat} {d : D} (h : (enumD xs)[i]? = some d) : ∃ y, xs[i]? = some y ∧ d = .tup [.int (i : Nat), y] := by
  unfold enumD at h
  rw [List.getElem?_map, List.getElem?_zipIdx] at h
  cases e : xs[i]? with
  | none => rw [e] at h; cases h
  | some y =>
    rw [e] at h
    refine ⟨y, rfl, ?_⟩
    have := (Option.some.inj h).symm
    simpa using this
theorem zipD_get {xs ys : List D} {i : Nat} {d : D} (h : (zipD xs ys)[i]? = some d) : ∃ x y, xs[i]? = some x ∧ ys[i]? = some y ∧ d = .tup [x, y] := by
  unfold zipD at h
  rw [List.getElem?_zipWith] at h
  cases e : xs[i]? with
  | none => rw [e] at h; cases h
  | some x =>
    cases e2 : ys[i]? with
    | none => rw [e, e2] at h; cases h
    | some y =>
      rw [e, e2] at h
      exact ⟨x, y, rfl, rfl, (Option.some.inj h).symm⟩
theorem zipD_len (xs ys : List D) : (zipD xs ys).length = min xs.length ys.length := List.length_zipWith
def enumV (g : En → Option D) : En → Option (List D) := fun env => (g env).bind fun d => (kidsN d).map enumD
def enumE (f : En → Option (D × En)) : En → Option (List D × En) := fun env => (f env).bind fun p => (kids p.1).map fun xs => (enumD (fzs xs), p.2)
def zipV (ga gb : En → Option D) : En → Option (List D) := fun env => (ga env).bind fun d => (gb env).bind fun e => if isTupD d == isTupD e then (kidsN d).bind fun xs => (kidsN e).map fun ys => zipD xs ys else none
def zipE (fa fb : En → Option (D × En)) : En → Option (List D × En) := fun env => (fa env).bind fun p => (fb p.2).bind fun q => if isTupD p.1 == isTupD q.1 then (kids p.1).bind fun xs => (kids q.1).map fun ys => (zipD (fzs xs) (fzs ys), q.2) else none
section
variable {X : Cx} {e b : Expr} {elts : List Expr} {kk : Nat} {tpos p pos : Pos} {g gb : En → Option D} {f fb : En → Option (D × En)}
theorem rep_at {K : PySem.W.Frag} {H : Hp} {vs : List V} {ds : List D} {S1 : List Addr} {i : Nat} {d : D} {x : V} {P : Addr → Prop} (r : RepL K H vs ds [] S1) (hd : ds[i]? = some d) (hx : vs[i]? = some x) (hs : ∀ a ∈ S1, P a) : ∃ S2, Rep K H x d [] S2 ∧ ∀ a ∈ S2, P a := by
  obtain ⟨v, O1, S2, hv, rv, ho, hs2⟩ := r.get hd
  rw [hv] at hx
  cases (Option.some.inj hx : _ = _)
  have e0 : O1 = [] := List.eq_nil_iff_forall_not_mem.mpr fun a m => nomatch ho a m
  subst e0
  exact ⟨S2, rv, fun a m => hs a (hs2 a m)⟩
theorem Rep.kidsNT {K : PySem.W.Frag} {H : Hp} {v : V} {d : D} {ds : List D} {O S : List Addr} (r : Rep K H v d O S) (h : LT.kidsN d = some ds) :
    ∃ a vs S1, v = .ref a ∧ (if isTupD d then SqT K H a vs else SqL K H a vs) ∧ RepL K H vs ds [] S1 ∧ ∀ c ∈ S1, c ∈ S := by
  obtain ⟨xs, h1, h2⟩ := Option.bind_eq_some_iff.mp h
  split at h2
  · rename_i n
    cases h2
    cases r with
    | tup q r2 => cases h1; have := r2.noOwn n; subst this; exact ⟨_, _, _, rfl, q, r2, fun c m => m⟩
    | own q r2 => cases h1; have := r2.noOwn n; subst this; exact ⟨_, _, _, rfl, SqL.of q, r2, fun c m => m⟩
    | shr q r2 => cases h1; exact ⟨_, _, _, rfl, SqL.of q, r2, fun c m => List.mem_cons_of_mem _ m⟩
    | frl q r2 => cases h1; have := r2.noOwn n; subst this; exact ⟨_, _, _, rfl, q.seq, r2, fun c m => m⟩
    | _ => cases h1
  · cases h2
theorem SIV.enum (hm : X.mg "enumerate" = none) (h : SV X e g) (hg : Gl X "enumerate" := by rfl) (hs : starEach [e] X.env = [(false, eval e X.env)] := by rfl) : SIV X (.Tuple elts kk tpos) (.Call (.Name "enumerate" p) [e] [] pos) (enumV g) := ⟨PI_imp (LTup.pi_enumA hg hm (pa_cons h.pe pa_nil hs) hs) fun σ H R q => by
  obtain ⟨env, O, S, items, gd, hg, q⟩ := q
  obtain ⟨d, h1, h2⟩ := Option.bind_eq_some_iff.mp hg
  obtain ⟨xs, h3, h4⟩ := Option.map_eq_some_iff.mp h2
  subst h4
  refine ⟨env, O, S, d, gd, h1, fun v H1 sm x => ?_⟩
  obtain ⟨O1, S1, r, ho, hs⟩ := x
  obtain ⟨a, vs, S2, ev, sq, rl, hs2⟩ := r.kidsNT h3
  subst ev
  refine ⟨a, vs, rfl, ?_⟩
  by_cases t : isTupD d = true
  · rw [if_pos t] at sq
    refine .inr ⟨sq, q _ H1 sm (Yl.pair ?_)⟩
    rintro H2 P ⟨s2, rfl⟩
    refine ⟨_, _, _, by rw [enumD_len, ← rl.length]; exact LTup.walk_enumT, LT.SqT.same s2 sq, fun i d hd => ?_⟩
    obtain ⟨y, hy, ed⟩ := enumD_get hd
    refine ⟨_, y, ed, fun x hx => ⟨[], ?_, (fun a m => nomatch m)⟩, fun z hz => rep_at (rl.same s2) hy hz fun c m => ⟨hs c (hs2 c m), rl.snone c m⟩⟩
    cases hx
    exact .int _
  · rw [if_neg t] at sq
    refine .inl ⟨sq, q _ H1 sm (Yl.pair ?_)⟩
    rintro H2 P ⟨s2, rfl⟩
    refine ⟨_, _, _, by rw [enumD_len, ← rl.length]; exact walk_enum, s2.seq sq, fun i d hd => ?_⟩
    obtain ⟨y, hy, ed⟩ := enumD_get hd
    refine ⟨_, y, ed, fun x hx => ⟨[], ?_, (fun a m => nomatch m)⟩, fun z hz => rep_at (rl.same s2) hy hz fun c m => ⟨hs c (hs2 c m), rl.snone c m⟩⟩
    cases hx
    exact .int _⟩
theorem SI.enum (hm : X.mg "enumerate" = none) (h : SE X e f) (hg : Gl X "enumerate" := by rfl) (hs : starEach [e] X.env = [(false, eval e X.env)] := by rfl) : SI X (.Tuple elts kk tpos) (.Call (.Name "enumerate" p) [e] [] pos) (enumE f) := ⟨PI_imp (LTup.pi_enumA hg hm (pa_cons h.pe pa_nil hs) hs) fun σ H R q => by
  obtain ⟨env, O, S, items, env', gd, hg, q⟩ := q
  obtain ⟨⟨d, e1⟩, h1, h2⟩ := Option.bind_eq_some_iff.mp hg
  obtain ⟨xs, h3, h4⟩ := Option.map_eq_some_iff.mp h2
  cases h4
  refine ⟨env, O, S, d, _, gd, h1, fun v H1 O1 S1 n1 g1 st1 => ?_⟩
  obtain ⟨O2, S2, g2, st2⟩ := g1.fzHead n1
  obtain ⟨a, vs, S4, ev, sq, rl, hs4⟩ := held_seen h3 g2
  subst ev
  refine ⟨a, vs, rfl, ?_⟩
  by_cases t : isTupD d = true
  · rw [if_pos t] at sq
    refine .inr ⟨sq, q _ [some (.ref a)] [LT.fz d] H1 O2 S2 rfl g2 (st1.trans st2) (Yl.pair ?_)⟩
    rintro H2 P ⟨σ2, env2, O3, S3, g3, rfl⟩
    obtain ⟨b, ws, S5, eb, sq5, rl5, hs5⟩ := held_seen h3 g3
    cases eb
    rw [if_pos t] at sq5
    refine ⟨_, _, _, by rw [enumD_len, ← rl5.length]; exact LTup.walk_enumT, sq5, fun i d hd => ?_⟩
    obtain ⟨y, hy, ed⟩ := enumD_get hd
    refine ⟨_, y, ed, fun x hx => ⟨[], ?_, (fun a m => nomatch m)⟩, fun z hz => rep_at rl5 hy hz hs5⟩
    cases hx
    exact .int _
  · rw [if_neg t] at sq
    refine .inl ⟨sq, q _ [some (.ref a)] [LT.fz d] H1 O2 S2 rfl g2 (st1.trans st2) (Yl.pair ?_)⟩
    rintro H2 P ⟨σ2, env2, O3, S3, g3, rfl⟩
    obtain ⟨b, ws, S5, eb, sq5, rl5, hs5⟩ := held_seen h3 g3
    cases eb
    rw [if_neg t] at sq5
    refine ⟨_, _, _, by rw [enumD_len, ← rl5.length]; exact walk_enum, sq5, fun i d hd => ?_⟩
    obtain ⟨y, hy, ed⟩ := enumD_get hd
    refine ⟨_, y, ed, fun x hx => ⟨[], ?_, (fun a m => nomatch m)⟩, fun z hz => rep_at rl5 hy hz hs5⟩
    cases hx
    exact .int _⟩
theorem SIV.zip (hm : X.mg "zip" = none) (h : SV X e g) (h' : SV X b gb) (hg : Gl X "zip" := by rfl) (hs : starEach [e, b] X.env = (false, eval e X.env) :: starEach [b] X.env := by rfl) (hpl : (backTo pos (starEach [b] X.env)).any (·.1) = false := by rfl)
    (hs2 : starEach [b] X.env = (false, eval b X.env) :: starEach [] X.env := by rfl) : SIV X (.Tuple elts kk tpos) (.Call (.Name "zip" p) [e, b] [] pos) (zipV g gb) := ⟨PI_imp (RZ.pi_zipA hg hm (pa_cons h.pe (pa_cons h'.pe pa_nil hs2) hs) hs hpl) fun σ H R q => by
  obtain ⟨env, O, S, items, gd, hg, q⟩ := q
  obtain ⟨d, h1, h2⟩ := Option.bind_eq_some_iff.mp hg
  obtain ⟨d2, h3, h4⟩ := Option.bind_eq_some_iff.mp h2
  split at h4
  · rename_i tt
    have tt := eq_of_beq tt
    obtain ⟨xs, h5, h6⟩ := Option.bind_eq_some_iff.mp h4
    obtain ⟨ys, h7, h8⟩ := Option.map_eq_some_iff.mp h6
    subst h8
    refine ⟨env, O, S, d, gd, h1, fun v H1 sm x => ?_⟩
    refine ⟨env, O, S, d2, gd.same sm, h3, fun v2 H2 sm2 x2 => ?_⟩
    obtain ⟨O1, S1, r, ho, hs⟩ := x.up sm2
    obtain ⟨O3, S3, r3, ho3, hs3⟩ := x2.base sm
    obtain ⟨a, vs, S2, ev, sq, rl, hs2⟩ := r.kidsNT h5
    obtain ⟨b, ws, S4, ev2, sq2, rl2, hs4⟩ := r3.kidsNT h7
    subst ev ev2
    refine ⟨a, b, vs, ws, rfl, ?_⟩
    by_cases t : isTupD d = true
    · rw [if_pos t] at sq
      rw [← tt, if_pos t] at sq2
      refine .inr ⟨sq, sq2, q _ H2 (sm.trans sm2) (Yl.pair ?_)⟩
      rintro H3 P ⟨s2, rfl⟩
      refine ⟨_, _, _, by rw [zipD_len, ← rl.length, ← rl2.length]; exact LTup.walk_zipT, And.intro (LT.SqT.same s2 sq) (LT.SqT.same s2 sq2), fun i d hd => ?_⟩
      obtain ⟨x, y, hx, hy, ed⟩ := zipD_get hd
      exact ⟨x, y, ed, fun z hz => rep_at (rl.same s2) hx hz fun c m => ⟨hs c (hs2 c m), rl.snone c m⟩, fun z hz => rep_at (rl2.same s2) hy hz fun c m => ⟨hs3 c (hs4 c m), rl2.snone c m⟩⟩
    · rw [if_neg t] at sq
      rw [← tt, if_neg t] at sq2
      refine .inl ⟨sq, sq2, q _ H2 (sm.trans sm2) (Yl.pair ?_)⟩
      rintro H3 P ⟨s2, rfl⟩
      refine ⟨_, _, fun H => SqL X.K H a vs ∧ SqL X.K H b ws, walk_zip (by rw [zipD_len, rl.length, rl2.length]), ⟨s2.seq sq, s2.seq sq2⟩, fun i d hd => ?_⟩
      obtain ⟨x, y, hx, hy, ed⟩ := zipD_get hd
      exact ⟨x, y, ed, fun z hz => rep_at (rl.same s2) hx hz fun c m => ⟨hs c (hs2 c m), rl.snone c m⟩, fun z hz => rep_at (rl2.same s2) hy hz fun c m => ⟨hs3 c (hs4 c m), rl2.snone c m⟩⟩
  · cases h4⟩
theorem SI.zip (hm : X.mg "zip" = none) (h : SE X e f) (h' : SE X b fb) (hg : Gl X "zip" := by rfl) (hs : starEach [e, b] X.env = (false, eval e X.env) :: starEach [b] X.env := by rfl) (hpl : (backTo pos (starEach [b] X.env)).any (·.1) = false := by rfl)
    (hs2 : starEach [b] X.env = (false, eval b X.env) :: starEach [] X.env := by rfl) : SI X (.Tuple elts kk tpos) (.Call (.Name "zip" p) [e, b] [] pos) (zipE f fb) := ⟨PI_imp (RZ.pi_zipA hg hm (pa_cons h.pe (pa_cons h'.pe pa_nil hs2) hs) hs hpl) fun σ H R q => by
  obtain ⟨env, O, S, items, env', gd, hg, q⟩ := q
  obtain ⟨⟨d, e1⟩, h1, h2⟩ := Option.bind_eq_some_iff.mp hg
  obtain ⟨⟨d2, e2⟩, h3, h4⟩ := Option.bind_eq_some_iff.mp h2
  split at h4
  · rename_i tt
    have tt := eq_of_beq tt
    obtain ⟨xs, h5, h6⟩ := Option.bind_eq_some_iff.mp h4
    obtain ⟨ys, h7, h8⟩ := Option.map_eq_some_iff.mp h6
    cases h8
    refine ⟨env, O, S, d, e1, gd, h1, fun v H1 O1 S1 n1 g1 st1 => ?_⟩
    obtain ⟨Oσ, Sσ, g1', _, lift⟩ := Good.lift (xs := [some v]) (ds := [d]) g1 rfl
    refine ⟨e1, Oσ, Sσ, d2, _, g1', h3, fun v2 H2 O2 S2 n2 g2 st2 => ?_⟩
    obtain ⟨O3, S3, g3, st3⟩ := lift H2 _ _ O2 S2 g2 st2
    obtain ⟨O4, S4, g4, st4⟩ := Good.fzHead n1 g3
    obtain ⟨O5, S5, g5, st5⟩ := Good.swap (x := some v) (y := some v2) g4
    obtain ⟨O6, S6, g6, st6⟩ := Good.fzHead n2 g5
    obtain ⟨O7, S7, g7, st7⟩ := Good.swap g6
    have see : ∀ {H' : Hp} {σ' : List (Option V)} {env2 : En} {O' S' : List Addr}, Good X.K H' (some v :: some v2 :: σ') (LT.fz d :: LT.fz d2 :: env2) O' S' → (∃ a vs S1, v = .ref a ∧ (if isTupD d then SqT X.K H' a vs else SqL X.K H' a vs) ∧ RepL X.K H' vs (fzs xs) [] S1 ∧ ∀ c ∈ S1, c ∈ S') ∧
        ∃ b ws S1, v2 = .ref b ∧ (if isTupD d2 then SqT X.K H' b ws else SqL X.K H' b ws) ∧ RepL X.K H' ws (fzs ys) [] S1 ∧ ∀ c ∈ S1, c ∈ S' := fun {H' σ' env2 O' S'} g' => by
      refine ⟨held_seen h5 g', ?_⟩
      have nf : LT.fz d ≠ .jnk := fz_nj n1
      obtain ⟨Oa, Sa, Ob, Sb, ra, slb, ea, eb⟩ := g'.head nf
      have nd := g'.nd
      have dj := g'.dj
      subst ea eb
      have gb : Good X.K H' (some v2 :: σ') (LT.fz d2 :: env2) Ob Sb := ⟨slb, fun a => by have := nd a; rw [List.count_append] at this; omega, fun a m => by have := dj a (List.mem_append_right _ m); rw [List.count_append] at this; omega⟩
      obtain ⟨b, ws, S8, h9, h10, h11, h12⟩ := held_seen h7 gb
      exact ⟨b, ws, S8, h9, h10, h11, fun c m => List.mem_append_right _ (h12 c m)⟩
    obtain ⟨⟨a, vs, Sa, ev, sq, rl, hsa⟩, ⟨b, ws, Sb, ev2, sq2, rl2, hsb⟩⟩ := see g7
    subst ev ev2
    have fin := q
    refine ⟨a, b, vs, ws, rfl, ?_⟩
    have stAll := ((((st1.trans st3).trans st4).trans st5).trans st6).trans st7
    by_cases t : isTupD d = true
    · rw [if_pos t] at sq
      rw [← tt, if_pos t] at sq2
      refine .inr ⟨sq, sq2, q _ [some (.ref a), some (.ref b)] [LT.fz d, LT.fz d2] H2 O7 S7 rfl g7 stAll (Yl.pair ?_)⟩
      rintro H3 P ⟨σ2, env2, O8, S8, g8, rfl⟩
      obtain ⟨⟨a', vs', Sa', ev, sq', rl', hsa'⟩, ⟨b', ws', Sb', ev2, sq2', rl2', hsb'⟩⟩ := see g8
      cases ev
      cases ev2
      rw [if_pos t] at sq'
      rw [← tt, if_pos t] at sq2'
      refine ⟨_, _, _, by rw [zipD_len, ← rl'.length, ← rl2'.length]; exact LTup.walk_zipT, And.intro sq' sq2', fun i d hd => ?_⟩
      obtain ⟨x, y, hx, hy, ed⟩ := zipD_get hd
      exact ⟨x, y, ed, fun z hz => rep_at rl' hx hz hsa', fun z hz => rep_at rl2' hy hz hsb'⟩
    · rw [if_neg t] at sq
      rw [← tt, if_neg t] at sq2
      refine .inl ⟨sq, sq2, q _ [some (.ref a), some (.ref b)] [LT.fz d, LT.fz d2] H2 O7 S7 rfl g7 stAll (Yl.pair ?_)⟩
      rintro H3 P ⟨σ2, env2, O8, S8, g8, rfl⟩
      obtain ⟨⟨a', vs', Sa', ev, sq', rl', hsa'⟩, ⟨b', ws', Sb', ev2, sq2', rl2', hsb'⟩⟩ := see g8
      cases ev
      cases ev2
      rw [if_neg t] at sq'
      rw [← tt, if_neg t] at sq2'
      refine ⟨_, _, fun H => SqL X.K H a vs' ∧ SqL X.K H b ws', walk_zip (by rw [zipD_len, rl'.length, rl2'.length]), ⟨sq', sq2'⟩, fun i d hd => ?_⟩
      obtain ⟨x, y, hx, hy, ed⟩ := zipD_get hd
      exact ⟨x, y, ed, fun z hz => rep_at rl' hx hz hsa', fun z hz => rep_at rl2' hy hz hsb'⟩
  · cases h4⟩
end

/-! ### statements -/
inductive Fl where
  | nx | bk | ct | rt (d : D)
def endP (K : PySem.W.Frag) (A : List Nat) (D0 : Ends) (σ : List (Option V)) (H : Hp) (O S : List Addr) (env' : En) : Fl → Prop
  | .nx => ∀ σ' H' O' S', Good K H' σ' env' O' S' → Step H H' O O' S S' → Kept A σ σ' → D0.nx σ' H'
  | .bk => ∀ σ' H' O' S', Good K H' σ' env' O' S' → Step H H' O O' S S' → Kept A σ σ' → D0.bk σ' H'
  | .ct => ∀ σ' H' O' S', Good K H' σ' env' O' S' → Step H H' O O' S S' → Kept A σ σ' → D0.ct σ' H'
  | .rt d => ∀ v σ' H' O' S', d ≠ .jnk → Good K H' (some v :: σ') (d :: env') O' S' → Step H H' O O' S S' → Kept A σ σ' → D0.rt v H'
def tS (K : PySem.W.Frag) (A : List Nat) (F : En → Option (Fl × En)) : TS := fun D0 σ H => ∃ env O S fl env', Good K H σ env O S ∧ F env = some (fl, env') ∧ endP K A D0 σ H O S env' fl
structure SS (X : Cx) (A : List Nat) (st : Stmt) (F : En → Option (Fl × En)) : Prop where
  ps : PS X st (tS X.K A F)
structure SSs (X : Cx) (A : List Nat) (st : List Stmt) (F : En → Option (Fl × En)) : Prop where
  pss : PSs X st (tS X.K A F)
def seqS (F G : En → Option (Fl × En)) : En → Option (Fl × En) := fun env => (F env).bind fun p => match p.1 with
  | .nx => G p.2
  | _ => some p
theorem endP.from {K : PySem.W.Frag} {A : List Nat} {D0 : Ends} {σ σ1 : List (Option V)} {H H1 : Hp} {O S O1 S1 : List Addr} {env' : En} {fl : Fl} (st : Step H H1 O O1 S S1) (kp : Kept A σ σ1) (h : endP K A D0 σ H O S env' fl) : endP K A D0 σ1 H1 O1 S1 env' fl := by
  cases fl with
  | nx => exact fun σ' H' O' S' g s k => h σ' H' O' S' g (st.trans s) (kp.trans k)
  | bk => exact fun σ' H' O' S' g s k => h σ' H' O' S' g (st.trans s) (kp.trans k)
  | ct => exact fun σ' H' O' S' g s k => h σ' H' O' S' g (st.trans s) (kp.trans k)
  | rt d => exact fun v σ' H' O' S' n g s k => h v σ' H' O' S' n g (st.trans s) (kp.trans k)
section
variable {X : Cx} {A : List Nat} {st : Stmt} {rest : List Stmt} {F G : En → Option (Fl × En)} {e : Expr} {f : En → Option (D × En)} {pos : Pos}
theorem SSs.nil : SSs X A [] (fun env => some (.nx, env)) := ⟨PSs.imp pss_nil fun D0 σ H q => by
  obtain ⟨env, O, S, fl, env', g, hg, q⟩ := q
  cases hg
  exact q σ H O S g .refl .refl⟩
theorem SSs.cons (h1 : SS X A st F) (h2 : SSs X A rest G) : SSs X A (st :: rest) (seqS F G) := ⟨PSs.imp (pss_cons h1.ps h2.pss) fun D0 σ H q => by
  obtain ⟨env, O, S, fl, env', g, hg, q⟩ := q
  obtain ⟨⟨fl1, e1⟩, h3, h4⟩ := Option.bind_eq_some_iff.mp hg
  refine ⟨env, O, S, fl1, e1, g, h3, ?_⟩
  cases fl1 with
  | nx => exact fun σ1 H1 O1 S1 g1 st1 k1 => ⟨e1, O1, S1, fl, env', g1, h4, q.from st1 k1⟩
  | bk => cases h4; exact q
  | ct => cases h4; exact q
  | rt d => cases h4; exact q⟩
theorem SSs.one (h1 : SS X A st F) : SSs X A [st] F := ⟨PSs.imp (pss_one h1.ps) fun D0 σ H q => q⟩
theorem SS.pass : SS X A (.Pass pos) (fun env => some (.nx, env)) := ⟨PS.imp ps_pass fun D0 σ H q => by
  obtain ⟨env, O, S, fl, env', g, hg, q⟩ := q
  cases hg
  exact q σ H O S g .refl .refl⟩
theorem SS.brk : SS X A (.Break pos) (fun env => some (.bk, env)) := ⟨PS.imp ps_break fun D0 σ H q => by
  obtain ⟨env, O, S, fl, env', g, hg, q⟩ := q
  cases hg
  exact q σ H O S g .refl .refl⟩
theorem SS.cont : SS X A (.Continue pos) (fun env => some (.ct, env)) := ⟨PS.imp ps_continue fun D0 σ H q => by
  obtain ⟨env, O, S, fl, env', g, hg, q⟩ := q
  cases hg
  exact q σ H O S g .refl .refl⟩
def retS (f : En → Option (D × En)) : En → Option (Fl × En) := fun env => (f env).map fun p => (.rt p.1, p.2)
theorem SS.ret (h : SE X e f) : SS X A (.Return (some e) pos) (retS f) := ⟨PS.imp (ps_ret h.pe) fun D0 σ H q => by
  obtain ⟨env, O, S, fl, env', g, hg, q⟩ := q
  obtain ⟨⟨d, e1⟩, h1, h2⟩ := Option.map_eq_some_iff.mp hg
  cases h2
  exact ⟨env, O, S, d, _, g, h1, fun v H' O' S' n g' s => q v σ H' O' S' n g' s .refl⟩⟩
theorem SS.retN : SS X A (.Return none pos) (fun env => some (.rt .non, env)) := ⟨PS.imp ps_retN fun D0 σ H q => by
  obtain ⟨env, O, S, fl, env', g, hg, q⟩ := q
  cases hg
  obtain ⟨O', S', g', s⟩ := g.held1 (Same.refl H) (scV_fv (d := .non) (v := .non) rfl)
  exact q .non σ H O' S' (fun z => nomatch z) g' s .refl⟩
def expS (f : En → Option (D × En)) : En → Option (Fl × En) := fun env => (f env).map fun p => (.nx, p.2)
theorem SS.exp (h : SE X e f) (hs : swapsWith e none pos.line X.env = pure false := by rfl) : SS X A (.Expr e pos) (expS f) := ⟨PS.imp (ps_expr h.pe hs) fun D0 σ H q => by
  obtain ⟨env, O, S, fl, env', g, hg, q⟩ := q
  obtain ⟨⟨d, e1⟩, h1, h2⟩ := Option.map_eq_some_iff.mp hg
  cases h2
  refine ⟨env, O, S, d, _, g, h1, fun v H' O' S' n g' s => ?_⟩
  obtain ⟨O2, S2, g2, s2⟩ := g'.drop
  exact q σ H' O2 S2 g2 (s.trans s2) .refl⟩
def asgS (f : En → Option (D × En)) (ft : D → En → Option En) : En → Option (Fl × En) := fun env => (f env).bind fun p => (ft p.1 p.2).map fun e => (.nx, e)
theorem SS.set (i : Nat) {x : Str} {npos : Pos} (hA : i ∈ A) (hN : X.N.Nodup) (h : SE X e f) (hi : X.N[i]? = some x := by rfl) (hx : Loc X.env.scope x := by first | exact Or.inl rfl | exact Or.inr rfl) (hs : swapsWith e (some (.Name x npos)) pos.line X.env = pure false := by rfl)
    (hf : X.fn x = true ∨ X.env.scope.names.lookup x = some .local := by first | exact .inl rfl | exact .inr rfl) : SS X A (.Assign [.Name x npos] e pos) (asgS f (ftN i)) := ⟨PS.imp (ps_set hN hi hx h.pe hs hf) fun D0 σ H q => by
  obtain ⟨env, O, S, fl, env', g, hg, q⟩ := q
  obtain ⟨⟨d, e1⟩, h1, h2⟩ := Option.bind_eq_some_iff.mp hg
  cases h2
  refine ⟨env, O, S, d, e1, g, h1, fun v H' O' S' n g' s => ?_⟩
  obtain ⟨O2, S2, g2, s2⟩ := g'.store (i := i)
  exact q _ H' O2 S2 g2 (s.trans s2) (.set hA)⟩
theorem SS.asg {tg : Expr} {ft : D → En → Option En} (h : SE X e f) (hg : STg X A tg ft) (hs : swapsWithSole [tg] e pos.line X.env = pure false := by rfl) (hw : swappedStores [tg] e X.env = pure none := by rfl)
    (h1 : (assignEach [tg] X.env).map (·.2) = [assign tg X.env] := by rfl) : SS X A (.Assign [tg] e pos) (asgS f ft) := ⟨PS.imp (ps_asg h.pe hg.pg hs hw h1) fun D0 σ H q => by
  obtain ⟨env, O, S, fl, env', g, hg, q⟩ := q
  obtain ⟨⟨d, e1⟩, h1, h2⟩ := Option.bind_eq_some_iff.mp hg
  obtain ⟨e2, h3, h4⟩ := Option.map_eq_some_iff.mp h2
  cases h4
  refine ⟨env, O, S, d, e1, g, h1, fun v H' O' S' n g' s => ?_⟩
  refine ⟨d, e1, O', S', _, n, g', h3, fun σ2 O2 S2 g2 c1 c2 kp => ?_⟩
  obtain ⟨_, s2⟩ := g'.re g2.sl (.of c1 c2) fr_refl
  exact q σ2 H' O2 S2 g2 (s.trans s2) kp⟩
def ifS (t : En → Option (Bool × En)) (F G : En → Option (Fl × En)) : En → Option (Fl × En) := fun env => (t env).bind fun p => if p.1 then F p.2 else G p.2
theorem SS.ite {c : Expr} {a b : List Stmt} {t : En → Option (Bool × En)} (hc : ST X c t) (ha : SSs X A a F) (hb : SSs X A b G) : SS X A (.If c a b pos) (ifS t F G) := ⟨PS.imp (ps_if hc.pt ha.pss hb.pss) fun D0 σ H q => by
  obtain ⟨env, O, S, fl, env', g, hg, q⟩ := q
  obtain ⟨⟨b, e1⟩, h1, h2⟩ := Option.bind_eq_some_iff.mp hg
  refine ⟨env, O, S, b, e1, g, h1, fun H1 O1 S1 g1 s1 => ?_⟩
  cases b with
  | true => exact ⟨e1, O1, S1, fl, env', g1, h2, q.from s1 .refl⟩
  | false => exact ⟨e1, O1, S1, fl, env', g1, h2, q.from s1 .refl⟩⟩
def forF (ft : D → En → Option En) (F : En → Option (Fl × En)) : List D → En → Option (Fl × En)
  | [], env => some (.nx, env)
  | d :: r, env => (ft d env).bind fun e1 => (F e1).bind fun p => match p.1 with
    | .nx => forF ft F r p.2
    | .ct => forF ft F r p.2
    | .bk => some (.nx, p.2)
    | .rt v => some (.rt v, p.2)
def forS (fi : En → Option (List D × En)) (ft : D → En → Option En) (F : En → Option (Fl × En)) : En → Option (Fl × En) := fun env => (fi env).bind fun p => forF ft F p.1 p.2
/-- a new value goes behind the held ones -/
theorem Good.insert {K : PySem.W.Frag} {H H1 : Hp} {ts σ : List (Option V)} {tds : List D} {env : En} {O S : List Addr} {x : V} {d : D} {S1 : List Addr} (hl : ts.length = tds.length) (g : Good K H (ts ++ σ) (tds ++ env) O S) (sm : Same H H1) (r : Rep K H1 x d [] S1) (hs : ∀ a ∈ S1, a ∈ S) :
    ∃ O' S', Good K H1 (ts ++ (some x :: σ)) (tds ++ (d :: env)) O' S' ∧ Step H H1 O O' S S' := by
  obtain ⟨O1, S2, O2, S3, h1, h2, e1, e2⟩ := g.sl.split hl
  subst e1 e2
  have s' := (h1.same sm).join (SL.cons r (h2.same sm))
  refine ⟨_, _, (g.re s' (.of (fun a => by simp only [List.count_append, List.count_nil]; omega) fun a m => ?_) (fun a o e _ => sm a o e))⟩
  rcases List.mem_append.mp m with m | m
  · exact List.mem_append_left _ m
  · rcases List.mem_append.mp m with m | m
    · exact hs a m
    · exact List.mem_append_right _ m
theorem SS.for {tg iter : Expr} {body : List Stmt} {fi : En → Option (List D × En)} {ft : D → En → Option En} (hp : PassesOwn (model X.prog X.w) X.A X.env X.xe) (hc : X.calm = true) (hi : SI X tg iter fi) (hg : STg X A tg ft) (hb : SSs X A body F)
    (hs : ∀ x, foldedSetIterable iter X.env x = pure x := by intro _; rfl) : SS X A (.For tg iter body [] pos) (forS fi ft F) := ⟨PS.imp (ps_for hp hc hi.pi hg.pg hb.pss hs) fun D0 σ H q => by
  obtain ⟨env, O, S, fl, env', g, hgf, q⟩ := q
  obtain ⟨⟨items, e1⟩, h1, h2⟩ := Option.bind_eq_some_iff.mp hgf
  refine ⟨env, O, S, items, e1, g, h1, fun J ts tds H1 O1 S1 hl g1 s1 yl => ?_⟩
  refine ⟨fun i m σ' H' => m = items.length - i ∧ i ≤ items.length ∧ ∃ ei O' S', Good X.K H' (ts ++ σ') (tds ++ ei) O' S' ∧ Step H1 H' O1 O' S1 S' ∧ Kept A σ σ' ∧ forF ft F (items.drop i) ei = some (fl, env'),
    ⟨items.length, rfl, Nat.zero_le _, e1, O1, S1, g1, .refl, .refl, h2⟩, ?_⟩
  rintro i m σ' H' ⟨rfl, hi, ei, O', S', g', s', kp, hf⟩
  by_cases hlt : i < items.length
  · obtain ⟨d, hd⟩ : ∃ d, items[i]? = some d := ⟨items[i], List.getElem?_eq_getElem hlt⟩
    have hdrop : items.drop i = d :: items.drop (i + 1) := by
      rw [List.drop_eq_getElem_cons hlt]
      congr 1
      rw [List.getElem?_eq_getElem hlt] at hd
      exact Option.some.inj hd
    rw [hdrop] at hf
    obtain ⟨e2, k1, k2⟩ := Option.bind_eq_some_iff.mp hf
    obtain ⟨⟨flb, e3⟩, k3, k4⟩ := Option.bind_eq_some_iff.mp k2
    obtain ⟨hgo, hy⟩ := yl.1 i H' _ d hd ⟨σ', ei, O', S', g', rfl⟩
    refine .inr ⟨hgo, fun σ2 H2 => ∃ e4 O4 S4, Good X.K H2 (ts ++ σ2) (tds ++ e4) O4 S4 ∧ Step H1 H2 O1 O4 S1 S4 ∧ Kept A σ σ2 ∧ forF ft F (items.drop (i + 1)) e4 = some (fl, env'), fun σ2 H2 hn => ?_, fun x H2 hx => ?_⟩
    · obtain ⟨e4, O4, S4, g4, s4, k4, f4⟩ := hn
      exact ⟨items.length - (i + 1), by omega, rfl, hlt, e4, O4, S4, g4, s4, k4, f4⟩
    · obtain ⟨sm, S5, rx, hs5⟩ := hy x H2 hx
      obtain ⟨O6, S6, g6, s6⟩ := g'.insert hl sm rx hs5
      obtain ⟨Oσ, Sσ, gσ, _, lift⟩ := Good.lift g6 hl
      refine ⟨d, ei, Oσ, Sσ, e2, rx.nj, gσ, k1, fun σ3 O7 S7 g7 c1 c2 kp3 => ?_⟩
      obtain ⟨_, st7⟩ := gσ.re g7.sl (.of c1 c2) fr_refl
      obtain ⟨O8, S8, g8, s8⟩ := lift H2 σ3 e2 O7 S7 g7 st7
      obtain ⟨Oτ, Sτ, gτ, _, lift2⟩ := Good.lift g8 hl
      have s18 := (s'.trans s6).trans s8
      have kp' := kp.trans kp3
      refine ⟨e2, Oτ, Sτ, flb, e3, gτ, k3, ?_⟩
      have again : ∀ σ9 H9 O9 S9, forF ft F (items.drop (i + 1)) e3 = some (fl, env') → Good X.K H9 σ9 e3 O9 S9 → Step H2 H9 Oτ O9 Sτ S9 → Kept A σ3 σ9 → ∃ e4 O4 S4, Good X.K H9 (ts ++ σ9) (tds ++ e4) O4 S4 ∧ Step H1 H9 O1 O4 S1 S4 ∧ Kept A σ σ9 ∧ forF ft F (items.drop (i + 1)) e4 = some (fl, env') := fun σ9 H9 O9 S9 hff g9 s9 kp9 => by
        obtain ⟨Oa, Sa, ga, sa⟩ := lift2 H9 σ9 e3 O9 S9 g9 s9
        exact ⟨e3, Oa, Sa, ga, s18.trans sa, kp'.trans kp9, hff⟩
      cases flb with
      | nx => exact fun σ9 H9 O9 S9 g9 s9 kp9 => again σ9 H9 O9 S9 k4 g9 s9 kp9
      | ct => exact fun σ9 H9 O9 S9 g9 s9 kp9 => again σ9 H9 O9 S9 k4 g9 s9 kp9
      | bk =>
        cases k4
        intro σ9 H9 O9 S9 g9 s9 kp9
        obtain ⟨Oa, Sa, ga, sa⟩ := lift2 H9 σ9 _ O9 S9 g9 s9
        obtain ⟨Ob, Sb, gb, sb⟩ := ga.drops hl
        exact q σ9 H9 Ob Sb gb (((s1.trans s18).trans sa).trans sb) (kp'.trans kp9)
      | rt v =>
        cases k4
        intro u σ9 H9 O9 S9 n g9 s9 kp9
        obtain ⟨Oa, Sa, ga, sa⟩ := lift2 H9 (some u :: σ9) (v :: _) O9 S9 g9 s9
        obtain ⟨Ob, Sb, gb, sb⟩ := ga.drops hl
        exact q u σ9 H9 Ob Sb n gb (((s1.trans s18).trans sa).trans sb) (kp'.trans kp9)
  · have e0 : i = items.length := by omega
    subst e0
    rw [List.drop_length] at hf
    cases hf
    obtain ⟨Ob, Sb, gb, sb⟩ := g'.drops hl
    exact .inl ⟨yl.2 H' _ ⟨σ', _, O', S', g', rfl⟩, q σ' H' Ob Sb gb ((s1.trans s').trans sb) kp⟩⟩
/-! while -/
def whN (t : En → Option (Bool × En)) (F : En → Option (Fl × En)) : Nat → En → Option (Fl × En)
  | 0, _ => none
  | n + 1, env => (t env).bind fun p => if p.1 then (F p.2).bind fun q => match q.1 with
      | .nx => whN t F n q.2
      | .ct => whN t F n q.2
      | .bk => some (.nx, q.2)
      | .rt v => some (.rt v, q.2)
    else some (.nx, p.2)
open Classical in
noncomputable def whS (t : En → Option (Bool × En)) (F : En → Option (Fl × En)) : En → Option (Fl × En) := fun env => if h : ∃ n r, whN t F n env = some r then some h.choose_spec.choose else none
theorem whN_mono {t : En → Option (Bool × En)} {F : En → Option (Fl × En)} : ∀ {n m : Nat} {env : En} {r : Fl × En}, whN t F n env = some r → n ≤ m → whN t F m env = some r
  | 0, _, _, _, h, _ => nomatch h
  | n + 1, 0, _, _, _, hm => absurd hm (Nat.not_succ_le_zero n)
  | n + 1, m + 1, env, r, h, hm => by
    have hm' : n ≤ m := Nat.le_of_succ_le_succ hm
    obtain ⟨⟨b, e1⟩, h1, h2⟩ := Option.bind_eq_some_iff.mp h
    refine Option.bind_eq_some_iff.mpr ⟨(b, e1), h1, ?_⟩
    cases b with
    | false => exact h2
    | true =>
      obtain ⟨⟨fl, e2⟩, h3, h4⟩ := Option.bind_eq_some_iff.mp h2
      refine Option.bind_eq_some_iff.mpr ⟨(fl, e2), h3, ?_⟩
      cases fl with
      | nx => exact whN_mono h4 hm'
      | ct => exact whN_mono h4 hm'
      | bk => exact h4
      | rt v => exact h4
theorem whS_eq {t : En → Option (Bool × En)} {F : En → Option (Fl × En)} {n : Nat} {env : En} {r : Fl × En} (h : whN t F n env = some r) : whS t F env = some r := by
  unfold whS
  have hx : ∃ n r, whN t F n env = some r := ⟨n, r, h⟩
  rw [dif_pos hx]
  have h1 := hx.choose_spec.choose_spec
  have h2 := whN_mono h1 (Nat.le_max_left hx.choose n)
  have h3 := whN_mono h (Nat.le_max_right hx.choose n)
  rw [h2] at h3
  exact h3
theorem whS_some {t : En → Option (Bool × En)} {F : En → Option (Fl × En)} {env : En} {r : Fl × En} (h : whS t F env = some r) : ∃ n, whN t F n env = some r := by
  unfold whS at h
  split at h
  · rename_i hx
    cases h
    exact ⟨_, hx.choose_spec.choose_spec⟩
  · cases h
theorem SS.while {c : Expr} {body : List Stmt} {t : En → Option (Bool × En)} (hp : PassesOwn (model X.prog X.w) X.A X.env X.xe) (hc : ST X c t) (hb : SSs X A body F) : SS X A (.While c body [] pos) (whS t F) := ⟨PS.imp (ps_while hp hc.pt hb.pss) fun D0 σ H q => by
  obtain ⟨env, O, S, fl, env', g, hgf, q⟩ := q
  obtain ⟨n0, hn0⟩ := whS_some hgf
  refine ⟨fun m σ' H' => ∃ ei O' S', Good X.K H' σ' ei O' S' ∧ Step H H' O O' S S' ∧ Kept A σ σ' ∧ whN t F m ei = some (fl, env'), ⟨n0, env, O, S, g, .refl, .refl, hn0⟩, ?_⟩
  rintro m σ' H' ⟨ei, O', S', g', s', kp, hf⟩
  cases m with
  | zero => cases hf
  | succ m =>
    obtain ⟨⟨b, e1⟩, h1, h2⟩ := Option.bind_eq_some_iff.mp hf
    refine ⟨ei, O', S', b, e1, g', h1, fun H1 O1 S1 g1 s1 => ?_⟩
    cases b with
    | false =>
      cases h2
      exact q σ' H1 O1 S1 g1 (s'.trans s1) kp
    | true =>
      obtain ⟨⟨flb, e2⟩, h3, h4⟩ := Option.bind_eq_some_iff.mp h2
      refine ⟨fun σ2 H2 => ∃ e4 O4 S4, Good X.K H2 σ2 e4 O4 S4 ∧ Step H H2 O O4 S S4 ∧ Kept A σ σ2 ∧ whN t F m e4 = some (fl, env'), fun σ2 H2 hn => ⟨m, Nat.lt_succ_self m, hn⟩, ?_⟩
      refine ⟨e1, O1, S1, flb, e2, g1, h3, ?_⟩
      cases flb with
      | nx => exact fun σ9 H9 O9 S9 g9 s9 kp9 => ⟨e2, O9, S9, g9, (s'.trans s1).trans s9, kp.trans kp9, h4⟩
      | ct => exact fun σ9 H9 O9 S9 g9 s9 kp9 => ⟨e2, O9, S9, g9, (s'.trans s1).trans s9, kp.trans kp9, h4⟩
      | bk => cases h4; exact fun σ9 H9 O9 S9 g9 s9 kp9 => q σ9 H9 O9 S9 g9 ((s'.trans s1).trans s9) (kp.trans kp9)
      | rt v => cases h4; exact fun u σ9 H9 O9 S9 n g9 s9 kp9 => q u σ9 H9 O9 S9 n g9 ((s'.trans s1).trans s9) (kp.trans kp9)⟩
end
end LT

set_option Elab.async false
set_option linter.all false
set_option maxRecDepth 100000
set_option maxHeartbeats 1000000
namespace LT
open PySem PySem.Spec PyProof.Rows L2

/-! ### comprehensions -/
def wipeE (env : En) : List Nat → En
  | [] => env
  | v :: vs => (wipeE env vs).set v .jnk
section
variable {K : PySem.W.Frag} {H : Hp}
theorem SL.wipe : ∀ (vs : List Nat) {σ : List (Option V)} {env : En} {O S : List Addr}, SL K H σ env O S → ∃ O2 S2, SL K H (L2.wipe σ vs) (wipeE env vs) O2 S2 ∧ (∀ a, O2.count a ≤ O.count a) ∧ ∀ a ∈ S2, a ∈ S
  | [], _, _, O, S, h => ⟨O, S, h, fun a => Nat.le_refl _, fun a m => m⟩
  | v :: vs, _, _, O, S, h => by
    obtain ⟨O1, S1, h1, c1, c2⟩ := SL.wipe vs h
    obtain ⟨O2, S2, h2, c3, c4⟩ := h1.forget v none
    exact ⟨O2, S2, h2, fun a => Nat.le_trans (c3 a) (c1 a), fun a m => c2 a (c4 a m)⟩
theorem wipe_get {σ : List (Option V)} {i : Nat} : ∀ {vs : List Nat}, i ∉ vs → (L2.wipe σ vs)[i]? = σ[i]?
  | [], _ => rfl
  | v :: vs, h => by
    unfold L2.wipe
    rw [List.getElem?_set_ne (fun e => h (by rw [e]; exact List.mem_cons_self))]
    exact wipe_get fun m => h (List.mem_cons_of_mem _ m)
theorem wipe_in {σ : List (Option V)} {i : Nat} : ∀ {vs : List Nat}, i ∈ vs → (L2.wipe σ vs)[i]? = if i < σ.length then some none else none
  | v :: vs, h => by
    unfold L2.wipe
    by_cases e : v = i
    · subst e
      by_cases hl : v < σ.length
      · rw [if_pos hl, List.getElem?_set_self (by rw [wipe_length]; exact hl)]
      · rw [if_neg hl, List.getElem?_eq_none (by rw [List.length_set, wipe_length]; omega)]
    · rw [List.getElem?_set_ne e]
      rcases List.mem_cons.mp h with h | h
      · exact absurd h.symm e
      · exact wipe_in h
theorem wipe_kept {vs : List Nat} {σ1 σ2 : List (Option V)} (h : Kept vs σ1 σ2) : L2.wipe σ2 vs = L2.wipe σ1 vs := by
  refine List.ext_getElem? fun i => ?_
  by_cases hi : i ∈ vs
  · rw [wipe_in hi, wipe_in hi, h.1]
  · rw [wipe_get hi, wipe_get hi, h.2 i hi]
theorem wipe_wipe {vs : List Nat} {σ : List (Option V)} : L2.wipe (L2.wipe σ vs) vs = L2.wipe σ vs := wipe_kept ⟨wipe_length σ vs, fun i hi => wipe_get hi⟩
theorem Good.wipe {σ : List (Option V)} {env : En} {O S : List Addr} (g : Good K H σ env O S) (vs : List Nat) : ∃ O2 S2, Good K H (L2.wipe σ vs) (wipeE env vs) O2 S2 ∧ (∀ a, O2.count a ≤ O.count a) ∧ ∀ a ∈ S2, a ∈ S := by
  obtain ⟨O2, S2, h, c1, c2⟩ := g.sl.wipe vs
  exact ⟨O2, S2, (g.re h (.of c1 c2) fr_refl).1, c1, c2⟩
end
structure SBs (X : Cx) (ifs : List Expr) (t : En → Option Bool) : Prop where
  pts : PTs X ifs (tB1 X.K t)
structure STs (X : Cx) (ifs : List Expr) (t : En → Option (Bool × En)) : Prop where
  pts : PTs X ifs (tT X.K t)
theorem PTs_imp {X : Cx} {e : List Expr} {t t' : TT} (h : PTs X e t) (i : ∀ σ H Q, t' σ H Q → t σ H Q) : PTs X e t' := ⟨fun pins s σ H Q I q => h.run pins s σ H Q I (i σ H Q q)⟩
def yesB : En → Option Bool := fun _ => some true
def yesT : En → Option (Bool × En) := fun env => some (true, env)
theorem SBs.nil {X : Cx} : SBs X [] yesB := ⟨PTs_imp pts_nil fun σ H Q q => by
  obtain ⟨env, O, S, b, g, hg, q⟩ := q
  cases hg
  exact q H (Same.refl H)⟩
theorem SBs.one {X : Cx} {c : Expr} {t : En → Option Bool} (h : SB X c t) : SBs X [c] t := ⟨pts_one h.pt⟩
theorem STs.nil {X : Cx} : STs X [] yesT := ⟨PTs_imp pts_nil fun σ H Q q => by
  obtain ⟨env, O, S, b, env', g, hg, q⟩ := q
  cases hg
  exact q H O S g .refl⟩
theorem STs.one {X : Cx} {c : Expr} {t : En → Option (Bool × En)} (h : ST X c t) : STs X [c] t := ⟨pts_one h.pt⟩
def lcR (ft : D → En → Option En) (t : En → Option Bool) (g : En → Option D) (w : En) : List D → Option (List D)
  | [] => some []
  | d :: r => (ft d w).bind fun e1 => (t e1).bind fun b => if b then (g e1).bind fun y => (lcR ft t g w r).map fun ys => y :: ys else lcR ft t g w r
def lcV (vs : List Nat) (gi : En → Option (List D)) (ft : D → En → Option En) (t : En → Option Bool) (g : En → Option D) : En → Option D := fun env =>
  (gi env).bind fun items => if items.length ≤ sizeLine then (lcR ft t g (wipeE env vs) items).map fun ys => .lst true ys else none
section
variable {K : PySem.W.Frag}
theorem Same.upd_new {H1 H : Hp} {p : Addr} {o : HO} (sm : Same H1 H) (n : H1 p = none) : Same H1 (upd H p o) := fun a u e => by
  rw [upd_ne (ne_of_none e n)]
  exact sm a u e
theorem lcV_read {vs : List Nat} {gi : En → Option (List D)} {ft : D → En → Option En} {t : En → Option Bool} {g : En → Option D} {σ : L2.St} {H : Hp} {Q : VK} (q : tX K (lcV vs gi ft t g) σ H Q) :
    tLc (tIV K gi) (tG K vs ft) (tB1 K t) (tX K g) vs σ H Q := by
  obtain ⟨env, O, S, z, gd, hg, q⟩ := q
  obtain ⟨items, h1, h2⟩ := Option.bind_eq_some_iff.mp hg
  split at h2
  · rename_i hsz
    obtain ⟨res, h3, h4⟩ := Option.map_eq_some_iff.mp h2
    subst h4
    obtain ⟨Ow, Sw, gw, cw1, cw2⟩ := gd.wipe vs
    refine ⟨env, O, S, items, gd, h1, fun J H1 sm1 yl D hD => ?_⟩
    have hD0 : H D = none := sm1.free hD
    have nD : ∀ a, H1 a ≠ none → a ≠ D := fun a h e => h (e ▸ hD)
    have nS : ∀ a ∈ S, H1 a ≠ none := fun a m e => gd.snone a m (sm1.free e)
    refine ⟨fun i m H' => m = items.length - i ∧ i ≤ items.length ∧ Same H1 H' ∧ ∃ va da O2 S2 rest, H' D = some (.lst va) ∧ RepL K H' va da O2 S2 ∧ (∀ a, O2.count a ≤ 1) ∧ (∀ a ∈ O2, H1 a = none ∧ a ≠ D) ∧
      (∀ a ∈ S2, (a ∈ S ∨ H a = none) ∧ O2.count a = 0 ∧ a ≠ D) ∧ da.length ≤ i ∧ lcR ft t g (wipeE env vs) (items.drop i) = some rest ∧ da ++ rest = res, ?_, ?_⟩
    · exact ⟨items.length, rfl, Nat.zero_le _, upd_same' hD, [], [], [], [], res, upd_same, .nil, fun a => Nat.zero_le _, (fun a m => nomatch m), (fun a m => nomatch m), Nat.le_refl _, h3, rfl⟩
    · rintro i m H' ⟨rfl, hi, sm2, va, da, O2, S2, rest, hHD, rl, nd2, ho2, hs2, hlen, hrest, hres⟩
      by_cases hlt : i < items.length
      · obtain ⟨d, hd⟩ : ∃ d, items[i]? = some d := ⟨items[i], List.getElem?_eq_getElem hlt⟩
        have hdrop : items.drop i = d :: items.drop (i + 1) := by
          rw [List.drop_eq_getElem_cons hlt]
          congr 1
          rw [List.getElem?_eq_getElem hlt] at hd
          exact Option.some.inj hd
        rw [hdrop] at hrest
        obtain ⟨e1, k1, k2⟩ := Option.bind_eq_some_iff.mp hrest
        obtain ⟨b, k3, k4⟩ := Option.bind_eq_some_iff.mp k2
        obtain ⟨hgo, hy⟩ := yl.1 i H' _ d hd ⟨sm2, rfl⟩
        refine .inr ⟨hgo, fun H9 => Same H1 H9 ∧ ∃ va da O2 S2 rest, H9 D = some (.lst va) ∧ RepL K H9 va da O2 S2 ∧ (∀ a, O2.count a ≤ 1) ∧ (∀ a ∈ O2, H1 a = none ∧ a ≠ D) ∧
          (∀ a ∈ S2, (a ∈ S ∨ H a = none) ∧ O2.count a = 0 ∧ a ≠ D) ∧ da.length ≤ i + 1 ∧ lcR ft t g (wipeE env vs) (items.drop (i + 1)) = some rest ∧ da ++ rest = res, fun H9 hn => ⟨items.length - (i + 1), by omega, rfl, hlt, hn⟩, fun x H3 hx => ?_⟩
        obtain ⟨sm3, S1, rx, hs1⟩ := hy x H3 hx
        have smw : Same H H3 := (sm1.trans sm2).trans sm3
        have gw3 := gw.same smw
        have gx : Good K H3 (some x :: L2.wipe σ vs) (d :: wipeE env vs) ([] ++ Ow) (S1 ++ Sw) := ⟨.cons rx gw3.sl, gw3.nd, fun a m => by
          rcases List.mem_append.mp m with m | m
          · rcases (hs1 a m).1 with z | z
            · have := gd.dj a z
              have := cw1 a
              simp only [List.nil_append]
              omega
            · simp only [List.nil_append]
              exact cnull.mp fun w => gw.onone a w z
          · exact gw3.dj a m⟩
        refine ⟨d, wipeE env vs, _, _, e1, rx.nj, gx, k1, fun σ2 O3 S3 g3 c1 c2 kp => ⟨(wipe_kept kp).trans wipe_wipe, ?_⟩⟩
        have hS3 : ∀ a ∈ S3, (a ∈ S ∨ H a = none) ∧ a ≠ D := fun a m => by
          rcases List.mem_append.mp (c2 a m) with z | z
          · exact ⟨(hs1 a z).1, nD a (hs1 a z).2⟩
          · exact ⟨.inl (cw2 a z), nD a (nS a (cw2 a z))⟩
        refine ⟨e1, O3, S3, b, g3, k3, fun H4 sm4 => ?_⟩
        have sm14 : Same H1 H4 := (sm2.trans sm3).trans sm4
        cases b with
        | false =>
          refine iteF ?_
          exact ⟨sm14, va, da, O2, S2, rest, sm4 _ _ (sm3 _ _ hHD), rl.same (sm3.trans sm4), nd2, ho2, hs2, Nat.le_succ_of_le hlen, k4, hres⟩
        | true =>
          refine iteT ?_
          obtain ⟨y, k5, k6⟩ := Option.bind_eq_some_iff.mp k4
          obtain ⟨rest', k7, k8⟩ := Option.map_eq_some_iff.mp k6
          subst k8
          refine ⟨e1, O3, S3, y, g3.same sm4, k5, fun yv H5 sm5 fv => ?_⟩
          obtain ⟨O4, S4, ry, nd4, ho4, hs4⟩ := fv
          have sm35 : Same H' H5 := (sm3.trans sm4).trans sm5
          have hD5 : H5 D = some (.lst va) := sm35 _ _ hHD
          have hD4 : H4 D = some (.lst va) := sm4 _ _ (sm3 _ _ hHD)
          have smH4 : Same H H4 := sm1.trans sm14
          have o4 : ∀ a ∈ O4, a ≠ D := fun a m e => by
            have := ho4 a m
            rw [e, hD4] at this
            cases this
          have s4 : ∀ a ∈ S4, (a ∈ S ∨ H a = none) ∧ a ≠ D := fun a m => by
            rcases (hs4 a m).1 with z | z
            · exact hS3 a z
            · refine ⟨.inr (smH4.free z), fun e => ?_⟩
              rw [e, hD4] at z
              cases z
          refine ⟨va, hD5, ?_, ?_⟩
          · have := rl.length
            omega
          have fr : Fr H5 (upd H5 D (.lst (va ++ [yv]))) [D] := Fr.upd_at
          have wk : WOk H5 [D] := fun a m => ⟨_, (List.mem_singleton.mp m) ▸ hD5, rfl⟩
          have ns : ∀ a, a ≠ D → a ∉ [D] := fun a h m => h (List.mem_singleton.mp m)
          have r1 := (rl.same sm35).frame fr wk (fun a m => ns a (ho2 a m).2) (fun a m => ns a (hs2 a m).2.2)
          have r2 := ry.frame fr wk (fun a m => ns a (o4 a m)) (fun a m => ns a (s4 a m).2)
          have o24 : ∀ a ∈ O2, a ∉ O4 := fun a m z => by
            have h5 := (rl.same (sm3.trans sm4)).wok a m
            obtain ⟨o, e, _⟩ := h5
            rw [ho4 a z] at e
            cases e
          refine ⟨fun a o e => ?_, va ++ [yv], da ++ [y], O2 ++ (O4 ++ []), S2 ++ (S4 ++ []), rest', upd_same, r1.append (.cons r2 .nil), fun a => ?_, fun a m => ?_, fun a m => ?_, ?_, k7, by rw [← hres, List.append_assoc]; rfl⟩
          · rw [upd_ne (nD a (by rw [e]; exact fun z => nomatch z))]
            exact sm5 _ _ (sm14 _ _ e)
          · rw [List.count_append, List.append_nil]
            by_cases ha : a ∈ O2
            · have := cnull.mp (o24 a ha); have := nd2 a; omega
            · have := cnull.mp ha; have := nd4 a; omega
          · rcases List.mem_append.mp m with m | m
            · exact ho2 a m
            · rw [List.append_nil] at m
              exact ⟨sm14.free (ho4 a m), o4 a m⟩
          · rw [List.count_append, List.append_nil]
            rcases List.mem_append.mp m with m | m
            · refine ⟨(hs2 a m).1, ?_, (hs2 a m).2.2⟩
              have h6 := (hs2 a m).2.1
              have : O4.count a = 0 := cnull.mp fun z => by
                obtain ⟨o, e⟩ := (rl.same (sm3.trans sm4)).sok a m
                rw [ho4 a z] at e
                cases e
              omega
            · rw [List.append_nil] at m
              refine ⟨(s4 a m).1, ?_, (s4 a m).2⟩
              have h6 := (hs4 a m).2
              have : O2.count a = 0 := cnull.mp fun z => by
                rcases (hs4 a m).1 with w | w
                · rcases List.mem_append.mp (c2 a w) with p | p
                  · exact (hs1 a p).2 (ho2 a z).1
                  · exact nS a (cw2 a p) (ho2 a z).1
                · obtain ⟨o, e, _⟩ := (rl.same (sm3.trans sm4)).wok a z
                  rw [w] at e
                  cases e
              omega
          · simp only [List.length_append, List.length_cons, List.length_nil]
            omega
      · have e0 : i = items.length := by omega
        subst e0
        rw [List.drop_length] at hrest
        cases hrest
        rw [List.append_nil] at hres
        subst hres
        refine .inl ⟨yl.2 H' _ ⟨sm2, rfl⟩, q _ H' (sm1.trans sm2) ⟨D :: O2, S2, .own hHD rl, fun a => ?_, fun a m => ?_, fun a m => ⟨(hs2 a m).1, ?_⟩⟩⟩
        · rw [List.count_cons]
          by_cases e : D = a
          · subst e
            rw [cnull.mp (fun m => (ho2 _ m).2 rfl)]
            simp
          · rw [beq_eq_false_iff_ne.mpr e]
            simpa using nd2 a
        · rcases List.mem_cons.mp m with e | m
          · rw [e]; exact hD0
          · exact sm1.free (ho2 a m).1
        · rw [List.count_cons, beq_eq_false_iff_ne.mpr (fun e => (hs2 a m).2.2 e.symm)]
          simpa using (hs2 a m).2.1
  · cases h2
end
end LT

set_option Elab.async false
set_option linter.all false
set_option maxRecDepth 100000
set_option maxHeartbeats 1000000
namespace LT
open PySem PySem.Spec PyProof.Rows L2
section
variable {X : Cx} {A : List Nat}
theorem SX.lc {elt tg iter : Expr} {ifs : List Expr} {scope : Scope} {own : List (Str × Nat)} {vs : List Nat} {pos : Pos} {gi : En → Option (List D)} {ft : D → En → Option En} {t : En → Option Bool} {g : En → Option D} (hc : X.calm = true) (hN : X.N.Nodup) (hi : SIV X tg iter gi) (ok : BlkOk X.N X.env.scope scope own)
    (hg : ∀ (s : Shared) (H : Hp) (C : Addr) (cl : List (Str × Addr)) (fp : List Addr), STg (X.blk s H scope (compEnvC scope cl C X.env) fp) vs tg ft) (ht : ∀ (s : Shared) (H : Hp) (C : Addr) (cl : List (Str × Addr)) (fp : List Addr), SBs (X.blk s H scope (compEnvC scope cl C X.env) fp) ifs t)
    (he : ∀ (s : Shared) (H : Hp) (C : Addr) (cl : List (Str × Addr)) (fp : List Addr), SX (X.blk s H scope (compEnvC scope cl C X.env) fp) elt g) (hv : own.map (·.2) = vs := by rfl) (hs : ∀ x, foldedSetIterable iter X.env x = pure x := by intro _; rfl) :
    SX X (.ListComp elt [⟨tg, iter, ifs, 0⟩] scope pos) (lcV vs gi ft t g) := by
  subst hv
  exact ⟨PE.imp (pe_lc hc hN hi.pi ok (fun s H C cl fp => (hg s H C cl fp).pg) (fun s H C cl fp => (ht s H C cl fp).pts) (fun s H C cl fp => (he s H C cl fp).pe) hs) fun σ H Q q => lcV_read q⟩
theorem SS.setLc (i : Nat) {y : Str} {py : Pos} {elt tg iter : Expr} {ifs : List Expr} {scope : Scope} {own : List (Str × Nat)} {vs : List Nat} {pos spos : Pos} {gi : En → Option (List D)} {ft : D → En → Option En} {t : En → Option Bool} {g : En → Option D} (hA : i ∈ A) (hc : X.calm = true) (hN : X.N.Nodup)
    (hi : SIV X tg iter gi) (ok : BlkOk X.N X.env.scope scope own)
    (hg : ∀ (s : Shared) (H : Hp) (C : Addr) (cl : List (Str × Addr)) (fp : List Addr), STg (X.blk s H scope (compEnvC scope cl C X.env) fp) vs tg ft) (ht : ∀ (s : Shared) (H : Hp) (C : Addr) (cl : List (Str × Addr)) (fp : List Addr), SBs (X.blk s H scope (compEnvC scope cl C X.env) fp) ifs t)
    (he : ∀ (s : Shared) (H : Hp) (C : Addr) (cl : List (Str × Addr)) (fp : List Addr), SX (X.blk s H scope (compEnvC scope cl C X.env) fp) elt g)
    (hsw : swapsWith (.ListComp elt [⟨tg, iter, ifs, 0⟩] scope pos) (some (.Name y py)) spos.line X.env = pure true) (hy : X.N[i]? = some y := by rfl) (hyl : X.env.scope.names.lookup y = some .local := by rfl)
    (hv : own.map (·.2) = vs := by rfl) (hs : ∀ x, foldedSetIterable iter X.env x = pure x := by intro _; rfl) :
    SS X A (.Assign [.Name y py] (.ListComp elt [⟨tg, iter, ifs, 0⟩] scope pos) spos) (asgS (up (lcV vs gi ft t g)) (ftN i)) := by
  subst hv
  refine ⟨PS.imp (ps_setLc (wi := tIV X.K gi) (g := tG X.K (own.map (·.2)) ft) (tt := tB1 X.K t) (te := tX X.K g) hc hN hy hyl hsw hi.pi ok (fun s H C cl fp => (hg s H C cl fp).pg) (fun s H C cl fp => (ht s H C cl fp).pts) (fun s H C cl fp => (he s H C cl fp).pe) hs) fun D0 σ H q => ?_⟩
  obtain ⟨env, O, S, fl, env', gd, hg, q⟩ := q
  obtain ⟨⟨d, e1⟩, h1, h2⟩ := Option.bind_eq_some_iff.mp hg
  obtain ⟨d0, h3, h4⟩ := Option.map_eq_some_iff.mp h1
  cases h4
  cases h2
  refine lcV_read ⟨env, O, S, _, gd, h3, fun v H' sm fv => ?_⟩
  obtain ⟨O1, S1, g1, s1⟩ := gd.held1 sm fv
  obtain ⟨O2, S2, g2, s2⟩ := g1.store (i := i)
  exact q _ H' O2 S2 g2 (s1.trans s2) (.set hA)
end
/-! a comprehension whose parts may change lists -/
def lcF (vs : List Nat) (ft : D → En → Option En) (t : En → Option (Bool × En)) (f : En → Option (D × En)) : List D → List D → En → Option (List D × En)
  | [], acc, env => some (acc, env)
  | d :: r, acc, env => (ft d env).bind fun e1 => (t e1).bind fun p => if p.1 then (f p.2).bind fun q => if acc.length < sizeLine then lcF vs ft t f r (acc ++ [q.1]) (wipeE q.2 vs) else none else lcF vs ft t f r acc (wipeE p.2 vs)
def restE (e0 e1 : En) : List Nat → En
  | [] => e1
  | v :: vs => match e0[v]? with
    | some d => if (scV d).isSome then (restE e0 e1 vs).set v d else restE e0 e1 vs
    | none => restE e0 e1 vs
def lcE (vs : List Nat) (fi : En → Option (List D × En)) (ft : D → En → Option En) (t : En → Option (Bool × En)) (f : En → Option (D × En)) : En → Option (D × En) := fun env =>
  (fi env).bind fun p => (lcF vs ft t f p.1 [] (wipeE p.2 vs)).map fun q => (.lst true q.1, restE p.2 q.2 vs)
section
variable {K : PySem.W.Frag} {H : Hp}
theorem SL.agree : ∀ {σ1 σ2 : List (Option V)} {e : En} {O S : List Addr}, SL K H σ1 e O S → σ2.length = σ1.length → (∀ (i : Nat) d, e[i]? = some d → d ≠ .jnk → σ2[i]? = σ1[i]?) → SL K H σ2 e O S
  | _, [], _, _, _, .nil, _, _ => .nil
  | _, x :: σ2, _, _, _, .jnk r, hl, h => .jnk (SL.agree r (by simpa using hl) fun i d hd n => h (i + 1) d hd n)
  | _, x :: σ2, _, _, _, .cons q r, hl, h => by
    have e := h 0 _ rfl q.nj
    cases (Option.some.inj e : _ = _)
    exact .cons q (SL.agree r (by simpa using hl) fun i d hd n => h (i + 1) d hd n)
  | _, _ :: _, _, _, _, .nil, hl, _ => by simp at hl
  | _, [], _, _, _, .jnk _, hl, _ => by simp at hl
  | _, [], _, _, _, .cons _ _, hl, _ => by simp at hl
theorem wipeE_get {e : En} {i : Nat} {d : D} : ∀ {vs : List Nat}, i ∈ vs → (wipeE e vs)[i]? = some d → d = .jnk
  | v :: vs, h, hd => by
    unfold wipeE at hd
    by_cases ev : v = i
    · subst ev
      by_cases hl : v < (wipeE e vs).length
      · rw [List.getElem?_set_self hl] at hd
        exact (Option.some.inj hd).symm
      · rw [List.getElem?_eq_none (by rw [List.length_set]; omega)] at hd
        cases hd
    · rw [List.getElem?_set_ne ev] at hd
      rcases List.mem_cons.mp h with h | h
      · exact absurd h.symm ev
      · exact wipeE_get h hd
/-- the block's names get back what they held, where that is plain -/
theorem Good.unwipe {σ : List (Option V)} {e0 e1 : En} {O S O0 S0 : List Addr} {H0 : Hp} (g0 : SL K H0 σ e0 O0 S0) (vs : List Nat) (g : Good K H (L2.wipe σ vs) e1 O S) (hj : ∀ i ∈ vs, ∀ d, e1[i]? = some d → d = .jnk) : ∃ O' S', Good K H σ (restE e0 e1 vs) O' S' ∧ Step H H O O' S S' := by
  have h1 : SL K H σ e1 O S := g.sl.agree (wipe_length σ vs).symm fun i d hd n => by
    by_cases hi : i ∈ vs
    · exact absurd (hj i hi d hd) n
    · exact (wipe_get hi).symm
  have g1 : Good K H σ e1 O S := ⟨h1, g.nd, g.dj⟩
  clear hj h1
  have key : ∀ ws : List Nat, ∃ O' S', Good K H σ (restE e0 e1 ws) O' S' ∧ Step H H O O' S S' := by
    intro ws
    induction ws with
    | nil => exact ⟨O, S, g1, .refl⟩
    | cons v ws ih =>
      obtain ⟨O2, S2, g2, s2⟩ := ih
      unfold restE
      cases e : e0[v]? with
      | none => exact ⟨O2, S2, g2, s2⟩
      | some d =>
        show ∃ O' S', Good K H σ (if (scV d).isSome then (restE e0 e1 ws).set v d else restE e0 e1 ws) O' S' ∧ Step H H O O' S S'
        by_cases hs : (scV d).isSome = true
        · rw [if_pos hs]
          obtain ⟨w, hw⟩ := Option.isSome_iff_exists.mp hs
          have nj : d ≠ .jnk := fun z => by rw [z] at hw; cases hw
          obtain ⟨u, _, _, _, _, hu, ru, _⟩ := g0.take e nj
          have ew := (ru.sc hw).1
          subst ew
          have rw' : Rep K H u d [] [] := by
            have := scV_fv (K := K) (H := H) (H' := H) (S := []) hw
            obtain ⟨O5, S5, r5, _, h6, h7⟩ := this
            cases d <;> cases hw
            · exact .non
            · exact .bl _
            · exact .int _
            · exact .str _
          obtain ⟨O3, S3, h3, c3, c4⟩ := g2.sl.put (d := d) hu rw'
          obtain ⟨g3, s3⟩ := g2.re h3 (.of (fun a => by have := c3 a; simpa using this) fun a m => (c4 a m).elim (fun z => nomatch z) id) fr_refl
          exact ⟨O3, S3, g3, s2.trans s3⟩
        · rw [if_neg hs]
          exact ⟨O2, S2, g2, s2⟩
  exact key vs
theorem Good.dropC {x : Option V} {d : D} {σ : List (Option V)} {env : En} {O S : List Addr} (g : Good K H (x :: σ) (d :: env) O S) : ∃ O' S', Good K H σ env O' S' ∧ (∀ a, O'.count a ≤ O.count a) ∧ ∀ a ∈ S', a ∈ S := by
  have h := g.sl
  cases h with
  | jnk r => exact ⟨_, _, (g.re r (.of (fun a => Nat.le_refl _) (fun a m => m)) fr_refl).1, fun a => Nat.le_refl _, fun a m => m⟩
  | @cons _ _ _ _ O1 S1 O2 S2 q r =>
    have c1 : ∀ a, O2.count a ≤ (O1 ++ O2).count a := fun a => by rw [List.count_append]; omega
    have c2 : ∀ a ∈ S2, a ∈ S1 ++ S2 := fun a m => List.mem_append_right _ m
    exact ⟨O2, S2, (g.re r (.of c1 c2) fr_refl).1, c1, c2⟩
theorem Good.toFront {ts σ : List (Option V)} {tds env : En} {O S : List Addr} {x : Option V} {d : D} (hl : ts.length = tds.length) (g : Good K H (ts ++ (x :: σ)) (tds ++ (d :: env)) O S) : ∃ O' S', Good K H (x :: (ts ++ σ)) (d :: (tds ++ env)) O' S' ∧ Step H H O O' S S' := by
  obtain ⟨O1, S1, O2, S2, h1, h2, e1, e2⟩ := g.sl.split hl
  subst e1 e2
  cases h2 with
  | jnk r => exact ⟨_, _, g.re (.jnk (h1.join r)) (.of (fun a => Nat.le_refl _) fun a m => m) fr_refl⟩
  | cons q r =>
    refine ⟨_, _, g.re (.cons q (h1.join r)) (.of (fun a => by simp only [List.count_append]; omega) fun a m => ?_) fr_refl⟩
    simp only [List.mem_append] at m ⊢
    rcases m with m | m | m
    · exact .inr (.inl m)
    · exact .inl m
    · exact .inr (.inr m)
theorem lcE_read {vs : List Nat} {fi : En → Option (List D × En)} {ft : D → En → Option En} {t : En → Option (Bool × En)} {f : En → Option (D × En)} {σ : L2.St} {H : Hp} {Q : VK} (q : tE K (lcE vs fi ft t f) σ H Q) :
    tLc (tI K fi) (tG K vs ft) (tT K t) (tE K f) vs σ H Q := by
  obtain ⟨env, O, S, z, env', gd, hg, q⟩ := q
  obtain ⟨⟨items, e1⟩, h1, h2⟩ := Option.bind_eq_some_iff.mp hg
  obtain ⟨⟨res, e2⟩, h3, h4⟩ := Option.map_eq_some_iff.mp h2
  cases h4
  refine ⟨env, O, S, items, e1, gd, h1, fun J ts tds H1 O1 S1 hl g1 s1 yl D hD => ?_⟩
  -- the list that is made, the held ones, the slots of the block
  obtain ⟨Oσ, Sσ, gσ, _, lift⟩ := Good.lift g1 hl
  obtain ⟨Ow, Sw, gw, cw1, cw2⟩ := gσ.wipe vs
  obtain ⟨_, stw⟩ := gσ.re gw.sl (.of cw1 cw2) fr_refl
  obtain ⟨O2, S2, g2, s2⟩ := lift H1 _ _ Ow Sw gw stw
  obtain ⟨O3, S3, g3, s3⟩ := Good.newList (vs := []) (ds := []) (σ := ts ++ L2.wipe σ vs) (env := tds ++ wipeE e1 vs) g2 (fun d m => nomatch m) rfl hD
  have hl2 : ([some (V.ref D)] ++ ts).length = ts.length + 1 := by simp
  refine ⟨fun i m H' => m = items.length - i ∧ i ≤ items.length ∧ ∃ acc ei O' S', Good K H' (some (.ref D) :: (ts ++ L2.wipe σ vs)) (.lst true acc :: (tds ++ ei)) O' S' ∧ Step H H' O O' S S' ∧ (∀ j ∈ vs, ∀ d, ei[j]? = some d → d = .jnk) ∧ lcF vs ft t f (items.drop i) acc ei = some (res, e2),
    ⟨items.length, rfl, Nat.zero_le _, [], wipeE e1 vs, O3, S3, g3, (s1.trans s2).trans s3, fun j hj d hd => wipeE_get hj hd, h3⟩, ?_⟩
  rintro i m H' ⟨rfl, hi, acc, ei, O', S', g', s', hj, hf⟩
  obtain ⟨Od, Sd, gd', cd1, cd2⟩ := g'.dropC
  by_cases hlt : i < items.length
  · obtain ⟨d, hd⟩ : ∃ d, items[i]? = some d := ⟨items[i], List.getElem?_eq_getElem hlt⟩
    have hdrop : items.drop i = d :: items.drop (i + 1) := by
      rw [List.drop_eq_getElem_cons hlt]
      congr 1
      rw [List.getElem?_eq_getElem hlt] at hd
      exact Option.some.inj hd
    rw [hdrop] at hf
    obtain ⟨e3, k1, k2⟩ := Option.bind_eq_some_iff.mp hf
    obtain ⟨⟨b, e4⟩, k3, k4⟩ := Option.bind_eq_some_iff.mp k2
    obtain ⟨hgo, hy⟩ := yl.1 i H' _ d hd ⟨_, _, Od, Sd, gd', rfl⟩
    refine .inr ⟨hgo, fun H2 => ∃ acc ei O' S', Good K H2 (some (.ref D) :: (ts ++ L2.wipe σ vs)) (.lst true acc :: (tds ++ ei)) O' S' ∧ Step H H2 O O' S S' ∧ (∀ j ∈ vs, ∀ d, ei[j]? = some d → d = .jnk) ∧ lcF vs ft t f (items.drop (i + 1)) acc ei = some (res, e2),
      fun H2 hn => ⟨items.length - (i + 1), by omega, rfl, hlt, hn⟩, fun x H2 hx => ?_⟩
    obtain ⟨sm, S5, rx, hs5⟩ := hy x H2 hx
    generalize hT : some (V.ref D) :: ts = T
    generalize hTD : LT.D.lst true acc :: tds = TD
    have hlT : T.length = TD.length := by rw [← hT, ← hTD]; simp [hl]
    have g'' : Good K H' (T ++ L2.wipe σ vs) (TD ++ ei) O' S' := by rw [← hT, ← hTD]; exact g'
    obtain ⟨O6, S6, g6, s6⟩ := Good.insert hlT g'' sm rx fun a m => cd2 a (hs5 a m)
    obtain ⟨O7, S7, g7, _, lift7⟩ := Good.lift g6 hlT
    refine ⟨d, ei, O7, S7, e3, rx.nj, g7, k1, fun σ3 O8 S8 g8 c1 c2 kp => ⟨(wipe_kept kp).trans wipe_wipe, ?_⟩⟩
    have ws : L2.wipe σ3 vs = L2.wipe σ vs := (wipe_kept kp).trans wipe_wipe
    obtain ⟨_, st8⟩ := g7.re g8.sl (.of c1 c2) fr_refl
    obtain ⟨O9, S9, g9, s9⟩ := lift7 H2 σ3 e3 O8 S8 g8 st8
    obtain ⟨Oa, Sa, ga, _, lifta⟩ := Good.lift g9 hlT
    refine ⟨e3, Oa, Sa, b, e4, ga, k3, fun H3 Ob Sb gb sb => ?_⟩
    obtain ⟨Oc, Sc, gc, sc⟩ := lifta H3 σ3 e4 Ob Sb gb sb
    have sAll := ((s'.trans s6).trans s9).trans sc
    cases b with
    | false =>
      refine iteF ?_
      obtain ⟨Oe, Se, ge, _, lifte⟩ := Good.lift gc hlT
      obtain ⟨Of, Sf, gf, c3, c4⟩ := ge.wipe vs
      obtain ⟨_, stf⟩ := ge.re gf.sl (.of c3 c4) fr_refl
      obtain ⟨Og, Sg, gg, sg⟩ := lifte H3 _ _ Of Sf gf stf
      rw [ws] at gg
      refine ⟨acc, wipeE e4 vs, Og, Sg, ?_, sAll.trans sg, fun j hj d hd => wipeE_get hj hd, k4⟩
      rw [← hT, ← hTD] at gg
      exact gg
    | true =>
      refine iteT ?_
      obtain ⟨⟨dy, e5⟩, k5, k6⟩ := Option.bind_eq_some_iff.mp k4
      simp only at k6
      split at k6
      · rename_i hsz
        obtain ⟨Oe, Se, ge, _, lifte⟩ := Good.lift gc hlT
        refine ⟨e4, Oe, Se, dy, e5, ge, k5, fun y H4 Of Sf ny gf sf => ?_⟩
        obtain ⟨Og, Sg, gg, sg⟩ := lifte H4 _ _ Of Sf gf sf
        obtain ⟨Oh, Sh, gh, sh⟩ := Good.toFront hlT gg
        have at0 : (TD ++ e5)[0]? = some (LT.D.lst true acc) := by rw [← hTD]; rfl
        obtain ⟨p, va, ep, hp, hlen, Oi, Si, Ox, Sx, ri, rx2, fin⟩ := Good.relist (xs := [some y]) (dxs := [dy]) gh rfl at0
        have epD : p = D := by
          rw [← hT] at ep
          cases ep
          rfl
        subst epD
        refine ⟨va, hp, by rw [hlen]; exact hsz, ?_⟩
        cases rx2 with
        | jnk _ => exact absurd rfl ny
        | @cons _ _ _ _ Oy Sy Oz Sz ry rz =>
          cases rz
          obtain ⟨Oj, Sj, gj, sj⟩ := fin (va ++ [y]) (acc ++ [dy]) [] [] _ _ [] [] (ri.append (.cons ry .nil)) .nil rfl (fun a => by simp only [List.count_append, List.count_nil]; omega) (fun a m => by
            rcases List.mem_append.mp m with m | m
            · exact .inl m
            · exact .inr m) (fun a m => nomatch m)
          have gj' : Good K (upd H4 p (.lst (va ++ [y]))) (T ++ σ3) ((LT.D.lst true (acc ++ [dy]) :: tds) ++ e5) Oj Sj := by
            have : (TD ++ e5).set 0 (LT.D.lst true (acc ++ [dy])) = (LT.D.lst true (acc ++ [dy]) :: tds) ++ e5 := by rw [← hTD]; rfl
            rw [← this]
            exact gj
          have hlT2 : T.length = (LT.D.lst true (acc ++ [dy]) :: tds).length := by rw [← hT]; simp [hl]
          obtain ⟨Ok, Sk, gk, _, liftk⟩ := Good.lift gj' hlT2
          obtain ⟨Ol, Sl, gl, c3, c4⟩ := gk.wipe vs
          obtain ⟨_, stl⟩ := gk.re gl.sl (.of c3 c4) fr_refl
          obtain ⟨Om, Sm, gm, sm5⟩ := liftk _ _ _ Ol Sl gl stl
          rw [ws] at gm
          refine ⟨acc ++ [dy], wipeE e5 vs, Om, Sm, ?_, (((sAll.trans sg).trans sh).trans sj).trans sm5, fun j hj d hd => wipeE_get hj hd, k6⟩
          rw [← hT] at gm
          exact gm
      · cases k6
  · have e0 : i = items.length := by omega
    subst e0
    rw [List.drop_length] at hf
    cases hf
    obtain ⟨O6, S6, g6, s6⟩ := Good.keep1 hl g'
    have h0 := g6.sl
    obtain ⟨Oq, Sq, gq, _, liftq⟩ := Good.lift (xs := [some (.ref D)]) (ds := [.lst true _]) g6 rfl
    obtain ⟨Or, Sr, gr, sr⟩ := Good.unwipe gσ.sl vs gq hj
    obtain ⟨Ot, St, gt, st⟩ := liftq H' _ _ Or Sr gr sr
    exact .inl ⟨yl.2 H' _ ⟨_, _, Od, Sd, gd', rfl⟩, q _ H' Ot St (fun z => nomatch z) gt ((s'.trans s6).trans st)⟩
end
section
variable {X : Cx} {A : List Nat}
theorem SE.lc {elt tg iter : Expr} {ifs : List Expr} {scope : Scope} {own : List (Str × Nat)} {vs : List Nat} {pos : Pos} {fi : En → Option (List D × En)} {ft : D → En → Option En} {t : En → Option (Bool × En)} {f : En → Option (D × En)} (hc : X.calm = true) (hN : X.N.Nodup) (hi : SI X tg iter fi) (ok : BlkOk X.N X.env.scope scope own)
    (hg : ∀ (s : Shared) (H : Hp) (C : Addr) (cl : List (Str × Addr)) (fp : List Addr), STg (X.blk s H scope (compEnvC scope cl C X.env) fp) vs tg ft) (ht : ∀ (s : Shared) (H : Hp) (C : Addr) (cl : List (Str × Addr)) (fp : List Addr), STs (X.blk s H scope (compEnvC scope cl C X.env) fp) ifs t)
    (he : ∀ (s : Shared) (H : Hp) (C : Addr) (cl : List (Str × Addr)) (fp : List Addr), SE (X.blk s H scope (compEnvC scope cl C X.env) fp) elt f) (hv : own.map (·.2) = vs := by rfl) (hs : ∀ x, foldedSetIterable iter X.env x = pure x := by intro _; rfl) :
    SE X (.ListComp elt [⟨tg, iter, ifs, 0⟩] scope pos) (lcE vs fi ft t f) := by
  subst hv
  exact ⟨PE.imp (pe_lc (wi := tI X.K fi) (tt := tT X.K t) (te := tE X.K f) hc hN hi.pi ok (fun s H C cl fp => (hg s H C cl fp).pg) (fun s H C cl fp => (ht s H C cl fp).pts) (fun s H C cl fp => (he s H C cl fp).pe) hs) fun σ H Q q => lcE_read q⟩
theorem SS.setLcE (i : Nat) {y : Str} {py : Pos} {elt tg iter : Expr} {ifs : List Expr} {scope : Scope} {own : List (Str × Nat)} {vs : List Nat} {pos spos : Pos} {fi : En → Option (List D × En)} {ft : D → En → Option En} {t : En → Option (Bool × En)} {f : En → Option (D × En)} (hA : i ∈ A) (hc : X.calm = true) (hN : X.N.Nodup)
    (hi : SI X tg iter fi) (ok : BlkOk X.N X.env.scope scope own)
    (hg : ∀ (s : Shared) (H : Hp) (C : Addr) (cl : List (Str × Addr)) (fp : List Addr), STg (X.blk s H scope (compEnvC scope cl C X.env) fp) vs tg ft) (ht : ∀ (s : Shared) (H : Hp) (C : Addr) (cl : List (Str × Addr)) (fp : List Addr), STs (X.blk s H scope (compEnvC scope cl C X.env) fp) ifs t)
    (he : ∀ (s : Shared) (H : Hp) (C : Addr) (cl : List (Str × Addr)) (fp : List Addr), SE (X.blk s H scope (compEnvC scope cl C X.env) fp) elt f)
    (hsw : swapsWith (.ListComp elt [⟨tg, iter, ifs, 0⟩] scope pos) (some (.Name y py)) spos.line X.env = pure true) (hy : X.N[i]? = some y := by rfl) (hyl : X.env.scope.names.lookup y = some .local := by rfl)
    (hv : own.map (·.2) = vs := by rfl) (hs : ∀ x, foldedSetIterable iter X.env x = pure x := by intro _; rfl) :
    SS X A (.Assign [.Name y py] (.ListComp elt [⟨tg, iter, ifs, 0⟩] scope pos) spos) (asgS (lcE vs fi ft t f) (ftN i)) := by
  subst hv
  refine ⟨PS.imp (ps_setLc (wi := tI X.K fi) (g := tG X.K (own.map (·.2)) ft) (tt := tT X.K t) (te := tE X.K f) hc hN hy hyl hsw hi.pi ok (fun s H C cl fp => (hg s H C cl fp).pg) (fun s H C cl fp => (ht s H C cl fp).pts) (fun s H C cl fp => (he s H C cl fp).pe) hs) fun D0 σ H q => ?_⟩
  obtain ⟨env, O, S, fl, env', gd, hg, q⟩ := q
  obtain ⟨⟨d, e1⟩, h1, h2⟩ := Option.bind_eq_some_iff.mp hg
  cases h2
  refine lcE_read ⟨env, O, S, d, e1, gd, h1, fun v H' O1 S1 n g1 s1 => ?_⟩
  obtain ⟨O2, S2, g2, s2⟩ := g1.store (i := i)
  exact q _ H' O2 S2 g2 (s1.trans s2) (.set hA)
end
end LT

set_option Elab.async false
set_option linter.all false
set_option maxRecDepth 100000
set_option maxHeartbeats 1000000
namespace LT
open PySem PySem.Spec PyProof.Rows L2
/-! ### name op= e -/
structure IpN (X : Cx) (op : Operator) (k : D → D → Option D) : Prop where
  ex : ∃ r, PIp X op r ∧ ∀ (H : Hp) (x y : V) (dx dy z : D) (O1 S1 O2 S2 : List Addr) (Q : VK), Rep X.K H x dx O1 S1 → Rep X.K H y dy O2 S2 → k dx dy = some z → (∃ v, scV z = some v ∧ (Q v H → r x y H Q))
def kAddI : D → D → Option D
  | .int i, .int j => some (.int (i + j))
  | _, _ => none
section
variable {X : Cx} {A : List Nat} {e b : Expr} {f fi : En → Option (D × En)} {pos : Pos} {k : D → D → Option D}
theorem in_addN : IpN X .Add kAddI := ⟨_, ip_add, fun H x y dx dy z O1 S1 O2 S2 Q r1 r2 hk => by
  unfold kAddI at hk
  split at hk
  · cases hk
    cases r1
    cases r2
    exact ⟨_, rfl, fun q => ⟨_, _, rfl, rfl, q⟩⟩
  · cases hk⟩
theorem in_subN : IpN X .Sub kSub := ⟨_, ip_sub, fun H x y dx dy z O1 S1 O2 S2 Q r1 r2 hk => by
  unfold kSub at hk
  split at hk
  · cases hk
    cases r1
    cases r2
    exact ⟨_, rfl, fun q => ⟨_, _, rfl, rfl, q⟩⟩
  · cases hk⟩
theorem in_mulN : IpN X .Mult kMul := ⟨_, (fun pins s σ H x y v u Q I r1 r2 h => iop_mul pins s σ H x y v u Q I r1 r2 h : PIp X .Mult _), fun H x y dx dy z O1 S1 O2 S2 Q r1 r2 hk => by
  unfold kMul at hk
  split at hk
  · split at hk
    · rename_i n
      cases hk
      cases r1
      cases r2
      refine ⟨_, rfl, fun q => ⟨_, _, rfl, rfl, ?_, q⟩⟩
      have := of_hard n
      unfold CMul
      omega
    · cases hk
  · cases hk⟩
def augS (i : Nat) (k : D → D → Option D) (f : En → Option (D × En)) : En → Option (Fl × En) := fun env => (rd i env).bind fun _ => (f env).bind fun p => (rd i p.2).bind fun x => (k x p.1).map fun z => (.nx, p.2.set i z)
theorem SS.aug (i : Nat) {x : Str} {op : Operator} {npos : Pos} (hA : i ∈ A) (hN : X.N.Nodup) (hk : IpN X op k) (h : SE X e f) (hi : X.N[i]? = some x := by rfl) (hx : Loc X.env.scope x := by first | exact Or.inl rfl | exact Or.inr rfl)
    (hf : X.fn x = true ∨ X.env.scope.names.lookup x = some .local := by first | exact .inl rfl | exact .inr rfl) : SS X A (.AugAssign (.Name x npos) op e pos) (augS i k f) := by
  obtain ⟨r, hr, hk⟩ := hk.ex
  refine ⟨PS.imp (ps_aug hN hi hx h.pe hr hf) fun D0 σ H q => ?_⟩
  obtain ⟨env, O, S, fl, env', g, hg, q⟩ := q
  obtain ⟨d0, h0, h1⟩ := Option.bind_eq_some_iff.mp hg
  obtain ⟨⟨dy, e1⟩, h2, h3⟩ := Option.bind_eq_some_iff.mp h1
  obtain ⟨dx, h4, h5⟩ := Option.bind_eq_some_iff.mp h3
  obtain ⟨z, h6, h7⟩ := Option.map_eq_some_iff.mp h5
  cases h7
  obtain ⟨k1, k2⟩ := rd_some h0
  obtain ⟨v, _, _, _, _, ev, _⟩ := g.sl.take k1 k2
  refine ⟨v, ev, env, O, S, dy, e1, g, h2, fun y H1 O1 S1 n1 g1 s1 => ?_⟩
  obtain ⟨k3, k4⟩ := rd_some h4
  obtain ⟨Oy, Sy, Oe, Se, ry, sle, e2, e3⟩ := g1.head n1
  obtain ⟨v', O2, S2, _, _, ev', rv, _⟩ := sle.take k3 k4
  rw [ev] at ev'
  cases ev'
  obtain ⟨w, hw, fin⟩ := hk H1 v y dx dy z O2 S2 Oy Sy _ rv ry h6
  refine fin ?_
  obtain ⟨Od, Sd, gd, sd⟩ := g1.drop
  obtain ⟨Of, Sf, gf, sf⟩ := gd.held1 (Same.refl H1) (scV_fv hw)
  obtain ⟨Og, Sg, gg, sg⟩ := gf.store (i := i)
  exact q _ H1 Og Sg gg (((s1.trans sd).trans sf).trans sg) (.set hA)
/-! ### list[i] = e, list[i] op= e, list.append(e) -/
def setK (j : Nat) (di d : D) (env : En) : Option En := (rd j env).bind fun l => match l, di with
  | .lst true ds, .int k => (ixN ds.length k).map fun m => env.set j (.lst true (ds.set m d))
  | _, _ => none
theorem setK_some {j : Nat} {di d : D} {env env' : En} (h : setK j di d env = some env') : ∃ ds k m, env[j]? = some (.lst true ds) ∧ di = .int k ∧ ixN ds.length k = some m ∧ env' = env.set j (.lst true (ds.set m d)) := by
  obtain ⟨l, h1, h2⟩ := Option.bind_eq_some_iff.mp h
  obtain ⟨h3, _⟩ := rd_some h1
  split at h2
  · obtain ⟨m, h4, h5⟩ := Option.map_eq_some_iff.mp h2
    exact ⟨_, _, m, h3, rfl, h4, h5.symm⟩
  · cases h2
def isLst (j : Nat) (env : En) : Option Unit := (rd j env).bind fun l => match l with | .lst _ _ => some () | _ => none
theorem isLst_some {j : Nat} {env : En} (h : isLst j env = some ()) : ∃ o ds, env[j]? = some (.lst o ds) := by
  obtain ⟨l, h1, h2⟩ := Option.bind_eq_some_iff.mp h
  obtain ⟨h3, _⟩ := rd_some h1
  cases l <;> try (cases h2; done)
  exact ⟨_, _, h3⟩
/-- the list of a slot with a held value stored into it -/
theorem Good.setL {K : PySem.W.Frag} {H : Hp} {σ : List (Option V)} {env env' : En} {O S : List Addr} {v : V} {d di : D} {j : Nat} (n : d ≠ .jnk) (g : Good K H (some v :: σ) (d :: env) O S) (h : setK j di d env = some env') :
    ∃ p vs ds k m, di = .int k ∧ σ[j]? = some (some (.ref p)) ∧ H p = some (.lst vs) ∧ vs.length = ds.length ∧ env[j]? = some (.lst true ds) ∧ ixN vs.length k = some m ∧ ∃ O' S', Good K (upd H p (.lst (vs.set m v))) σ env' O' S' ∧ Step H (upd H p (.lst (vs.set m v))) O O' S S' := by
  obtain ⟨ds, k, m, hj, e1, hm, e2⟩ := setK_some h
  obtain ⟨p, vs, ep, hp, hlen, Oc, Sc, Ox, Sx, rc, rx, fin⟩ := Good.relist (xs := [some v]) (dxs := [d]) g rfl hj
  cases rx with
  | jnk _ => exact absurd rfl n
  | @cons _ _ _ _ Oy Sy Oz Sz ry rz =>
    cases rz
    obtain ⟨O2, S2, r2, c1, c2⟩ := rc.set m ry
    obtain ⟨O3, S3, g3, s3⟩ := fin _ _ [] [] _ _ [] [] r2 .nil rfl (fun a => by have := c1 a; simp only [List.append_nil, List.count_nil]; omega) (fun a m => by
      rw [List.append_nil]
      exact (c2 a m).symm) (fun a m => nomatch m)
    subst e2
    exact ⟨p, vs, ds, k, m, e1, ep, hp, hlen, hj, by rw [hlen]; exact hm, O3, S3, g3, s3⟩
def subS (j : Nat) (fi f : En → Option (D × En)) : En → Option (Fl × En) := fun env => (f env).bind fun p => (isLst j p.2).bind fun _ => (fi p.2).bind fun q => (setK j q.1 p.1 q.2).map fun e => (.nx, e)
theorem SS.sub (j : Nat) {x : Str} {npos tpos : Pos} (hi : SE X b fi) (h : SE X e f) (hN : X.N[j]? = some x := by rfl) (hv : Vis X.env.scope x := by first | exact Or.inl rfl | exact Or.inr (Or.inl rfl) | exact Or.inr (Or.inr rfl)) (hd : (x == ("__debug__" : Str)) = false := by decide)
    (hcd : (x == ("__classdict__" : Str)) = false := by decide)
    (ha : ∀ v, assign (.Subscript (.Name x npos) b tpos) X.env v = (do
      let ov ← holding [v] (eval (.Name x npos) X.env)
      let iv ← holding [v, ov] (eval b X.env)
      standAt tpos
      holding [v, ov, iv] (setItem ov iv v)
      release [v, ov, iv] []) := by intro _; rfl)
    (hs : swapsWithSole [.Subscript (.Name x npos) b tpos] e pos.line X.env = pure false := by rfl) (hw : swappedStores [.Subscript (.Name x npos) b tpos] e X.env = pure none := by rfl)
    (h1 : (assignEach [.Subscript (.Name x npos) b tpos] X.env).map (·.2) = [assign (.Subscript (.Name x npos) b tpos) X.env] := by rfl) : SS X A (.Assign [.Subscript (.Name x npos) b tpos] e pos) (subS j fi f) := by
  refine ⟨PS.imp (ps_asg h.pe (pg_sub (pe_var hN hv hd hcd) hi.pe set_list ha) hs hw h1) fun D0 σ H q => ?_⟩
  obtain ⟨env, O, S, fl, env', g, hg, q⟩ := q
  obtain ⟨⟨d, e1⟩, h2, h3⟩ := Option.bind_eq_some_iff.mp hg
  obtain ⟨_, h4, h5⟩ := Option.bind_eq_some_iff.mp h3
  obtain ⟨⟨di, e2⟩, h6, h7⟩ := Option.bind_eq_some_iff.mp h5
  obtain ⟨e3, h8, h9⟩ := Option.map_eq_some_iff.mp h7
  cases h9
  refine ⟨env, O, S, d, e1, g, h2, fun v H1 O1 S1 n1 g1 s1 => ?_⟩
  obtain ⟨Oσ, Sσ, gσ, _, lift⟩ := Good.lift (xs := [some v]) (ds := [d]) g1 rfl
  obtain ⟨o, ds0, hj0⟩ := isLst_some h4
  obtain ⟨w, _, _, _, _, ew, rw1, _⟩ := gσ.sl.take hj0 (fun z => nomatch z)
  refine ⟨w, ew, e1, Oσ, Sσ, di, e2, gσ, h6, fun y H2 O2 S2 n2 g2 s2 => ?_⟩
  obtain ⟨O3, S3, g3, s3⟩ := lift H2 _ _ O2 S2 g2 s2
  have hy : ∀ k, di = .int k → y = .int k := fun k ek => by
    obtain ⟨_, _, _, _, ry, _, _, _⟩ := g2.head n2
    subst ek
    exact rep_same ry
  obtain ⟨O4, S4, g4, s4⟩ := Good.swap (x := some v) (y := some y) g3
  obtain ⟨O5, S5, g5, s5⟩ := g4.drop
  obtain ⟨p, vs, ds, k, m, ek, ep, hp, hlen, _, hm, O6, S6, g6, s6⟩ := Good.setL n1 g5 h8
  rw [ew] at ep
  cases ep
  refine ⟨p, vs, k, m, rfl, hy k ek, hp, hm, ?_⟩
  exact q σ _ O6 S6 g6 ((((s1.trans s3).trans s4).trans s5).trans s6) .refl
/-- the item of a list, by values -/
theorem get_list : PGet X (rIxL X.K) := by
  intro pins s σ H x y v u Q I rx ry h
  obtain ⟨p, xs, i, z, rfl, rfl, hq, he, q⟩ := h
  have ex : v = .ref p := rx
  subst ex
  obtain ⟨t, et⟩ := (show ∃ t, u = Value.int i t from ry)
  subst et
  obtain ⟨its, r, pl, hz⟩ := I.list hq
  obtain ⟨j, h1, h2, h3, h4, h5⟩ := atI_get he
  obtain ⟨c, ec, rc⟩ := r.get h2
  have hl := r.length
  have ln := line63
  have fin : EP X pins σ Q c s := ⟨z, H, I, rc, q⟩
  by_cases neg : 0 ≤ i
  · have hj : i.toNat = j := by
      rw [seqIndex_of neg h5] at h1
      exact Option.some.inj h1
    exact wpAny_getItem_list pl.isList neg (by omega) (by rw [hj]; simpa using ec) fin
  · have hj : (i + (its.toArray.size : Int)).toNat = j := by
      rw [seqIndex_neg (by omega) h4] at h1
      rw [List.size_toArray, ← hl]
      exact Option.some.inj h1
    exact wpAny_getItem_list_neg pl.isList (by omega) (by rw [List.size_toArray]; omega) (by omega) (by rw [hj]; simpa using ec) fin
def getK (j : Nat) (di : D) (env : En) : Option D := (rd j env).bind fun l => match l, di with
  | .lst _ ds, .int k => (atI ds k).bind fun z => if (scV z).isSome then some z else none
  | _, _ => none
def augSubS (j : Nat) (k : D → D → Option D) (fi f : En → Option (D × En)) : En → Option (Fl × En) := fun env => (isLst j env).bind fun _ => (fi env).bind fun q => (getK j q.1 q.2).bind fun x => (f q.2).bind fun p => (k x p.1).bind fun z => (setK j q.1 z p.2).map fun e => (.nx, e)
theorem getK_some {j : Nat} {di z : D} {env : En} (h : getK j di env = some z) : ∃ o ds k v, env[j]? = some (.lst o ds) ∧ di = .int k ∧ atI ds k = some z ∧ scV z = some v := by
  obtain ⟨l, h1, h2⟩ := Option.bind_eq_some_iff.mp h
  obtain ⟨h3, _⟩ := rd_some h1
  split at h2
  · obtain ⟨z', h4, h5⟩ := Option.bind_eq_some_iff.mp h2
    split at h5
    · rename_i hs
      cases h5
      obtain ⟨v, hv⟩ := Option.isSome_iff_exists.mp hs
      exact ⟨_, _, _, v, h3, rfl, h4, hv⟩
    · cases h5
  · cases h2
theorem rep_sc {K : PySem.W.Frag} {H : Hp} {z : D} {v : V} (h : scV z = some v) : Rep K H v z [] [] := by
  cases z <;> cases h
  · exact .non
  · exact .bl _
  · exact .int _
  · exact .str _
theorem SS.augSub (j : Nat) {x : Str} {op : Operator} {npos tpos : Pos} (hk : IpN X op k) (hi : SE X b fi) (h : SE X e f) (hN : X.N[j]? = some x := by rfl) (hv : Vis X.env.scope x := by first | exact Or.inl rfl | exact Or.inr (Or.inl rfl) | exact Or.inr (Or.inr rfl)) (hd : (x == ("__debug__" : Str)) = false := by decide)
    (hcd : (x == ("__classdict__" : Str)) = false := by decide)
    (ha : ∀ ov iv new, augStore b ov iv new = (do holding [new, ov, iv] (setItem ov iv new); release [new, ov, iv] []; pure .next) := by intros; rfl) : SS X A (.AugAssign (.Subscript (.Name x npos) b tpos) op e pos) (augSubS j k fi f) := by
  obtain ⟨r, hr, hk⟩ := hk.ex
  refine ⟨PS.imp (ps_augS (pe_var hN hv hd hcd) hi.pe get_list h.pe hr set_list ha) fun D0 σ H q => ?_⟩
  obtain ⟨env, O, S, fl, env', g, hg, q⟩ := q
  obtain ⟨_, h1, h2⟩ := Option.bind_eq_some_iff.mp hg
  obtain ⟨⟨di, e1⟩, h3, h4⟩ := Option.bind_eq_some_iff.mp h2
  obtain ⟨dx, h5, h6⟩ := Option.bind_eq_some_iff.mp h4
  obtain ⟨⟨dy, e2⟩, h7, h8⟩ := Option.bind_eq_some_iff.mp h6
  obtain ⟨z, h9, h10⟩ := Option.bind_eq_some_iff.mp h8
  obtain ⟨e3, h11, h12⟩ := Option.map_eq_some_iff.mp h10
  cases h12
  obtain ⟨o, ds0, hj0⟩ := isLst_some h1
  obtain ⟨w, _, _, _, _, ew, rw1, _⟩ := g.sl.take hj0 (fun z => nomatch z)
  refine ⟨w, ew, env, O, S, di, e1, g, h3, fun y H1 O1 S1 n1 g1 s1 => ?_⟩
  obtain ⟨o2, ds2, k2, vx, hj2, ek2, hat, hsc⟩ := getK_some h5
  have ek2 : di = .int k2 := ek2
  have hy : y = .int k2 := by
    obtain ⟨_, _, _, _, ry, _, _, _⟩ := g1.head n1
    rw [ek2] at ry
    exact rep_same ry
  obtain ⟨O2, S2, g2, s2⟩ := g1.drop
  obtain ⟨w', _, _, _, _, ew', rw2, _⟩ := g2.sl.take hj2 (fun z => nomatch z)
  rw [ew] at ew'
  cases ew'
  obtain ⟨p, vs, _, _, ep, hp, rl, _⟩ := rw2.lstI
  subst ep
  obtain ⟨jx, hj3, hj4⟩ := Option.bind_eq_some_iff.mp hat
  obtain ⟨vx', _, _, hvx, rvx, _, _⟩ := rl.get hj4
  have evx := (rvx.sc hsc).1
  subst evx
  refine ⟨p, vs, k2, vx', rfl, hy, SqL.of hp, by unfold atI; rw [rl.length, hj3]; exact hvx, ?_⟩
  refine ⟨e1, O2, S2, dy, e2, g2, h7, fun y2 H3 O3 S3 n3 g3 s3 => ?_⟩
  obtain ⟨Oy, Sy, _, _, ry2, _, _, _⟩ := g3.head n3
  obtain ⟨u, hu, fin⟩ := hk H3 vx' y2 dx dy z [] [] Oy Sy _ (rep_sc hsc) ry2 h9
  refine fin ?_
  obtain ⟨O4, S4, g4, s4⟩ := g3.drop
  obtain ⟨O5, S5, g5, s5⟩ := g4.held1 (Same.refl H3) (scV_fv hu)
  have nz : z ≠ .jnk := fun e => by rw [e] at hu; cases hu
  obtain ⟨p', vs', ds', k', m', ek', ep', hp', hlen', _, hm', O6, S6, g6, s6⟩ := Good.setL nz g5 h11
  rw [ew] at ep'
  cases ep'
  rw [ek2] at ek'
  cases ek'
  exact ⟨p, vs', k2, m', rfl, hy, hp', hm', q σ _ O6 S6 g6 (((((s1.trans s2).trans s3).trans s4).trans s5).trans s6) .refl⟩
def appE (j : Nat) (f : En → Option (D × En)) : En → Option (D × En) := fun env => (isLst j env).bind fun _ => (f env).bind fun p => (rd j p.2).bind fun l => match l with
  | .lst true ds => if ds.length < sizeLine then some (.non, p.2.set j (.lst true (ds ++ [p.1]))) else none
  | _ => none
theorem SE.app (j : Nat) {x : Str} {npos apos : Pos} (h : SE X b f) (hN : X.N[j]? = some x := by rfl) (hv : Vis X.env.scope x := by first | exact Or.inl rfl | exact Or.inr (Or.inl rfl) | exact Or.inr (Or.inr rfl)) (hd : (x == ("__debug__" : Str)) = false := by decide)
    (hcd : (x == ("__classdict__" : Str)) = false := by decide)
    (hbase : attributeBase (.Name x npos) "append" X.env (eval (.Name x npos) X.env) = eval (.Name x npos) X.env := by rfl)
    (hfew : ((backTo pos (starEach [b] X.env)).all (fun x => !x.1) && (backToKw pos (keywordEach [] X.env)).all (fun x => x.1.isSome)
      && decide (([b] : List Expr).length + ([] : List Keyword).length + (if ([] : List Keyword).isEmpty then 0 else 1) < 30)) = true := by rfl)
    (hline : (apos.endLine == pos.line) = true := by rfl) (hs : starEach [b] X.env = (false, eval b X.env) :: starEach [] X.env := by rfl) (hplain : (backTo pos (starEach [] X.env)).any (·.1) = false := by rfl) :
    SE X (.Call (.Attribute (.Name x npos) "append" apos) [b] [] pos) (appE j f) := by
  refine ⟨PE.imp (pe_bm PySem.F.plainAttrs_list PySem.F.slot_list_append PySem.F.type_list_append mt_append (pe_var hN hv hd hcd) (pa_cons h.pe pa_nil hs) hbase hfew hline hs hplain) fun σ H Q q => ?_⟩
  obtain ⟨env, O, S, z, env', gd, hg, q⟩ := q
  obtain ⟨_, h1, h2⟩ := Option.bind_eq_some_iff.mp hg
  obtain ⟨⟨d, e1⟩, h3, h4⟩ := Option.bind_eq_some_iff.mp h2
  obtain ⟨l, h5, h6⟩ := Option.bind_eq_some_iff.mp h4
  obtain ⟨o, ds0, hj0⟩ := isLst_some h1
  obtain ⟨w, _, _, _, _, ew, rw1, _⟩ := gd.sl.take hj0 (fun z => nomatch z)
  obtain ⟨a, vs, _, _, ea, ha, _, _⟩ := rw1.lstI
  subst ea
  split at h6
  · rename_i ds
    split at h6
    · rename_i hsz
      cases h6
      refine ⟨.ref a, ew, .inl ⟨rfl, vs, SqL.of ha⟩, env, O, S, d, e1, gd, h3, fun y H1 O1 S1 n1 g1 s1 => ?_⟩
      obtain ⟨hj, _⟩ := rd_some h5
      obtain ⟨p, va, ep, hp, hlen, Oi, Si, Ox, Sx, ri, rx2, fin⟩ := Good.relist (xs := [some y]) (dxs := [d]) g1 rfl hj
      rw [ew] at ep
      cases ep
      refine ⟨a, va, y, rfl, rfl, hp, by rw [hlen]; exact hsz, ?_⟩
      cases rx2 with
      | jnk _ => exact absurd rfl n1
      | @cons _ _ _ _ Oy Sy Oz Sz ry rz =>
        cases rz
        obtain ⟨Oj, Sj, gj, sj⟩ := fin (va ++ [y]) (ds ++ [d]) [] [] _ _ [] [] (ri.append (.cons ry .nil)) .nil rfl (fun a => by simp only [List.count_append, List.count_nil]; omega) (fun a m => by
          rcases List.mem_append.mp m with m | m
          · exact .inl m
          · exact .inr m) (fun a m => nomatch m)
        obtain ⟨Ok, Sk, gk, sk⟩ := gj.held1 (d := .non) (v := .non) (Same.refl _) (scV_fv rfl)
        exact q .non _ Ok Sk (fun z => nomatch z) gk ((s1.trans sj).trans sk)
    · cases h6
  · cases h6
/-! ### a < b < c -/
def chV (k k' : D → D → Option D) (ga gb gc : En → Option D) : En → Option D := fun env => (ga env).bind fun x => (gb env).bind fun y => (k x y).bind fun z => (asB z).bind fun c => if c then (gc env).bind fun w => k' y w else some (.bl false)
variable {a c : Expr} {ga gb gc : En → Option D} {k' : D → D → Option D}
theorem chain_read {r r' : R2} {σ : L2.St} {H : Hp} {Q : VK} (hr : ∀ (H : Hp) (x y : V) (dx dy z : D) (O1 S1 O2 S2 : List Addr) (Q : VK), Rep X.K H x dx O1 S1 → Rep X.K H y dy O2 S2 → k dx dy = some z → (∀ v H', Same H H' → Fv X.K H H' v z (S1 ++ S2) → Q v H') → r x y H Q)
    (hr' : ∀ (H : Hp) (x y : V) (dx dy z : D) (O1 S1 O2 S2 : List Addr) (Q : VK), Rep X.K H x dx O1 S1 → Rep X.K H y dy O2 S2 → k' dx dy = some z → (∀ v H', Same H H' → Fv X.K H H' v z (S1 ++ S2) → Q v H') → r' x y H Q)
    (q : tX X.K (chV k k' ga gb gc) σ H Q) : tChain r r' (tV X.K ga) (tV X.K gb) (tV X.K gc) σ H Q := by
  obtain ⟨env, O, S, z, gd, hg, q⟩ := q
  obtain ⟨dx, h0, h1⟩ := Option.bind_eq_some_iff.mp hg
  obtain ⟨dy, h2, h3⟩ := Option.bind_eq_some_iff.mp h1
  obtain ⟨dz, h4, h5⟩ := Option.bind_eq_some_iff.mp h3
  obtain ⟨c, h6, h7⟩ := Option.bind_eq_some_iff.mp h5
  have ez := asB_some h6
  subst ez
  refine ⟨env, O, S, dx, gd, h0, fun x H1 sm1 vx => ?_⟩
  refine ⟨env, O, S, dy, gd.same sm1, h2, fun y H2 sm2 vy => ?_⟩
  have vx2 := vx.up sm2
  have vy2 := vy.base sm1
  obtain ⟨O1, S1, r1, ho1, hs1⟩ := vx2
  obtain ⟨O2, S2, r2, ho2, hs2⟩ := vy2
  refine hr H2 x y dx dy _ O1 S1 O2 S2 _ r1 r2 h4 fun v H3 sm3 w => ?_
  obtain ⟨_, _, rw0, _⟩ := w
  cases rw0
  refine ⟨c, rfl, ?_⟩
  have sm := (sm1.trans sm2).trans sm3
  cases c with
  | false =>
    refine iteF ?_
    cases h7
    exact q _ H3 sm (scV_fv rfl)
  | true =>
    refine iteT ?_
    obtain ⟨dw, h8, h9⟩ := Option.bind_eq_some_iff.mp h7
    refine ⟨env, O, S, dw, gd.same sm, h8, fun u H4 sm4 vu => ?_⟩
    obtain ⟨O3, S3, r3, ho3, hs3⟩ := vu.base sm
    refine hr' H4 y u dy dw z O2 S2 O3 S3 Q (r2.same (sm3.trans sm4)) r3 h9 fun v H5 sm5 fv => ?_
    refine q v H5 ((sm.trans sm4).trans sm5) (Fv.mono (fv.base (sm.trans sm4)) fun a m => ?_)
    rcases List.mem_append.mp m with m | m
    · exact hs2 a m
    · exact hs3 a m
theorem SB.chain {op op' : CmpOp} (h1 : OpN X (compareOp op) k) (h2 : OpN X (compareOp op') k') (ha : SV X a ga) (hb : SV X b gb) (hc : SV X c gc) (hm : lastMarks [op, op'] [b, c] = false := by with_unfolding_all rfl) : SB X (.Compare a [op, op'] [b, c] pos) (tst (chV k k' ga gb gc)) := by
  obtain ⟨r, hr1, hr2⟩ := h1.ex
  obtain ⟨r', hr3, hr4⟩ := h2.ex
  exact ⟨PT.imp (pt_chain hr1 hr3 ha.pe hb.pe hc.pe hm) fun σ H Q q => chain_read hr2 hr4 (tX_bool q)⟩
theorem SX.chain {op op' : CmpOp} (h1 : OpN X (compareOp op) k) (h2 : OpN X (compareOp op') k') (ha : SV X a ga) (hb : SV X b gb) (hc : SV X c gc) (hm : lastMarks [op, op'] [b, c] = false := by with_unfolding_all rfl) : SX X (.Compare a [op, op'] [b, c] pos) (chV k k' ga gb gc) := by
  obtain ⟨r, hr1, hr2⟩ := h1.ex
  obtain ⟨r', hr3, hr4⟩ := h2.ex
  exact ⟨PE.imp (pe_chain hr1 hr3 ha.pe hb.pe hc.pe hm) fun σ H Q q => chain_read hr2 hr4 q⟩
end

/-! ### a def -/
def maskF (A : List Nat) : Nat → List D → List D
  | _, [] => []
  | i, d :: r => (if i ∈ A then .jnk else d) :: maskF A (i + 1) r
def mkG (A : List Nat) (n m : Nat) (F : En → Option (Fl × En)) : Gn := fun ds => if ds.length = n then (F (ds ++ List.replicate (m - n) .jnk)).bind fun p => match p.1 with
    | .rt d => some (d, maskF A 0 (p.2.take n))
    | .nx => some (.non, maskF A 0 (p.2.take n))
    | _ => none
  else none
theorem SL.mask {K : PySem.W.Frag} {H : Hp} {A : List Nat} : ∀ {σ : List (Option V)} {env : En} {O S : List Addr} (i : Nat), SL K H σ env O S → ∃ O2 S2, SL K H σ (maskF A i env) O2 S2 ∧ (∀ a, O2.count a ≤ O.count a) ∧ ∀ a ∈ S2, a ∈ S
  | _, _, _, _, i, .nil => ⟨[], [], .nil, fun a => Nat.le_refl _, fun a m => m⟩
  | _, _, _, _, i, .jnk r => by
    obtain ⟨O2, S2, h, c1, c2⟩ := SL.mask (i + 1) r
    refine ⟨O2, S2, ?_, c1, c2⟩
    unfold maskF
    rw [ite_self]
    exact .jnk h
  | _, _, _, _, i, .cons q r => by
    obtain ⟨O2, S2, h, c1, c2⟩ := SL.mask (i + 1) r
    unfold maskF
    by_cases hi : i ∈ A
    · rw [if_pos hi]
      exact ⟨O2, S2, .jnk h, fun a => by rw [List.count_append]; have := c1 a; omega, fun a m => List.mem_append_right _ (c2 a m)⟩
    · rw [if_neg hi]
      refine ⟨_, _, .cons q h, fun a => by rw [List.count_append, List.count_append]; have := c1 a; omega, fun a m => ?_⟩
      rcases List.mem_append.mp m with m | m
      · exact List.mem_append_left _ m
      · exact List.mem_append_right _ (c2 a m)
theorem SL.take' {K : PySem.W.Frag} {H : Hp} : ∀ {σ : List (Option V)} {env : En} {O S : List Addr} (n : Nat), SL K H σ env O S → ∃ O2 S2, SL K H (σ.take n) (env.take n) O2 S2 ∧ (∀ a, O2.count a ≤ O.count a) ∧ ∀ a ∈ S2, a ∈ S
  | _, _, _, _, 0, _ => ⟨[], [], by rw [List.take_zero, List.take_zero]; exact .nil, fun a => Nat.zero_le _, (fun a m => nomatch m)⟩
  | _, _, _, _, n + 1, .nil => ⟨[], [], .nil, fun a => Nat.le_refl _, fun a m => m⟩
  | _, _, _, _, n + 1, .jnk r => by
    obtain ⟨O2, S2, h, c1, c2⟩ := SL.take' n r
    exact ⟨O2, S2, .jnk h, c1, c2⟩
  | _, _, _, _, n + 1, .cons q r => by
    obtain ⟨O2, S2, h, c1, c2⟩ := SL.take' n r
    refine ⟨_, _, .cons q h, fun a => by rw [List.count_append, List.count_append]; have := c1 a; omega, fun a m => ?_⟩
    rcases List.mem_append.mp m with m | m
    · exact List.mem_append_left _ m
    · exact List.mem_append_right _ (c2 a m)
theorem maskF_get {A : List Nat} {d : D} : ∀ {l : List D} {i j : Nat}, (maskF A j l)[i]? = some d → d ≠ .jnk → j + i ∉ A
  | [], i, j, h, _ => by simp [maskF] at h
  | x :: r, 0, j, h, n => by
    unfold maskF at h
    intro hm
    rw [Nat.add_zero] at hm
    rw [if_pos hm] at h
    exact n (Option.some.inj h).symm
  | x :: r, i + 1, j, h, n => by
    unfold maskF at h
    have := maskF_get (l := r) (i := i) (j := j + 1) h n
    rwa [Nat.add_assoc, Nat.add_comm 1 i] at this
theorem SL.jnks {K : PySem.W.Frag} {H : Hp} {x : Option V} : ∀ n : Nat, SL K H (List.replicate n x) (List.replicate n .jnk) [] []
  | 0 => .nil
  | n + 1 => .jnk (SL.jnks n)
section
variable {P : Program} {w : World} {K : PySem.W.Frag} {mg : Str → Option Value} {base : Heap}
theorem fn_ok {x qual : Str} {st : Stmt} {f : Addr} {fd : FuncData} {N ps : List Str} {k : Nat} {A : List Nat} {F : En → Option (Fl × En)} (Fu : Fun K x qual st f fd) (Sc : FnScope N ps (defScope st))
    (hbody : ∀ (cdv : Value) (Ar : Around) (outer : List Env) (s : Shared) (H : Hp) (E : XK), Room k (Ar.deeper (envOfC qual (defScope st) s.heap.objs.size f cdv)) → SSs (cxOf CX0 P w K mg base N qual (defScope st) f cdv Ar outer s H E).nox A (defBody st) F) :
    FnOk P w K mg base CX0 (k + 1) f fd ps (spG K (mkG A ps.length N.length F)) := by
  have inv : ∀ {vs : List V} {ds : List D} {H : Hp} {O S : List Addr} {q : D × List D}, Good K H (vs.map some) ds O S → mkG A ps.length N.length F ds = some q → ds.length = ps.length ∧ vs.length = ps.length := fun {vs ds H O S q} g h => by
    unfold mkG at h
    split at h
    · rename_i hl
      have := g.sl.length
      rw [List.length_map] at this
      exact ⟨hl, this.trans hl⟩
    · cases h
  refine Fu.ok Sc (fun vs H Q E h => ?_) fun cdv Ar outer s H vs Q E hr h => ?_
  · obtain ⟨ds, O, S, r, ds', g, hg, _⟩ := h
    exact (inv g hg).2
  · obtain ⟨ds, O, S, r, ds', g, hg, q⟩ := h
    obtain ⟨hl, hlv⟩ := inv g hg
    unfold mkG at hg
    rw [if_pos hl] at hg
    obtain ⟨⟨fl, e1⟩, h1, h2⟩ := Option.bind_eq_some_iff.mp hg
    refine ⟨_, (hbody cdv Ar outer s H E hr).pss, ds ++ List.replicate (N.length - ps.length) .jnk, O, S, fl, e1, ?_, h1, ?_⟩
    · have j := g.sl.join (SL.jnks (K := K) (H := H) (x := none) (N.length - ps.length))
      rw [List.append_nil, List.append_nil] at j
      unfold L2.start
      rw [hlv]
      exact ⟨j, g.nd, g.dj⟩
    · have fin : ∀ (v : V) (d : D) (σ' : List (Option V)) (H' : Hp) (O' S' : List Addr), d ≠ .jnk → r = d → ds' = maskF A 0 (e1.take ps.length) → Good K H' (some v :: σ') (d :: e1) O' S' → Step H H' O O' S S' → Kept A (L2.start N vs) σ' → Q v H' := by
        intro v d σ' H' O' S' nd er ed g' s' kp
        subst er ed
        have h0 := g'.sl
        cases h0 with
        | jnk _ => exact absurd rfl nd
        | @cons _ _ _ _ O1 S1 O2 S2 rv sl =>
          obtain ⟨O3, S3, t3, c1, c2⟩ := sl.take' ps.length
          obtain ⟨O4, S4, t4, c3, c4⟩ := t3.mask (A := A) 0
          have t5 : SL K H' (vs.map some) (maskF A 0 (e1.take ps.length)) O4 S4 := t4.agree (by
            have h5 := kp.1
            unfold L2.start at h5
            rw [List.length_map, List.length_take, h5, List.length_append, List.length_map, List.length_replicate]
            omega) fun i d hd nj => by
            have hi := maskF_get hd nj
            rw [Nat.zero_add] at hi
            have hlt : i < ps.length := by
              have h7 := (List.getElem?_eq_some_iff.mp hd).1
              have h8 := t4.length
              rw [← h8, List.length_take] at h7
              omega
            rw [List.getElem?_take, if_pos hlt, kp.2 i hi]
            unfold L2.start
            rw [List.getElem?_append_left (by rw [List.length_map, hlv]; exact hlt)]
          obtain ⟨g6, s6⟩ := g'.re (.cons rv t5) (.of (fun a => by
            have := c1 a
            have := c3 a
            simp only [List.count_append]
            omega) fun a m => by
            rcases List.mem_append.mp m with m | m
            · exact List.mem_append_left _ m
            · exact List.mem_append_right _ (c2 a (c4 a m))) fr_refl
          exact q v H' _ _ nd g6 (s'.trans s6)
      cases fl with
      | rt d =>
        cases h2
        exact fun v σ' H' O' S' n g' s' kp => fin v _ σ' H' O' S' n rfl rfl g' s' kp
      | nx =>
        cases h2
        intro σ' H' O' S' g' s' kp
        obtain ⟨O5, S5, g5, s5⟩ := g'.held1 (d := .non) (v := .non) (Same.refl _) (scV_fv rfl)
        exact fin .non .non σ' H' O5 S5 (fun z => nomatch z) rfl rfl g5 (s'.trans s5) kp
      | bk => cases h2
      | ct => cases h2
end
end LT

set_option Elab.async false
set_option linter.all false
set_option maxRecDepth 100000
set_option maxHeartbeats 1000000
namespace LT
open PySem PySem.Spec PyProof.Rows L2

/-! ### a def where it stands behind the top; the end of a law -/
structure FAt (K : PySem.W.Frag) (mg : Str → Option Value) (x : Str) (st : Stmt) (ps : List Str) : Prop where
  ex : ∃ f fd, mg x = some (.ref f) ∧ Fun K x x st f fd ∧ Binds K fd ps []
section
variable {P : Program} {w : World} {K : PySem.W.Frag} {mg : Str → Option Value} {base : Heap}
theorem FAt.mk' {h : Heap} {x : Str} {st : Stmt} {ps : List Str} {f : Addr} {oc : Value} {od an : Option Addr} {osl : Array (Option Value)} {kV doc pm cdv ct : Value} (X : K.In h) (G : h.Ns mainGlobals mg) (a : PySem.W.nsIn K mainGlobals x = some (some (.ref f)))
    (l : K.lookup f = some ⟨oc, od, .func (PySem.W.fnOf x x (defArgs st) (defBody st) (defScope st) .none kV doc pm an cdv ct), osl⟩)
    (c : PySem.W.codeIn K cdv x = true) (k : PySem.W.keepIn K (.ref f) = true) (hb : ∀ (kV doc pm : Value) (an : Option Addr) (cdv ct : Value) (us : List Value), us.length = ps.length → bindArgs (PySem.W.fnOf x x (defArgs st) (defBody st) (defScope st) .none kV doc pm an cdv ct) ⟨us, []⟩ = pure (ps.zip us)) : FAt K mg x st ps :=
  ⟨⟨f, _, PySem.W.mg_of X G a, fun_mk (st := st) l c k, (fun_mk (st := st) (x := x) (qual := x) l c k).binds (ps := ps) hb⟩⟩
theorem FAt.def {x : Str} {st : Stmt} {N ps : List Str} {k : Nat} {A : List Nat} {F : En → Option (Fl × En)} (Fa : FAt K mg x st ps) (Sc : FnScope N ps (defScope st))
    (hbody : ∀ (f : Addr) (cdv : Value) (Ar : Around) (outer : List Env) (s : Shared) (H : Hp) (E : XK), Room k (Ar.deeper (envOfC x (defScope st) s.heap.objs.size f cdv)) → SSs (cxOf CX0 P w K mg base N x (defScope st) f cdv Ar outer s H E).nox A (defBody st) F) :
    Def P w K mg base (k + 1) x (mkG A ps.length N.length F) := by
  obtain ⟨f, fd, h1, h2, h3⟩ := Fa.ex
  exact ⟨⟨f, fd, ps, fn_ok h2 Sc fun cdv Ar outer s H E hr => hbody f cdv Ar outer s H E hr, h1, h2.kp, h3⟩⟩
def spLaw (n : Nat) (K : PySem.W.Frag) : Sp := fun vs H Q _ => ∃ (a : Addr) (ns : List Int), vs = [.ref a] ∧ SqF K H a (ns.map V.int) ∧ ns.length ≤ n ∧ ∀ H', Q (.bl true) H'
theorem repL_ints' {K : PySem.W.Frag} {H : Hp} : ∀ ns : List Int, RepL K H (ns.map V.int) (ns.map D.int) [] []
  | [] => .nil
  | i :: r => .cons (O1 := []) (S1 := []) (O2 := []) (S2 := []) (.int i) (repL_ints' r)
theorem law_end {n k : Nat} {f : Addr} {fd : FuncData} {g : Gn} (F : FnOk P w K mg base CX0 k f fd ["script"] (spG K g)) (hG : ∀ ns : List Int, ns.length ≤ n → ∃ ds', g [.frl (ns.map D.int)] = some (.bl true, ds')) : FnOk P w K mg base CX0 k f fd ["script"] (spLaw n K) := by
  refine F.imp fun vs H Q E h => ?_
  obtain ⟨a, ns, rfl, hs, hn, q⟩ := h
  obtain ⟨ds', hg⟩ := hG ns hn
  refine ⟨_, [], [], _, ds', ⟨.cons (O1 := []) (S1 := []) (O2 := []) (S2 := []) (.frl hs (repL_ints' ns)) .nil, fun a => Nat.zero_le _, fun a m => rfl⟩, hg, fun v H' O' S' nj g' st => ?_⟩
  obtain ⟨O1, S1, O2, S2, r, _, _, _⟩ := g'.head nj
  cases r
  exact q H'
theorem only_seq {H : Hp} {a : Addr} {vs : List V} (o : Only H) (h : SqL K H a vs) : SqF K H a vs := by
  refine .of (fun e => ?_) h
  rcases o a with z | ⟨p, xs, z⟩
  · rw [e] at z
    cases z
  · rw [e] at z
    cases z
theorem walkL {l : PySem.W.OpenLaw} {n k : Nat} {q : Program} {loose : List Str} {XP : (Str → Option Value) → Heap → Prop} {YP : World → Heap → Prop} {d : DefRec} {K : Params → PySem.W.Frag} (hn : l.most = some n) (hn2 : n ≤ sizeLine) (hdf : d.params.defaults = []) (hr : Room k callerA)
    (hY : ∀ (w : World) (h : Heap), YP w h → (K w.params).In h)
    (F : ∀ (w : World) (mg : Str → Option Value) (fa : Addr) (h : Heap), (K w.params).In h → h.Ns mainGlobals mg → mg d.name = some (.ref fa) →
      ∃ fd : FuncData, (∀ (s : Shared) (u : Value), BindsTo s fd ⟨[u], []⟩ [("script", u)]) ∧ ∀ base : Heap, (K w.params).In base → base.Ns mainGlobals mg → FnOk l.prog w (K w.params) mg base CX0 k fa fd ["script"] (spLaw n (K w.params))) :
    PySem.W.WalkO q loose XP YP l.row.toRowW d [] (fun f vs => PySem.call f vs) :=
  L2.walk_of (n := n) (k := k) (x := "script") (CX := fun _ => CX0) (sp := fun w => spLaw n (K w.params)) hn hn2 hdf hr hY F (fun _ _ a ns hl ho hS => ⟨a, ns, rfl, only_seq ho hS, hl, fun _ => rfl⟩) fun _ _ _ _ _ z => z
theorem law_top {n k : Nat} {h : Heap} {fa : Addr} {st : Stmt} {g : Gn} (X : K.In h) (G : h.Ns mainGlobals mg) (hfa : mg "law" = some (.ref fa))
    {f : Addr} {oc : Value} {od an : Option Addr} {osl : Array (Option Value)} {kV doc pm cdv ct : Value} (a : PySem.W.nsIn K mainGlobals "law" = some (some (.ref f)))
    (l : K.lookup f = some ⟨oc, od, .func (PySem.W.fnOf "law" "law" (defArgs st) (defBody st) (defScope st) .none kV doc pm an cdv ct), osl⟩)
    (c : PySem.W.codeIn K cdv "law" = true) (kp : PySem.W.keepIn K (.ref f) = true)
    (hb : ∀ u : Value, bindArgs (PySem.W.fnOf "law" "law" (defArgs st) (defBody st) (defScope st) .none kV doc pm an cdv ct) ⟨[u], []⟩ = pure ([(("script" : Str), u)] : List (Str × Value)))
    (hok : ∀ {f : Addr} {fd : FuncData} (base : Heap), Fun K "law" "law" st f fd → FnOk P w K mg base CX0 k f fd ["script"] (spG K g))
    (hG : ∀ ns : List Int, ns.length ≤ n → ∃ ds', g [.frl (ns.map D.int)] = some (.bl true, ds')) :
    ∃ fd : FuncData, (∀ (s : Shared) (v : Value), BindsTo s fd ⟨[v], []⟩ [("script", v)]) ∧ ∀ base : Heap, K.In base → base.Ns mainGlobals mg → FnOk P w K mg base CX0 k fa fd ["script"] (spLaw n K) := by
  have e := hfa.symm.trans (PySem.W.mg_of X G a)
  cases e
  exact ⟨_, fun s v => .of_eq (hb v), fun base _ _ => law_end (hok base (fun_mk (st := st) l c kp)) hG⟩
end
end LT

set_option Elab.async false
set_option linter.all false
set_option maxRecDepth 100000
set_option maxHeartbeats 1000000
namespace LT
open PySem PySem.Spec PyProof.Rows L2

/-! ### values: the plain readings computed -/
theorem lcR_run {α : Type} {ft : D → En → Option En} {t : En → Option Bool} {g : En → Option D} {w : En} (f : α → D) (c : α → Bool) (y : α → D) : ∀ xs : List α,
    (∀ x ∈ xs, ∃ e, ft (f x) w = some e ∧ t e = some (c x) ∧ (c x = true → g e = some (y x))) → lcR ft t g w (xs.map f) = some ((xs.filter c).map y)
  | [], _ => rfl
  | x :: r, h => by
    obtain ⟨e, h1, h2, h3⟩ := h x List.mem_cons_self
    have ih := lcR_run f c y r fun z m => h z (List.mem_cons_of_mem _ m)
    rw [List.map_cons, lcR, h1, Option.bind_some, h2, Option.bind_some, List.filter_cons]
    cases hc : c x with
    | true => rw [if_pos rfl, if_pos rfl, h3 hc, Option.bind_some, ih]; rfl
    | false => simpa using ih
theorem lcV_filter {α : Type} {vs : List Nat} {gi : En → Option (List D)} {ft : D → En → Option En} {t : En → Option Bool} {g : En → Option D} {env : En} (xs : List α) (f : α → D) (c : α → Bool) (y : α → D)
    (hi : gi env = some (xs.map f)) (hl : xs.length ≤ sizeLine) (h : ∀ x ∈ xs, ∃ e, ft (f x) (wipeE env vs) = some e ∧ t e = some (c x) ∧ (c x = true → g e = some (y x))) : lcV vs gi ft t g env = some (.lst true ((xs.filter c).map y)) := by
  unfold lcV
  rw [hi, Option.bind_some, List.length_map, if_pos hl, lcR_run f c y xs h]
  rfl
theorem lcV_map {α : Type} {vs : List Nat} {gi : En → Option (List D)} {ft : D → En → Option En} {g : En → Option D} {env : En} (xs : List α) (f : α → D) (y : α → D)
    (hi : gi env = some (xs.map f)) (hl : xs.length ≤ sizeLine) (h : ∀ x ∈ xs, ∃ e, ft (f x) (wipeE env vs) = some e ∧ g e = some (y x)) : lcV vs gi ft yesB g env = some (.lst true (xs.map y)) := by
  have e := lcV_filter (t := yesB) xs f (fun _ => true) y hi hl fun x m => by
    obtain ⟨e, h1, h2⟩ := h x m
    exact ⟨e, h1, rfl, fun _ => h2⟩
  rw [e, List.filter_eq_self.mpr (fun _ _ => rfl)]
/-- a for loop, by an invariant that counts the items done -/
theorem forF_inv {ft : D → En → Option En} {F : En → Option (Fl × En)} (I : Nat → En → Prop) : ∀ (items : List D) (k : Nat) (env : En), I k env →
    (∀ i d e, items[i]? = some d → I (k + i) e → ∃ e1 fl e2, ft d e = some e1 ∧ F e1 = some (fl, e2) ∧ (fl = .nx ∨ fl = .ct) ∧ I (k + i + 1) e2) → ∃ env', forF ft F items env = some (.nx, env') ∧ I (k + items.length) env'
  | [], k, env, h, _ => ⟨env, rfl, h⟩
  | d :: r, k, env, h, step => by
    obtain ⟨e1, fl, e2, h1, h2, h3, h4⟩ := step 0 d env rfl h
    obtain ⟨env', h5, h6⟩ := forF_inv I r (k + 1) e2 (by simpa using h4) fun i d' e hd hI => by
      have := step (i + 1) d' e (by simpa using hd) (by simpa [Nat.add_comm, Nat.add_left_comm, Nat.add_assoc] using hI)
      simpa [Nat.add_comm, Nat.add_left_comm, Nat.add_assoc] using this
    refine ⟨env', ?_, by simpa [Nat.add_comm, Nat.add_left_comm, Nat.add_assoc] using h6⟩
    rw [forF, h1, Option.bind_some, h2, Option.bind_some]
    rcases h3 with rfl | rfl <;> exact h5
/-- the same, by the list of the items done -/
theorem forF_over {α : Type} {ft : D → En → Option En} {F : En → Option (Fl × En)} {xs : List α} (f : α → D) (I : List α → En → Prop)
    (step : ∀ pre x post e, pre ++ x :: post = xs → I pre e → ∃ e1 fl e2, ft (f x) e = some e1 ∧ F e1 = some (fl, e2) ∧ (fl = .nx ∨ fl = .ct) ∧ I (pre ++ [x]) e2) : ∀ (rest pre : List α) (env : En), pre ++ rest = xs → I pre env → ∃ env', forF ft F (rest.map f) env = some (.nx, env') ∧ I xs env'
  | [], pre, env, e, h => ⟨env, rfl, by rw [← e]; simpa using h⟩
  | x :: r, pre, env, e, h => by
    obtain ⟨e1, fl, e2, h1, h2, h3, h4⟩ := step pre x r env e h
    obtain ⟨env', h5, h6⟩ := forF_over f I step r (pre ++ [x]) e2 (by simpa using e) h4
    refine ⟨env', ?_, h6⟩
    rw [List.map_cons, forF, h1, Option.bind_some, h2, Option.bind_some]
    rcases h3 with rfl | rfl <;> exact h5
theorem forF_nx {ft : D → En → Option En} {F : En → Option (Fl × En)} {d e1 e2} {r : List D} {env : En} (h1 : ft d env = some e1) (h2 : F e1 = some (.nx, e2)) : forF ft F (d :: r) env = forF ft F r e2 := by
  rw [forF, h1, Option.bind_some, h2, Option.bind_some]
theorem seqS_nx {F G : En → Option (Fl × En)} {env e : En} (h : F env = some (.nx, e)) : seqS F G env = G e := by
  unfold seqS
  rw [h, Option.bind_some]
/-- an effectful comprehension, by an invariant -/
theorem lcF_inv {vs : List Nat} {ft : D → En → Option En} {t : En → Option (Bool × En)} {f : En → Option (D × En)} (I : Nat → List D → En → Prop) : ∀ (items : List D) (k : Nat) (acc : List D) (env : En), I k acc env →
    (∀ i d ac e, items[i]? = some d → I (k + i) ac e → ∃ e1 b e2, ft d e = some e1 ∧ t e1 = some (b, e2) ∧ (b = false → I (k + i + 1) ac (wipeE e2 vs)) ∧ (b = true → ∃ z e3, f e2 = some (z, e3) ∧ ac.length < sizeLine ∧ I (k + i + 1) (ac ++ [z]) (wipeE e3 vs))) →
    ∃ acc' env', lcF vs ft t f items acc env = some (acc', env') ∧ I (k + items.length) acc' env'
  | [], k, acc, env, h, _ => ⟨acc, env, rfl, h⟩
  | d :: r, k, acc, env, h, step => by
    obtain ⟨e1, b, e2, h1, h2, hf, ht⟩ := step 0 d acc env rfl h
    have step' : ∀ i d' ac e, r[i]? = some d' → I (k + 1 + i) ac e → ∃ e1 b e2, ft d' e = some e1 ∧ t e1 = some (b, e2) ∧ (b = false → I (k + 1 + i + 1) ac (wipeE e2 vs)) ∧ (b = true → ∃ z e3, f e2 = some (z, e3) ∧ ac.length < sizeLine ∧ I (k + 1 + i + 1) (ac ++ [z]) (wipeE e3 vs)) := fun i d' ac e hd hI => by
      have q : k + 1 + i = k + (i + 1) := by omega
      rw [q] at hI ⊢
      exact step (i + 1) d' ac e (by simpa using hd) hI
    have q : k + (d :: r).length = k + 1 + r.length := by simp; omega
    cases b with
    | false =>
      obtain ⟨acc', env', h5, h6⟩ := lcF_inv I r (k + 1) acc _ (hf rfl) step'
      refine ⟨acc', env', ?_, q ▸ h6⟩
      rw [lcF, h1, Option.bind_some, h2, Option.bind_some, if_neg (by simp)]
      exact h5
    | true =>
      obtain ⟨z, e3, h3, hl, h4⟩ := ht rfl
      obtain ⟨acc', env', h5, h6⟩ := lcF_inv I r (k + 1) _ _ h4 step'
      refine ⟨acc', env', ?_, q ▸ h6⟩
      rw [lcF, h1, Option.bind_some, h2, Option.bind_some, if_pos (by rfl), h3, Option.bind_some, if_pos hl]
      exact h5
/-! small data -/
abbrev nt (ns : List Int) : List D := ns.map D.int
theorem noOwns_nt (l : List Int) : noOwns (l.map D.int) = true := noOwns_map (fun _ => by rw [noOwn]) l
theorem noShrs_nt (l : List Int) : noShrs (l.map D.int) = true := noShrs_map (fun _ => by rw [noShr]) l
theorem fzs_nt (l : List Int) : fzs (l.map D.int) = l.map D.int := fzs_map (fun _ => by rw [fz]) l
theorem okds_nt (n : Nat) (l : List Int) : okds n (l.map D.int) = true := okds_map (fun _ => by unfold okd; rfl) l
theorem noOwns_bl (l : List Bool) : noOwns (l.map D.bl) = true := noOwns_map (fun _ => by rw [noOwn]) l
theorem noShrs_bl (l : List Bool) : noShrs (l.map D.bl) = true := noShrs_map (fun _ => by rw [noShr]) l
theorem noOwns_tups (l : List (List Int)) : noOwns (l.map fun x => D.tup (x.map D.int)) = true := noOwns_map (fun x => by rw [noOwn, noOwns_nt]) l
theorem noShrs_tups (l : List (List Int)) : noShrs (l.map fun x => D.tup (x.map D.int)) = true := noShrs_map (fun x => by rw [noShr, noShrs_nt]) l
theorem fzs_tups (l : List (List Int)) : fzs (l.map fun x => D.tup (x.map D.int)) = l.map fun x => D.tup (x.map D.int) := fzs_map (fun x => by rw [fz, fzs_nt]) l
theorem noOwns_append : ∀ a b : List D, noOwns (a ++ b) = (noOwns a && noOwns b)
  | [], b => by rw [List.nil_append, noOwns, Bool.true_and]
  | x :: r, b => by rw [List.cons_append, noOwns, noOwns, noOwns_append r b, Bool.and_assoc]
theorem kIx_at {o : D} {xs : List D} {i : Int} {d : D} (hk : kids o = some xs) (h0 : 0 ≤ i) (h : xs[i.toNat]? = some d) : kIx o (.int i) = some d := by
  have hl : i.toNat < xs.length := (List.getElem?_eq_some_iff.mp h).1
  show (kids o).bind (fun xs => atI xs i) = _
  rw [hk, Option.bind_some]
  unfold atI ixN
  rw [if_pos h0, if_pos (by omega), Option.bind_some, h]
theorem kIx_nat {o : D} {xs : List D} {i : Nat} {d : D} (hk : kids o = some xs) (h : xs[i]? = some d) : kIx o (.int i) = some d := kIx_at hk (by omega) (by simpa using h)
theorem okR_of {i : Int} (h : -4611686018427387904 ≤ i) (h2 : i < 4611686018427387904) : okR i = true := hard_of ⟨h, h2⟩
theorem rgD_nat (n : Nat) : rgD 0 1 n = (List.range n).map fun (i : Nat) => D.int (i : Int) := by
  unfold rgD
  simp
theorem inV_ints (i : Int) (l : List Int) : inV (.int i) (l.map V.int) = decide (i ∈ l) := by
  unfold inV
  induction l with
  | nil => rfl
  | cons x r ih =>
    rw [List.map_cons, List.any_cons, ih]
    have : eqV (.int x) (.int i) = decide (i = x) := by
      by_cases h : i = x
      · subst h; simp [eqV]
      · simp [eqV, h]; intro z; exact h z.symm
    rw [this]
    simp
theorem size_big : (1000000 : Nat) ≤ sizeLine := by
  rw [sizeLine_eq]
  decide
end LT

set_option Elab.async false
set_option linter.all false
set_option maxRecDepth 100000
set_option maxHeartbeats 1000000
namespace LT
open PySem PySem.Spec PyProof.Rows L2
/-! ### it ends, and so -/
def Wp {α : Type} (x : Option α) (P : α → Prop) : Prop := ∃ a, x = some a ∧ P a
section
variable {α β : Type} {P : α → Prop}
theorem Wp_some {a : α} : Wp (some a) P = P a := propext ⟨fun ⟨_, e, h⟩ => by cases e; exact h, fun h => ⟨a, rfl, h⟩⟩
theorem Wp.mono {x : Option α} {Q : α → Prop} (h : Wp x Q) (i : ∀ a, Q a → P a) : Wp x P := by
  obtain ⟨a, e, q⟩ := h
  exact ⟨a, e, i a q⟩
theorem Wp.bind {x : Option β} {k : β → Option α} (h : Wp x fun b => Wp (k b) P) : Wp (x.bind k) P := by
  obtain ⟨a, e, b, e2, p⟩ := h
  exact ⟨b, by rw [e]; exact e2, p⟩
theorem Wp.eq {x : Option α} {a : α} (h : x = some a) (p : P a) : Wp x P := ⟨a, h, p⟩
end
section
variable {F G : En → Option (Fl × En)} {env : En} {P : Fl × En → Prop} {fi : En → Option (List D × En)} {ft : D → En → Option En}
theorem Wp.seq (h : Wp (F env) fun p => match p.1 with | .nx => Wp (G p.2) P | _ => P p) : Wp (seqS F G env) P := by
  obtain ⟨⟨fl, e⟩, h1, h2⟩ := h
  unfold seqS
  rw [h1, Option.bind_some]
  cases fl with
  | nx => exact h2
  | bk => exact ⟨_, rfl, h2⟩
  | ct => exact ⟨_, rfl, h2⟩
  | rt v => exact ⟨_, rfl, h2⟩
/-- straight on -/
theorem Wp.then (I : En → Prop) (h : Wp (F env) fun p => p.1 = .nx ∧ I p.2) (h2 : ∀ e, I e → Wp (G e) P) : Wp (seqS F G env) P := .seq (h.mono fun p q => by
  obtain ⟨fl, e⟩ := p
  obtain ⟨rfl, q⟩ := q
  exact h2 _ q)
theorem Wp.forS {items : List D} {e0 : En} (hi : fi env = some (items, e0)) (I : Nat → En → Prop) (h0 : I 0 e0)
    (step : ∀ i d e, items[i]? = some d → I i e → Wp ((ft d e).bind F) fun p => (p.1 = .nx ∨ p.1 = .ct) ∧ I (i + 1) p.2) (fin : ∀ e, I items.length e → P (.nx, e)) : Wp (LT.forS fi ft F env) P := by
  unfold LT.forS
  rw [hi]
  obtain ⟨e', h1, h2⟩ := forF_inv (ft := ft) (F := F) I items 0 e0 h0 fun i d e hd hI => by
    rw [Nat.zero_add] at hI ⊢
    obtain ⟨⟨fl, e2⟩, h1, h2, h3⟩ := step i d e hd hI
    obtain ⟨e1, h4, h5⟩ := Option.bind_eq_some_iff.mp h1
    exact ⟨e1, fl, e2, h4, h5, h2, h3⟩
  rw [Nat.zero_add] at h2
  exact ⟨_, h1, fin _ h2⟩
theorem Wp.forR {n : Nat} {e0 : En} (hi : fi env = some (rgD 0 1 n, e0)) (I : Nat → En → Prop) (h0 : I 0 e0)
    (step : ∀ i e, i < n → I i e → Wp ((ft (.int (i : Int)) e).bind F) fun p => (p.1 = .nx ∨ p.1 = .ct) ∧ I (i + 1) p.2) (fin : ∀ e, I n e → P (.nx, e)) : Wp (LT.forS fi ft F env) P := by
  refine Wp.forS hi I h0 (fun i d e hd hI => ?_) fun e h => fin e (by rwa [rgD_len] at h)
  rw [rgD_nat, List.getElem?_map] at hd
  obtain ⟨j, h1, h2⟩ := Option.map_eq_some_iff.mp hd
  obtain ⟨h3, h4⟩ := List.getElem?_eq_some_iff.mp h1
  rw [List.length_range] at h3
  rw [List.getElem_range] at h4
  subst h4 h2
  exact step _ e h3 hI
theorem Wp.forL {α : Type} (xs : List α) (f : α → D) {e0 : En} (hi : fi env = some (xs.map f, e0)) (I : List α → En → Prop) (h0 : I [] e0)
    (step : ∀ pre x post e, pre ++ x :: post = xs → I pre e → Wp ((ft (f x) e).bind F) fun p => (p.1 = .nx ∨ p.1 = .ct) ∧ I (pre ++ [x]) p.2) (fin : ∀ e, I xs e → P (.nx, e)) : Wp (LT.forS fi ft F env) P := by
  unfold LT.forS
  rw [hi]
  obtain ⟨e', h1, h2⟩ := forF_over (ft := ft) (F := F) (xs := xs) f I (fun pre x post e hx hI => by
    obtain ⟨⟨fl, e2⟩, h1, h2, h3⟩ := step pre x post e hx hI
    obtain ⟨e1, h4, h5⟩ := Option.bind_eq_some_iff.mp h1
    exact ⟨e1, fl, e2, h4, h5, h2, h3⟩) xs [] e0 rfl h0
  exact ⟨_, h1, fin _ h2⟩
theorem Wp.mkG {A : List Nat} {n m : Nat} {ds : List D} {Q : D × List D → Prop} (hl : ds.length = n) (h : Wp (F (ds ++ List.replicate (m - n) .jnk)) fun p => match p.1 with | .rt d => Q (d, maskF A 0 (p.2.take n)) | .nx => Q (.non, maskF A 0 (p.2.take n)) | _ => False) : Wp (LT.mkG A n m F ds) Q := by
  obtain ⟨⟨fl, e⟩, h1, h2⟩ := h
  unfold LT.mkG
  rw [if_pos hl, h1, Option.bind_some]
  cases fl with
  | nx => exact ⟨_, rfl, h2⟩
  | rt d => exact ⟨_, rfl, h2⟩
  | bk => cases h2
  | ct => cases h2
end
theorem Wp.lcE {vs : List Nat} {fi : En → Option (List D × En)} {ft : D → En → Option En} {t : En → Option (Bool × En)} {f : En → Option (D × En)} {env : En} {P : D × En → Prop} {items : List D} {e0 : En} (hi : fi env = some (items, e0)) (I : Nat → List D → En → Prop) (h0 : I 0 [] (wipeE e0 vs))
    (step : ∀ i d ac e, items[i]? = some d → I i ac e → Wp ((ft d e).bind t) fun p => (p.1 = false → I (i + 1) ac (wipeE p.2 vs)) ∧ (p.1 = true → Wp (f p.2) fun q => ac.length < sizeLine ∧ I (i + 1) (ac ++ [q.1]) (wipeE q.2 vs)))
    (fin : ∀ ac e, I items.length ac e → P (.lst true ac, restE e0 e vs)) : Wp (LT.lcE vs fi ft t f env) P := by
  unfold LT.lcE
  rw [hi, Option.bind_some]
  obtain ⟨ac, e', h1, h2⟩ := lcF_inv (vs := vs) (ft := ft) (t := t) (f := f) I items 0 [] _ h0 fun i d ac e hd hI => by
    rw [Nat.zero_add] at hI ⊢
    obtain ⟨⟨b, e2⟩, h1, h2, h3⟩ := step i d ac e hd hI
    obtain ⟨e1, h4, h5⟩ := Option.bind_eq_some_iff.mp h1
    refine ⟨e1, b, e2, h4, h5, h2, fun hb => ?_⟩
    obtain ⟨⟨z, e3⟩, h6, h7, h8⟩ := h3 hb
    exact ⟨z, e3, h6, h7, h8⟩
  rw [Nat.zero_add] at h2
  exact ⟨_, by rw [h1]; rfl, fin _ _ h2⟩
theorem kMul_c {i j : Int} (h : mulOk i j = true) : kMul (.int i) (.int j) = some (.int (i * j)) := if_pos h
theorem kDiv_c {i j : Int} (h : 0 < j) (h2 : j < 1073741824) : kDiv (.int i) (.int j) = some (.int (i / j)) := if_pos (hard_of ⟨h, h2⟩)
theorem kMod_c {i j : Int} (h : 0 < j) : kMod (.int i) (.int j) = some (.int (i % j)) := if_pos h
theorem kPow_c : kPow (.int 10) (.int 18) = some (.int 1000000000000000000) := (if_pos (hard_of ⟨by decide, by decide, by decide⟩)).trans (by simp)
section
variable {F G : En → Option (Fl × En)} {env : En} {P : Fl × En → Prop} {f : En → Option (D × En)} {ft : D → En → Option En}
theorem Wp.ret (h : Wp (f env) fun p => P (.rt p.1, p.2)) : Wp (retS f env) P := by
  obtain ⟨a, e, h⟩ := h
  exact ⟨_, by unfold retS; rw [e]; rfl, h⟩
theorem Wp.asg (h : Wp (f env) fun p => Wp (ft p.1 p.2) fun e => P (.nx, e)) : Wp (asgS f ft env) P := by
  obtain ⟨a, e, b, e2, h⟩ := h
  exact ⟨_, by unfold asgS; rw [e, Option.bind_some, e2]; rfl, h⟩
theorem Wp.callE {k : List D → Option D} {fs : En → Option (List D × En)} {P : D × En → Prop} (h : Wp (fs env) fun p => Wp (k p.1) fun z => P (z, p.2)) : Wp (callE k fs env) P := by
  obtain ⟨a, e, b, e2, h⟩ := h
  exact ⟨_, by unfold LT.callE; rw [e, Option.bind_some, e2]; rfl, h⟩
theorem Wp.lenG {g : Gn} {L : List (Option Nat)} {fs : En → Option (List D × En)} {P : D × En → Prop} (h : Wp (fs env) fun p => Wp (g p.1) fun q => P (q.1, back L q.2 p.2)) : Wp (lenG g L fs env) P := by
  obtain ⟨a, e, b, e2, h⟩ := h
  exact ⟨_, by unfold LT.lenG; rw [e, Option.bind_some, e2]; rfl, h⟩
theorem Wp.one {P : List D × En → Prop} (h : Wp (f env) fun p => P ([p.1], p.2)) : Wp (consE f (fun e => some ([], e)) env) P := by
  obtain ⟨a, e, h⟩ := h
  exact ⟨_, by unfold consE; rw [e, Option.bind_some]; rfl, h⟩
theorem Wp.cons {fs : En → Option (List D × En)} {P : List D × En → Prop} (h : Wp (f env) fun p => Wp (fs p.2) fun q => P (p.1 :: q.1, q.2)) : Wp (consE f fs env) P := by
  obtain ⟨a, e, b, e2, h⟩ := h
  exact ⟨_, by unfold consE; rw [e, Option.bind_some, e2]; rfl, h⟩
theorem Wp.forR2 {fi : En → Option (List D × En)} {lo : Int} {n : Nat} {e0 : En} (hi : fi env = some (rgD lo 1 n, e0)) (I : Nat → En → Prop) (h0 : I 0 e0)
    (step : ∀ (i : Nat) e, i < n → I i e → Wp ((ft (.int (lo + (i : Int))) e).bind F) fun p => (p.1 = .nx ∨ p.1 = .ct) ∧ I (i + 1) p.2) (fin : ∀ e, I n e → P (.nx, e)) : Wp (LT.forS fi ft F env) P := by
  refine Wp.forS hi I h0 (fun i d e hd hI => ?_) fun e h => fin e (by rwa [rgD_len] at h)
  unfold rgD at hd
  rw [List.getElem?_map] at hd
  obtain ⟨j, h1, h2⟩ := Option.map_eq_some_iff.mp hd
  obtain ⟨h3, h4⟩ := List.getElem?_eq_some_iff.mp h1
  rw [List.length_range] at h3
  rw [List.getElem_range] at h4
  subst h4 h2
  rw [Int.mul_one]
  exact step _ e h3 hI
end
theorem noOwns_all : ∀ {l : List D}, (∀ d ∈ l, noOwn d = true) → noOwns l = true
  | [], _ => rfl
  | x :: r, h => by rw [noOwns, h x List.mem_cons_self, noOwns_all fun d m => h d (List.mem_cons_of_mem _ m)]; rfl
theorem noOwns_mem : ∀ {l : List D}, noOwns l = true → ∀ d ∈ l, noOwn d = true
  | x :: r, h, d, m => by
    rw [noOwns, Bool.and_eq_true] at h
    rcases List.mem_cons.mp m with e | m
    · exact e ▸ h.1
    · exact noOwns_mem h.2 d m
theorem fzs_all : ∀ {l : List D}, (∀ d ∈ l, fz d = d) → fzs l = l
  | [], _ => by rw [fzs]
  | x :: r, h => by rw [fzs, h x List.mem_cons_self, fzs_all fun d m => h d (List.mem_cons_of_mem _ m)]
theorem ints_of : ∀ {l : List D}, (∀ d ∈ l, ∃ i : Int, d = .int i) → ∃ ns : List Int, l = ns.map D.int
  | [], _ => ⟨[], rfl⟩
  | x :: r, h => by
    obtain ⟨i, e⟩ := h x List.mem_cons_self
    obtain ⟨ns, e2⟩ := ints_of (l := r) fun d m => h d (List.mem_cons_of_mem _ m)
    exact ⟨i :: ns, by rw [e, e2]; rfl⟩
theorem nj_own {d : D} (h : noOwn d = true) : nj d = some d := by cases d <;> first | rfl | cases h
theorem kEq_int (a b : Int) : kEq (.int a) (.int b) = some (.bl (decide (a = b))) := by
  simp [kEq, okd, pd, PyData.eqv]
  rfl
theorem kNe_int (a b : Int) : kNe (.int a) (.int b) = some (.bl (!decide (a = b))) := by
  simp [kNe, okd, pd, PyData.eqv]
  rfl
theorem erase_perm {α : Type} : ∀ {l : List α} {i : Nat} (h : i < l.length), (l[i] :: l.eraseIdx i).Perm l
  | x :: r, 0, _ => .refl _
  | x :: r, i + 1, h => by
    have h' : i < r.length := by simpa using h
    exact (List.Perm.swap x r[i] (r.eraseIdx i)).trans ((erase_perm h').cons x)
theorem eqvAll_nt : ∀ L : List Int, PyData.eqvAll (pds (L.map D.int)) (pds (L.map D.int)) = true
  | [] => rfl
  | x :: r => by
    show (PyData.eqv (pd (.int x)) (pd (.int x)) && PyData.eqvAll (pds (r.map D.int)) (pds (r.map D.int))) = true
    rw [eqvAll_nt r]
    simp [pd, PyData.eqv]
theorem kEq_tup (L : List Int) : kEq (.tup (L.map D.int)) (.tup (L.map D.int)) = some (.bl true) := by
  have := eqvAll_nt L
  simp [kEq, okd, okds_nt, pd, PyData.eqv, this]
theorem kEq_nil (L : List Int) (o o' : Bool) : kEq (.lst o (L.map D.int)) (.lst o' []) = some (.bl (decide (L = []))) := by
  cases L with
  | nil => simp [kEq, okd, okds, pd, pds, PyData.eqv, PyData.eqvAll]
  | cons x r =>
    have := okds_nt 8 r
    simp [kEq, okd, okds, pd, pds, PyData.eqv, PyData.eqvAll, this]
theorem kNe_nil (L : List Int) (o o' : Bool) : kNe (.lst o (L.map D.int)) (.lst o' []) = some (.bl (!decide (L = []))) := by
  cases L with
  | nil => simp [kNe, okd, okds, pd, pds, PyData.eqv, PyData.eqvAll]
  | cons x r =>
    have := okds_nt 8 r
    simp [kNe, okd, okds, pd, pds, PyData.eqv, PyData.eqvAll, this]
theorem popK_at {l : List D} {r : Int} (hl : l.length ≤ 1000000) (h0 : 0 ≤ r) (h : r < l.length) : ∃ z t, popK (.lst true l) (.int r) = some (z, .lst true t) ∧ (z :: t).Perm l := by
  have hr : r.toNat < l.length := by omega
  refine ⟨l[r.toNat], l.eraseIdx r.toNat, ?_, ?_⟩
  · have hz : l.length ≤ sizeLine := Nat.le_trans hl size_big
    simp [popK, ixN, h0, h, hz, List.getElem?_eq_getElem hr]
  · exact erase_perm hr
theorem rngK_i {m : Int} (h : -1000000 ≤ m) (h2 : m ≤ 1000000) : rngK [.int m] = some (rgD 0 1 m.toNat) := if_pos (okR_of (by omega) (by omega))
theorem rngK_n {n : Nat} (h : n ≤ 1000000) : rngK [.int (n : Int)] = some (rgD 0 1 n) := by
  have := rngK_i (m := (n : Int)) (by omega) (by omega)
  rwa [Int.toNat_natCast] at this
theorem rngK_2 {l m : Int} (h : -1000000 ≤ l) (h2 : l ≤ 1000000) (h3 : -1000000 ≤ m) (h4 : m ≤ 1000000) : rngK [.int l, .int m] = some (rgD l 1 (m - l).toNat) :=
  if_pos (by rw [okR_of (i := l) (by omega) (by omega), okR_of (i := m) (by omega) (by omega)]; rfl)
theorem nj_cp {d : D} (h : noOwn d = true) : ((nj d).bind fun d => if noOwn d = true then some d else none) = some d := by
  rw [nj_own h, Option.bind_some, if_pos h]
theorem nj_int {i : Int} : nj (.int i) = some (.int i) := rfl
theorem nj_bl {i : Bool} : nj (.bl i) = some (.bl i) := rfl
theorem nj_non : nj .non = some .non := rfl
theorem nj_str {z : Str} : nj (.str z) = some (.str z) := rfl
theorem nj_tup {xs : List D} : nj (.tup xs) = some (.tup xs) := rfl
theorem nj_lst {o : Bool} {xs : List D} : nj (.lst o xs) = some (.lst o xs) := rfl
theorem nj_frl {xs : List D} : nj (.frl xs) = some (.frl xs) := rfl
theorem kTup_ints {o : Bool} {L : List Int} : kTup [.lst o (L.map D.int)] = some (.tup (L.map D.int)) := by simp [kTup, kidsN, kids, noOwns_nt]
end LT

set_option Elab.async false
set_option linter.all false
set_option maxRecDepth 100000
set_option maxHeartbeats 4000000
namespace LT
open PySem PySem.Spec PyProof.Rows L2
noncomputable section
def top (i : Nat) : Stmt := PySem.Challenge.pw_lendtown_k77_days_of_a_script.main.body.getD i (.Pass ⟨0, 0, 0, 0⟩)
structure Txt (mg : Str → Option Value) : Prop where
  b_tuple : mg "tuple" = none
  b_zip : mg "zip" = none
  b_min : mg "min" = none
  b_max : mg "max" = none
  b_range : mg "range" = none
  b_enumerate : mg "enumerate" = none
  b_sorted : mg "sorted" = none
  b_len : mg "len" = none
  b_sum : mg "sum" = none
  b_abs : mg "abs" = none
  b_int : mg "int" = none
  b_isinstance : mg "isinstance" = none
  b_bool : mg "bool" = none
  b_all : mg "all" = none
  b_list : mg "list" = none
variable {P : Program} {w : World} {K : PySem.W.Frag} {mg : Str → Option Value} {base : Heap}
/-! plus (0 one, 1 other, 2 a, 3 b) -/
abbrev s_plus : Stmt := top 1
theorem sc_plus : FnScope ["one", "other", "a", "b"] ["one", "other"] (defScope s_plus) := ⟨rfl, rfl, rfl, by decide +kernel, rfl, by decide +kernel, by decide +kernel⟩
def D_plus : {F : En → Option (Fl × En) // ∀ {P : Program} {w : World} {K : PySem.W.Frag} {mg : Str → Option Value} {base : Heap} (_ : Txt mg)  (f : Addr) (cdv : Value) (Ar : Around) (outer : List Env) (s : Shared) (H : Hp) (E : XK), Room 0 (Ar.deeper (envOfC "plus" (defScope s_plus) s.heap.objs.size f cdv)) →
  SSs (cxOf CX0 P w K mg base ["one", "other", "a", "b"] "plus" (defScope s_plus) f cdv Ar outer s H E).nox [] (defBody s_plus) F} := ⟨_, fun {P w K mg base} T  f cdv Ar outer s H E hr =>
    (SSs.one (SS.ret (SX.se (SX.callTy cn_tup rfl T.b_tuple (by decide +kernel) (SVs.cons (SX.sv (SX.lc (vs := [2, 3]) rfl sc_plus.nd (SIV.zip T.b_zip (SV.name 0) (SV.name 1)) (blkOk_by (own := [("a", 2), ("b", 3)]) (by kernel_rfl)) (fun _ _ _ _ _ => (STg.tup rfl (STgs.cons (STg.name 2 (by decide) sc_plus.nd) (STgs.cons (STg.name 3 (by decide) sc_plus.nd) STgs.nil)))) (fun _ _ _ _ _ => SBs.nil) (fun _ _ _ _ _ => (SX.op on_add (SV.name 2) (SV.name 3))))) SVs.nil)))))⟩
def G_plus : Gn := mkG [] 2 4 D_plus.1
theorem ok_plus (T : Txt mg) (F : FAt K mg "plus" s_plus ["one", "other"])  : Def P w K mg base 1 "plus" G_plus := F.def sc_plus fun fa cdv Ar outer s H E hr => D_plus.2 T  fa cdv Ar outer s H E hr
/-! minus (0 one, 1 other, 2 a, 3 b) -/
abbrev s_minus : Stmt := top 2
theorem sc_minus : FnScope ["one", "other", "a", "b"] ["one", "other"] (defScope s_minus) := ⟨rfl, rfl, rfl, by decide +kernel, rfl, by decide +kernel, by decide +kernel⟩
def D_minus : {F : En → Option (Fl × En) // ∀ {P : Program} {w : World} {K : PySem.W.Frag} {mg : Str → Option Value} {base : Heap} (_ : Txt mg)  (f : Addr) (cdv : Value) (Ar : Around) (outer : List Env) (s : Shared) (H : Hp) (E : XK), Room 0 (Ar.deeper (envOfC "minus" (defScope s_minus) s.heap.objs.size f cdv)) →
  SSs (cxOf CX0 P w K mg base ["one", "other", "a", "b"] "minus" (defScope s_minus) f cdv Ar outer s H E).nox [] (defBody s_minus) F} := ⟨_, fun {P w K mg base} T  f cdv Ar outer s H E hr =>
    (SSs.one (SS.ret (SX.se (SX.callTy cn_tup rfl T.b_tuple (by decide +kernel) (SVs.cons (SX.sv (SX.lc (vs := [2, 3]) rfl sc_minus.nd (SIV.zip T.b_zip (SV.name 0) (SV.name 1)) (blkOk_by (own := [("a", 2), ("b", 3)]) (by kernel_rfl)) (fun _ _ _ _ _ => (STg.tup rfl (STgs.cons (STg.name 2 (by decide) sc_minus.nd) (STgs.cons (STg.name 3 (by decide) sc_minus.nd) STgs.nil)))) (fun _ _ _ _ _ => SBs.nil) (fun _ _ _ _ _ => (SX.op on_sub (SV.name 2) (SV.name 3))))) SVs.nil)))))⟩
def G_minus : Gn := mkG [] 2 4 D_minus.1
theorem ok_minus (T : Txt mg) (F : FAt K mg "minus" s_minus ["one", "other"])  : Def P w K mg base 1 "minus" G_minus := F.def sc_minus fun fa cdv Ar outer s H E hr => D_minus.2 T  fa cdv Ar outer s H E hr
/-! lowered (0 script, 1 entry) -/
abbrev s_lowered : Stmt := top 4
theorem sc_lowered : FnScope ["script", "entry"] ["script"] (defScope s_lowered) := ⟨rfl, rfl, rfl, by decide +kernel, rfl, by decide +kernel, by decide +kernel⟩
def D_lowered : {F : En → Option (Fl × En) // ∀ {P : Program} {w : World} {K : PySem.W.Frag} {mg : Str → Option Value} {base : Heap} (_ : Txt mg) (d_minus : Def P w K mg base 1 "minus" G_minus) (f : Addr) (cdv : Value) (Ar : Around) (outer : List Env) (s : Shared) (H : Hp) (E : XK), Room 1 (Ar.deeper (envOfC "lowered" (defScope s_lowered) s.heap.objs.size f cdv)) →
  SSs (cxOf CX0 P w K mg base ["script", "entry"] "lowered" (defScope s_lowered) f cdv Ar outer s H E).nox [] (defBody s_lowered) F} := ⟨_, fun {P w K mg base} T d_minus f cdv Ar outer s H E hr =>
    (SSs.one (SS.ret (SX.se (SX.call d_minus (hr.mono (by decide)) (SVs.cons (SV.name 0) (SVs.cons (SX.sv (SX.callTy cn_tup rfl T.b_tuple (by decide +kernel) (SVs.cons (SX.sv (SX.lc (vs := [1]) rfl sc_lowered.nd (SIV.seq (SV.name 0)) (blkOk_by (own := [("entry", 1)]) (by kernel_rfl)) (fun _ _ _ _ _ => (STg.name 1 (by decide) sc_lowered.nd)) (fun _ _ _ _ _ => SBs.nil) (fun _ _ _ _ _ => (SX.callB (cn_min rfl) rfl T.b_min (by decide +kernel) (SVs.cons (SV.name 0) SVs.nil))))) SVs.nil))) SVs.nil))))))⟩
def G_lowered : Gn := mkG [] 1 2 D_lowered.1
theorem ok_lowered (T : Txt mg) (F : FAt K mg "lowered" s_lowered ["script"]) (d_minus : Def P w K mg base 1 "minus" G_minus) : Def P w K mg base 2 "lowered" G_lowered := F.def sc_lowered fun fa cdv Ar outer s H E hr => D_lowered.2 T d_minus fa cdv Ar outer s H E hr
/-! days_of (0 script, 1 rest, 2 most, 3 found, 4 day, 5 house, 6 many) -/
abbrev s_days_of : Stmt := top 5
theorem sc_days_of : FnScope ["script", "rest", "most", "found", "day", "house", "many"] ["script"] (defScope s_days_of) := ⟨rfl, rfl, rfl, by decide +kernel, rfl, by decide +kernel, by decide +kernel⟩
def D_days_of : {F : En → Option (Fl × En) // ∀ {P : Program} {w : World} {K : PySem.W.Frag} {mg : Str → Option Value} {base : Heap} (_ : Txt mg) (d_lowered : Def P w K mg base 2 "lowered" G_lowered) (f : Addr) (cdv : Value) (Ar : Around) (outer : List Env) (s : Shared) (H : Hp) (E : XK), Room 2 (Ar.deeper (envOfC "days_of" (defScope s_days_of) s.heap.objs.size f cdv)) →
  SSs (cxOf CX0 P w K mg base ["script", "rest", "most", "found", "day", "house", "many"] "days_of" (defScope s_days_of) f cdv Ar outer s H E).nox [1, 2, 3, 4] (defBody s_days_of) F} := ⟨_, fun {P w K mg base} T d_lowered f cdv Ar outer s H E hr =>
    (SSs.cons (SS.set 1 (by decide) sc_days_of.nd (SX.se (SX.call d_lowered (hr.mono (by decide)) (SVs.cons (SV.name 0) SVs.nil))))
    (SSs.cons (SS.set 2 (by decide) sc_days_of.nd (SX.se (SX.callB (cn_max rfl) rfl T.b_max (by decide +kernel) (SVs.cons (SV.name 1) SVs.nil))))
    (SSs.cons (SS.set 3 (by decide) sc_days_of.nd (SX.se (SX.lst SXs.nil)))
    (SSs.cons (SS.for PassesOwn.never rfl (SI.rng1 T.b_range (SEs.cons (SE.mov 2) SEs.nil) (hl := len1E)) (STg.name 4 (by decide) sc_days_of.nd) (SSs.one (SS.exp (SE.app 3 (SX.se (SX.callTy cn_tup rfl T.b_tuple (by decide +kernel) (SVs.cons (SX.sv (SX.lc (vs := [5, 6]) rfl sc_days_of.nd (SIV.enum T.b_enumerate (SV.name 1)) (blkOk_by (own := [("house", 5), ("many", 6)]) (by kernel_rfl)) (fun _ _ _ _ _ => (STg.tup rfl (STgs.cons (STg.name 5 (by decide) sc_days_of.nd) (STgs.cons (STg.name 6 (by decide) sc_days_of.nd) STgs.nil)))) (fun _ _ _ _ _ => (SBs.one (SB.cmp on_ge (SV.name 6) (SX.sv (SX.op on_sub (SV.name 2) (SV.name 4))) rfl))) (fun _ _ _ _ _ => (SV.sx (SV.name 5))))) SVs.nil)))))))
    (SSs.one (SS.ret (SE.mov 3)))))))⟩
def G_days_of : Gn := mkG [1, 2, 3, 4] 1 7 D_days_of.1
theorem ok_days_of (T : Txt mg) (F : FAt K mg "days_of" s_days_of ["script"]) (d_lowered : Def P w K mg base 2 "lowered" G_lowered) : Def P w K mg base 3 "days_of" G_days_of := F.def sc_days_of fun fa cdv Ar outer s H E hr => D_days_of.2 T d_lowered fa cdv Ar outer s H E hr
/-! cost_of (0 script, 1 middle, 2 entry) -/
abbrev s_cost_of : Stmt := top 6
theorem sc_cost_of : FnScope ["script", "middle", "entry"] ["script"] (defScope s_cost_of) := ⟨rfl, rfl, rfl, by decide +kernel, rfl, by decide +kernel, by decide +kernel⟩
def D_cost_of : {F : En → Option (Fl × En) // ∀ {P : Program} {w : World} {K : PySem.W.Frag} {mg : Str → Option Value} {base : Heap} (_ : Txt mg)  (f : Addr) (cdv : Value) (Ar : Around) (outer : List Env) (s : Shared) (H : Hp) (E : XK), Room 0 (Ar.deeper (envOfC "cost_of" (defScope s_cost_of) s.heap.objs.size f cdv)) →
  SSs (cxOf CX0 P w K mg base ["script", "middle", "entry"] "cost_of" (defScope s_cost_of) f cdv Ar outer s H E).nox [1] (defBody s_cost_of) F} := ⟨_, fun {P w K mg base} T  f cdv Ar outer s H E hr =>
    (SSs.cons (SS.set 1 (by decide) sc_cost_of.nd (SX.se (SV.sx (SV.ix ix_N (SX.sv (SX.callB cn_sorted rfl T.b_sorted (by decide +kernel) (SVs.cons (SV.name 0) SVs.nil))) (SX.sv (SX.op on_div (SX.sv (SX.callB cn_len rfl T.b_len (by decide +kernel) (SVs.cons (SV.name 0) SVs.nil))) (SX.sv SX.int)))))))
    (SSs.one (SS.ret (SX.se (SX.callB (cn_sum rfl) rfl T.b_sum (by decide +kernel) (SVs.cons (SX.sv (SX.lc (vs := [2]) rfl sc_cost_of.nd (SIV.seq (SV.name 0)) (blkOk_by (own := [("entry", 2)]) (by kernel_rfl)) (fun _ _ _ _ _ => (STg.name 2 (by decide) sc_cost_of.nd)) (fun _ _ _ _ _ => SBs.nil) (fun _ _ _ _ _ => (SX.callB cn_abs rfl T.b_abs (by decide +kernel) (SVs.cons (SX.sv (SX.op on_sub (SV.name 2) (SV.name 1))) SVs.nil))))) SVs.nil))))))⟩
def G_cost_of : Gn := mkG [1] 1 3 D_cost_of.1
theorem ok_cost_of (T : Txt mg) (F : FAt K mg "cost_of" s_cost_of ["script"])  : Def P w K mg base 1 "cost_of" G_cost_of := F.def sc_cost_of fun fa cdv Ar outer s H E hr => D_cost_of.2 T  fa cdv Ar outer s H E hr
/-! summed (0 town, 1 days, 2 script, 3 houses, 4 house) -/
abbrev s_summed : Stmt := top 7
theorem sc_summed : FnScope ["town", "days", "script", "houses", "house"] ["town", "days"] (defScope s_summed) := ⟨rfl, rfl, rfl, by decide +kernel, rfl, by decide +kernel, by decide +kernel⟩
def D_summed : {F : En → Option (Fl × En) // ∀ {P : Program} {w : World} {K : PySem.W.Frag} {mg : Str → Option Value} {base : Heap} (_ : Txt mg) (d_plus : Def P w K mg base 1 "plus" G_plus) (f : Addr) (cdv : Value) (Ar : Around) (outer : List Env) (s : Shared) (H : Hp) (E : XK), Room 1 (Ar.deeper (envOfC "summed" (defScope s_summed) s.heap.objs.size f cdv)) →
  SSs (cxOf CX0 P w K mg base ["town", "days", "script", "houses", "house"] "summed" (defScope s_summed) f cdv Ar outer s H E).nox [2, 3] (defBody s_summed) F} := ⟨_, fun {P w K mg base} T d_plus f cdv Ar outer s H E hr =>
    (SSs.cons (SS.set 2 (by decide) sc_summed.nd (SX.se (SX.callTy cn_tup rfl T.b_tuple (by decide +kernel) (SVs.cons (SX.sv (SX.lc (vs := [4]) rfl sc_summed.nd (SIV.rng1 T.b_range (SVs.cons (SV.ix ix_N (SV.name 0) (SX.sv SX.int)) SVs.nil) (hl := len1V)) (blkOk_by (own := [("house", 4)]) (by kernel_rfl)) (fun _ _ _ _ _ => (STg.name 4 (by decide) sc_summed.nd)) (fun _ _ _ _ _ => SBs.nil) (fun _ _ _ _ _ => SX.int))) SVs.nil))))
    (SSs.cons (SS.for PassesOwn.never rfl (SI.seq (SE.frz 1)) (STg.name 3 (by decide) sc_summed.nd) (SSs.one (SS.set 2 (by decide) sc_summed.nd (SX.se (SX.call d_plus (hr.mono (by decide)) (SVs.cons (SV.name 2) (SVs.cons (SX.sv (SX.callTy cn_tup rfl T.b_tuple (by decide +kernel) (SVs.cons (SX.sv (SX.lc (vs := [4]) rfl sc_summed.nd (SIV.rng1 T.b_range (SVs.cons (SV.ix ix_N (SV.name 0) (SX.sv SX.int)) SVs.nil) (hl := len1V)) (blkOk_by (own := [("house", 4)]) (by kernel_rfl)) (fun _ _ _ _ _ => (STg.name 4 (by decide) sc_summed.nd)) (fun _ _ _ _ _ => SBs.nil) (fun _ _ _ _ _ => (SX.callTy cn_int rfl T.b_int (by decide +kernel) (SVs.cons (SX.sv (SX.cmp on_in (SV.name 4) (SV.name 3) rfl)) SVs.nil))))) SVs.nil))) SVs.nil)))))))
    (SSs.one (SS.ret (SE.mov 2)))))⟩
def G_summed : Gn := mkG [2, 3] 2 5 D_summed.1
theorem ok_summed (T : Txt mg) (F : FAt K mg "summed" s_summed ["town", "days"]) (d_plus : Def P w K mg base 1 "plus" G_plus) : Def P w K mg base 2 "summed" G_summed := F.def sc_summed fun fa cdv Ar outer s H E hr => D_summed.2 T d_plus fa cdv Ar outer s H E hr
/-! _law_cell (0 script, 1 k) -/
abbrev s__law_cell : Stmt := top 9
theorem sc__law_cell : FnScope ["script", "k"] ["script", "k"] (defScope s__law_cell) := ⟨rfl, rfl, rfl, by decide +kernel, rfl, by decide +kernel, by decide +kernel⟩
def D__law_cell : {F : En → Option (Fl × En) // ∀ {P : Program} {w : World} {K : PySem.W.Frag} {mg : Str → Option Value} {base : Heap} (_ : Txt mg)  (f : Addr) (cdv : Value) (Ar : Around) (outer : List Env) (s : Shared) (H : Hp) (E : XK), Room 0 (Ar.deeper (envOfC "_law_cell" (defScope s__law_cell) s.heap.objs.size f cdv)) →
  SSs (cxOf CX0 P w K mg base ["script", "k"] "_law_cell" (defScope s__law_cell) f cdv Ar outer s H E).nox [] (defBody s__law_cell) F} := ⟨_, fun {P w K mg base} T  f cdv Ar outer s H E hr =>
    (SSs.cons (SS.ite (SB.st (SB.cmp on_lt (SV.name 1) (SX.sv (SX.callB cn_len rfl T.b_len (by decide +kernel) (SVs.cons (SV.name 0) SVs.nil))) rfl)) (SSs.one (SS.ret (SX.se (SV.sx (SV.ix ix_N (SV.name 0) (SV.name 1)))))) SSs.nil)
    (SSs.one (SS.ret (SX.se SX.int))))⟩
def G__law_cell : Gn := mkG [] 2 2 D__law_cell.1
theorem ok__law_cell (T : Txt mg) (F : FAt K mg "_law_cell" s__law_cell ["script", "k"])  : Def P w K mg base 1 "_law_cell" G__law_cell := F.def sc__law_cell fun fa cdv Ar outer s H E hr => D__law_cell.2 T  fa cdv Ar outer s H E hr
/-! _law_digits (0 script, 1 last, 2 digits, 3 k, 4 cell, 5 turn, 6 seed) -/
abbrev s__law_digits : Stmt := top 10
theorem sc__law_digits : FnScope ["script", "last", "digits", "k", "cell", "turn", "seed"] ["script", "last"] (defScope s__law_digits) := ⟨rfl, rfl, rfl, by decide +kernel, rfl, by decide +kernel, by decide +kernel⟩
def D__law_digits : {F : En → Option (Fl × En) // ∀ {P : Program} {w : World} {K : PySem.W.Frag} {mg : Str → Option Value} {base : Heap} (_ : Txt mg) (d__law_cell : Def P w K mg base 1 "_law_cell" G__law_cell) (f : Addr) (cdv : Value) (Ar : Around) (outer : List Env) (s : Shared) (H : Hp) (E : XK), Room 1 (Ar.deeper (envOfC "_law_digits" (defScope s__law_digits) s.heap.objs.size f cdv)) →
  SSs (cxOf CX0 P w K mg base ["script", "last", "digits", "k", "cell", "turn", "seed"] "_law_digits" (defScope s__law_digits) f cdv Ar outer s H E).nox [2, 3, 4, 5, 6] (defBody s__law_digits) F} := ⟨_, fun {P w K mg base} T d__law_cell f cdv Ar outer s H E hr =>
    (SSs.cons (SS.set 2 (by decide) sc__law_digits.nd (SX.se (SX.lst SXs.nil)))
    (SSs.cons (SS.for PassesOwn.never rfl (SI.rng1 T.b_range (SEs.cons (SE.mov 1) SEs.nil) (hl := len1E)) (STg.name 3 (by decide) sc__law_digits.nd) (SSs.cons (SS.set 4 (by decide) sc__law_digits.nd (SX.se (SX.call d__law_cell (hr.mono (by decide)) (SVs.cons (SV.name 0) (SVs.cons (SV.name 3) SVs.nil)))))
    (SSs.cons (SS.ite (SB.st (SB.cmp on_lt (SV.name 4) (SX.sv SX.int) rfl)) (SSs.one (SS.set 4 (by decide) sc__law_digits.nd (SX.se (SX.op on_sub (SX.sv SX.int) (SX.sv (SX.op on_mul (SX.sv SX.int) (SV.name 4))))))) SSs.nil)
    (SSs.one (SS.ite (SB.st (SB.cmp on_ge (SV.name 4) (SX.sv (SX.op on_pow (SX.sv SX.int) (SX.sv SX.int))) rfl)) (SSs.one (SS.for PassesOwn.never rfl (SI.rng1 T.b_range (SEs.cons (SX.se SX.int) SEs.nil) (hl := len1E)) (STg.name 5 (by decide) sc__law_digits.nd) (SSs.one (SS.ite (SB.st (SB.cmp on_gt (SV.name 4) (SX.sv SX.int) rfl)) (SSs.cons (SS.exp (SE.app 2 (SX.se (SX.op on_mod (SX.sv (SX.callTy cn_int rfl T.b_int (by decide +kernel) (SVs.cons (SV.name 4) SVs.nil))) (SX.sv SX.int)))))
    (SSs.one (SS.set 4 (by decide) sc__law_digits.nd (SX.se (SX.op on_div (SV.name 4) (SX.sv SX.int)))))) SSs.nil)))) (SSs.cons (SS.set 6 (by decide) sc__law_digits.nd (SX.se (SX.op on_mod (SX.sv (SX.callTy cn_int rfl T.b_int (by decide +kernel) (SVs.cons (SX.sv (SX.op on_add (SX.sv (SX.op on_add (SX.sv (SX.op on_mul (SV.name 4) (SX.sv SX.int))) (SX.sv (SX.op on_mul (SV.name 3) (SX.sv SX.int))))) (SX.sv SX.int))) SVs.nil))) (SX.sv SX.int))))
    (SSs.one (SS.for PassesOwn.never rfl (SI.rng1 T.b_range (SEs.cons (SX.se SX.int) SEs.nil) (hl := len1E)) (STg.name 5 (by decide) sc__law_digits.nd) (SSs.cons (SS.set 6 (by decide) sc__law_digits.nd (SX.se (SX.op on_mod (SX.sv (SX.callTy cn_int rfl T.b_int (by decide +kernel) (SVs.cons (SX.sv (SX.op on_add (SX.sv (SX.op on_add (SX.sv (SX.op on_mul (SV.name 6) (SX.sv SX.int))) (SX.sv (SX.op on_mul (SX.sv SX.int) (SV.name 5))))) (SX.sv SX.int))) SVs.nil))) (SX.sv SX.int))))
    (SSs.one (SS.exp (SE.app 2 (SX.se (SX.op on_mod (SX.sv (SX.callTy cn_int rfl T.b_int (by decide +kernel) (SVs.cons (SX.sv (SX.op on_div (SV.name 6) (SX.sv SX.int))) SVs.nil))) (SX.sv SX.int)))))))))))))))
    (SSs.one (SS.ret (SE.mov 2)))))⟩
def G__law_digits : Gn := mkG [2, 3, 4, 5, 6] 2 7 D__law_digits.1
theorem ok__law_digits (T : Txt mg) (F : FAt K mg "_law_digits" s__law_digits ["script", "last"]) (d__law_cell : Def P w K mg base 1 "_law_cell" G__law_cell) : Def P w K mg base 2 "_law_digits" G__law_digits := F.def sc__law_digits fun fa cdv Ar outer s H E hr => D__law_digits.2 T d__law_cell fa cdv Ar outer s H E hr
/-! _law_draw (0 box, 1 many, 2 at) -/
abbrev s__law_draw : Stmt := top 11
theorem sc__law_draw : FnScope ["box", "many", "at"] ["box", "many"] (defScope s__law_draw) := ⟨rfl, rfl, rfl, by decide +kernel, rfl, by decide +kernel, by decide +kernel⟩
def D__law_draw : {F : En → Option (Fl × En) // ∀ {P : Program} {w : World} {K : PySem.W.Frag} {mg : Str → Option Value} {base : Heap} (_ : Txt mg)  (f : Addr) (cdv : Value) (Ar : Around) (outer : List Env) (s : Shared) (H : Hp) (E : XK), Room 0 (Ar.deeper (envOfC "_law_draw" (defScope s__law_draw) s.heap.objs.size f cdv)) →
  SSs (cxOf CX0 P w K mg base ["box", "many", "at"] "_law_draw" (defScope s__law_draw) f cdv Ar outer s H E).nox [2] (defBody s__law_draw) F} := ⟨_, fun {P w K mg base} T  f cdv Ar outer s H E hr =>
    (SSs.cons (SS.set 2 (by decide) sc__law_draw.nd (SX.se (SV.sx (SV.ix ix_N (SV.name 0) (SX.sv SX.int)))))
    (SSs.cons (SS.sub 0 (SX.se SX.int) (SX.se (SX.op on_add (SV.name 2) (SX.sv SX.int))))
    (SSs.cons (SS.ite (SB.st (SB.cmp on_lt (SV.name 2) (SX.sv (SX.callB cn_len rfl T.b_len (by decide +kernel) (SVs.cons (SV.ix ix_N (SV.name 0) (SX.sv SX.int)) SVs.nil))) rfl)) (SSs.one (SS.ret (SX.se (SX.op on_mod (SX.sv (SX.callTy cn_int rfl T.b_int (by decide +kernel) (SVs.cons (SV.ix ix_N (SV.ix ix_N (SV.name 0) (SX.sv SX.int)) (SV.name 2)) SVs.nil))) (SV.name 1))))) SSs.nil)
    (SSs.one (SS.ret (SX.se SX.int))))))⟩
def G__law_draw : Gn := mkG [2] 2 3 D__law_draw.1
theorem ok__law_draw (T : Txt mg) (F : FAt K mg "_law_draw" s__law_draw ["box", "many"])  : Def P w K mg base 1 "_law_draw" G__law_draw := F.def sc__law_draw fun fa cdv Ar outer s H E hr => D__law_draw.2 T  fa cdv Ar outer s H E hr
/-! _law_mixed (0 box, 1 row, 2 left, 3 found, 4 k, 5 one) -/
abbrev s__law_mixed : Stmt := top 12
theorem sc__law_mixed : FnScope ["box", "row", "left", "found", "k", "one"] ["box", "row"] (defScope s__law_mixed) := ⟨rfl, rfl, rfl, by decide +kernel, rfl, by decide +kernel, by decide +kernel⟩
def D__law_mixed : {F : En → Option (Fl × En) // ∀ {P : Program} {w : World} {K : PySem.W.Frag} {mg : Str → Option Value} {base : Heap} (_ : Txt mg) (d__law_draw : Def P w K mg base 1 "_law_draw" G__law_draw) (f : Addr) (cdv : Value) (Ar : Around) (outer : List Env) (s : Shared) (H : Hp) (E : XK), Room 1 (Ar.deeper (envOfC "_law_mixed" (defScope s__law_mixed) s.heap.objs.size f cdv)) →
  SSs (cxOf CX0 P w K mg base ["box", "row", "left", "found", "k", "one"] "_law_mixed" (defScope s__law_mixed) f cdv Ar outer s H E).nox [2, 3, 4] (defBody s__law_mixed) F} := ⟨_, fun {P w K mg base} T d__law_draw f cdv Ar outer s H E hr =>
    (SSs.cons (SS.setLc (vs := [5]) 2 (by decide) rfl sc__law_mixed.nd (SIV.seq (SV.name 1)) (blkOk_by (own := [("one", 5)]) (by kernel_rfl)) (fun _ _ _ _ _ => (STg.name 5 (by decide) sc__law_mixed.nd)) (fun _ _ _ _ _ => SBs.nil) (fun _ _ _ _ _ => (SV.sx (SV.name 5))) (sw_true rfl rfl rfl (by decide +kernel)))
    (SSs.cons (SS.set 3 (by decide) sc__law_mixed.nd (SX.se (SX.lst SXs.nil)))
    (SSs.cons (SS.for PassesOwn.never rfl (SI.rng1 T.b_range (SEs.cons (SX.se (SX.callB cn_len rfl T.b_len (by decide +kernel) (SVs.cons (SV.name 1) SVs.nil))) SEs.nil) (hl := len1E)) (STg.name 4 (by decide) sc__law_mixed.nd) (SSs.one (SS.exp (SE.app 3 (SE.popAt 2 (SE.call d__law_draw (hr.mono (by decide)) (SA.lend 0 (SA.val (SX.se (SX.callB cn_len rfl T.b_len (by decide +kernel) (SVs.cons (SV.name 2) SVs.nil))) SA.nil))))))))
    (SSs.one (SS.ret (SE.mov 3))))))⟩
def G__law_mixed : Gn := mkG [2, 3, 4] 2 6 D__law_mixed.1
theorem ok__law_mixed (T : Txt mg) (F : FAt K mg "_law_mixed" s__law_mixed ["box", "row"]) (d__law_draw : Def P w K mg base 1 "_law_draw" G__law_draw) : Def P w K mg base 2 "_law_mixed" G__law_mixed := F.def sc__law_mixed fun fa cdv Ar outer s H E hr => D__law_mixed.2 T d__law_draw fa cdv Ar outer s H E hr
/-! _law_lane (0 one, 1 other) -/
abbrev s__law_lane : Stmt := top 13
theorem sc__law_lane : FnScope ["one", "other"] ["one", "other"] (defScope s__law_lane) := ⟨rfl, rfl, rfl, by decide +kernel, rfl, by decide +kernel, by decide +kernel⟩
def D__law_lane : {F : En → Option (Fl × En) // ∀ {P : Program} {w : World} {K : PySem.W.Frag} {mg : Str → Option Value} {base : Heap} (_ : Txt mg)  (f : Addr) (cdv : Value) (Ar : Around) (outer : List Env) (s : Shared) (H : Hp) (E : XK), Room 0 (Ar.deeper (envOfC "_law_lane" (defScope s__law_lane) s.heap.objs.size f cdv)) →
  SSs (cxOf CX0 P w K mg base ["one", "other"] "_law_lane" (defScope s__law_lane) f cdv Ar outer s H E).nox [] (defBody s__law_lane) F} := ⟨_, fun {P w K mg base} T  f cdv Ar outer s H E hr =>
    (SSs.one (SS.ret (SX.se (SX.tup (SXs.cons (SX.callB (cn_min rfl) rfl T.b_min (by decide +kernel) (SVs.cons (SV.name 0) (SVs.cons (SV.name 1) SVs.nil))) (SXs.cons (SX.callB (cn_max rfl) rfl T.b_max (by decide +kernel) (SVs.cons (SV.name 0) (SVs.cons (SV.name 1) SVs.nil))) SXs.nil))))))⟩
def G__law_lane : Gn := mkG [] 2 2 D__law_lane.1
theorem ok__law_lane (T : Txt mg) (F : FAt K mg "_law_lane" s__law_lane ["one", "other"])  : Def P w K mg base 1 "_law_lane" G__law_lane := F.def sc__law_lane fun fa cdv Ar outer s H E hr => D__law_lane.2 T  fa cdv Ar outer s H E hr
/-! _law_town (0 box, 1 many, 2 more, 3 names, 4 lanes, 5 k, 6 at, 7 far, 8 house) -/
abbrev s__law_town : Stmt := top 14
theorem sc__law_town : FnScope ["box", "many", "more", "names", "lanes", "k", "at", "far", "house"] ["box", "many", "more"] (defScope s__law_town) := ⟨rfl, rfl, rfl, by decide +kernel, rfl, by decide +kernel, by decide +kernel⟩
def D__law_town : {F : En → Option (Fl × En) // ∀ {P : Program} {w : World} {K : PySem.W.Frag} {mg : Str → Option Value} {base : Heap} (_ : Txt mg) (d__law_mixed : Def P w K mg base 2 "_law_mixed" G__law_mixed) (d__law_draw : Def P w K mg base 1 "_law_draw" G__law_draw) (d__law_lane : Def P w K mg base 1 "_law_lane" G__law_lane) (f : Addr) (cdv : Value) (Ar : Around) (outer : List Env) (s : Shared) (H : Hp) (E : XK), Room 2 (Ar.deeper (envOfC "_law_town" (defScope s__law_town) s.heap.objs.size f cdv)) →
  SSs (cxOf CX0 P w K mg base ["box", "many", "more", "names", "lanes", "k", "at", "far", "house"] "_law_town" (defScope s__law_town) f cdv Ar outer s H E).nox [3, 4, 5, 6, 7] (defBody s__law_town) F} := ⟨_, fun {P w K mg base} T d__law_mixed d__law_draw d__law_lane f cdv Ar outer s H E hr =>
    (SSs.cons (SS.set 3 (by decide) sc__law_town.nd (SE.call d__law_mixed (hr.mono (by decide)) (SA.lend 0 (SA.val (SX.se (SX.lc (vs := [8]) rfl sc__law_town.nd (SIV.rng1 T.b_range (SVs.cons (SV.name 1) SVs.nil) (hl := len1V)) (blkOk_by (own := [("house", 8)]) (by kernel_rfl)) (fun _ _ _ _ _ => (STg.name 8 (by decide) sc__law_town.nd)) (fun _ _ _ _ _ => SBs.nil) (fun _ _ _ _ _ => (SV.sx (SV.name 8))))) SA.nil))))
    (SSs.cons (SS.set 4 (by decide) sc__law_town.nd (SX.se (SX.lst SXs.nil)))
    (SSs.cons (SS.for PassesOwn.never rfl (SI.rng2 T.b_range (SEs.cons (SX.se SX.int) (SEs.cons (SE.mov 1) SEs.nil)) (hl := len2E)) (STg.name 5 (by decide) sc__law_town.nd) (SSs.one (SS.exp (SE.app 4 (SE.call d__law_lane (hr.mono (by decide)) (SA.val (SX.se (SV.sx (SV.ix ix_N (SV.name 3) (SV.name 5)))) (SA.val (SE.ixN 3 (SE.call d__law_draw (hr.mono (by decide)) (SA.lend 0 (SA.val (SE.mov 5) SA.nil)))) SA.nil)))))))
    (SSs.cons (SS.ite (SB.st (SB.cmp on_gt (SV.name 1) (SX.sv SX.int) rfl)) (SSs.one (SS.for PassesOwn.never rfl (SI.rng1 T.b_range (SEs.cons (SE.call d__law_draw (hr.mono (by decide)) (SA.lend 0 (SA.val (SX.se (SX.op on_add (SV.name 2) (SX.sv SX.int))) SA.nil))) SEs.nil) (hl := len1E)) (STg.name 5 (by decide) sc__law_town.nd) (SSs.cons (SS.set 6 (by decide) sc__law_town.nd (SE.call d__law_draw (hr.mono (by decide)) (SA.lend 0 (SA.val (SE.mov 1) SA.nil))))
    (SSs.cons (SS.set 7 (by decide) sc__law_town.nd (SE.op on_mod (SE.callTy cn_int rfl T.b_int (by decide +kernel) (SEs.cons (SE.op on_add (SX.se (SX.op on_add (SV.name 6) (SX.sv SX.int))) (SE.call d__law_draw (hr.mono (by decide)) (SA.lend 0 (SA.val (SX.se (SX.op on_sub (SV.name 1) (SX.sv SX.int))) SA.nil)))) SEs.nil)) (SE.mov 1)))
    (SSs.one (SS.exp (SE.app 4 (SX.se (SX.call d__law_lane (hr.mono (by decide)) (SVs.cons (SV.ix ix_N (SV.name 3) (SV.name 6)) (SVs.cons (SV.ix ix_N (SV.name 3) (SV.name 7)) SVs.nil))))))))))) SSs.nil)
    (SSs.one (SS.ret (SE.tup (SEs.cons (SE.mov 1) (SEs.cons (SE.callTy cn_tup rfl T.b_tuple (by decide +kernel) (SEs.cons (SE.call d__law_mixed (hr.mono (by decide)) (SA.lend 0 (SA.val (SE.mov 4) SA.nil))) SEs.nil)) SEs.nil)))))))))⟩
def G__law_town : Gn := mkG [3, 4, 5, 6, 7] 3 9 D__law_town.1
theorem ok__law_town (T : Txt mg) (F : FAt K mg "_law_town" s__law_town ["box", "many", "more"]) (d__law_mixed : Def P w K mg base 2 "_law_mixed" G__law_mixed) (d__law_draw : Def P w K mg base 1 "_law_draw" G__law_draw) (d__law_lane : Def P w K mg base 1 "_law_lane" G__law_lane) : Def P w K mg base 3 "_law_town" G__law_town := F.def sc__law_town fun fa cdv Ar outer s H E hr => D__law_town.2 T d__law_mixed d__law_draw d__law_lane fa cdv Ar outer s H E hr
/-! _law_script (0 box, 1 many, 2 least, 3 most, 4 house) -/
abbrev s__law_script : Stmt := top 15
theorem sc__law_script : FnScope ["box", "many", "least", "most", "house"] ["box", "many", "least", "most"] (defScope s__law_script) := ⟨rfl, rfl, rfl, by decide +kernel, rfl, by decide +kernel, by decide +kernel⟩
def D__law_script : {F : En → Option (Fl × En) // ∀ {P : Program} {w : World} {K : PySem.W.Frag} {mg : Str → Option Value} {base : Heap} (_ : Txt mg) (d__law_draw : Def P w K mg base 1 "_law_draw" G__law_draw) (f : Addr) (cdv : Value) (Ar : Around) (outer : List Env) (s : Shared) (H : Hp) (E : XK), Room 1 (Ar.deeper (envOfC "_law_script" (defScope s__law_script) s.heap.objs.size f cdv)) →
  SSs (cxOf CX0 P w K mg base ["box", "many", "least", "most", "house"] "_law_script" (defScope s__law_script) f cdv Ar outer s H E).nox [] (defBody s__law_script) F} := ⟨_, fun {P w K mg base} T d__law_draw f cdv Ar outer s H E hr =>
    (SSs.one (SS.ret (SE.callTy cn_tup rfl T.b_tuple (by decide +kernel) (SEs.cons (SE.lc (vs := [4]) rfl sc__law_script.nd (SI.rng1 T.b_range (SEs.cons (SE.mov 1) SEs.nil) (hl := len1E)) (blkOk_by (own := [("house", 4)]) (by kernel_rfl)) (fun _ _ _ _ _ => (STg.name 4 (by decide) sc__law_script.nd)) (fun _ _ _ _ _ => STs.nil) (fun _ _ _ _ _ => (SE.op on_add (SE.mov 2) (SE.call d__law_draw (hr.mono (by decide)) (SA.lend 0 (SA.val (SX.se (SX.op on_add (SX.sv (SX.op on_sub (SV.name 3) (SV.name 2))) (SX.sv SX.int))) SA.nil)))))) SEs.nil))))⟩
def G__law_script : Gn := mkG [] 4 5 D__law_script.1
theorem ok__law_script (T : Txt mg) (F : FAt K mg "_law_script" s__law_script ["box", "many", "least", "most"]) (d__law_draw : Def P w K mg base 1 "_law_draw" G__law_draw) : Def P w K mg base 2 "_law_script" G__law_script := F.def sc__law_script fun fa cdv Ar outer s H E hr => D__law_script.2 T d__law_draw fa cdv Ar outer s H E hr
/-! _law_number (0 told, 1 due) -/
abbrev s__law_number : Stmt := top 16
theorem sc__law_number : FnScope ["told", "due"] ["told", "due"] (defScope s__law_number) := ⟨rfl, rfl, rfl, by decide +kernel, rfl, by decide +kernel, by decide +kernel⟩
def D__law_number : {F : En → Option (Fl × En) // ∀ {P : Program} {w : World} {K : PySem.W.Frag} {mg : Str → Option Value} {base : Heap} (_ : Txt mg)  (f : Addr) (cdv : Value) (Ar : Around) (outer : List Env) (s : Shared) (H : Hp) (E : XK), Room 0 (Ar.deeper (envOfC "_law_number" (defScope s__law_number) s.heap.objs.size f cdv)) →
  SSs (cxOf CX0 P w K mg base ["told", "due"] "_law_number" (defScope s__law_number) f cdv Ar outer s H E).nox [] (defBody s__law_number) F} := ⟨_, fun {P w K mg base} T  f cdv Ar outer s H E hr =>
    (SSs.one (SS.ret (SX.se (SX.and (SX.sv (SX.isi (SV.name 0) (T := "int") (by decide) rfl T.b_isinstance rfl T.b_int (by decide +kernel))) (SX.and (SX.sv (SX.not (SX.sv (SX.isi (SV.name 0) (T := "bool") (by decide) rfl T.b_isinstance rfl T.b_bool (by decide +kernel))))) (SX.and (SX.sv (SX.not (SX.sv (SX.cmp on_lt (SV.name 0) (SV.name 1) rfl)))) (SX.one (SX.not (SX.sv (SX.cmp on_gt (SV.name 0) (SV.name 1) rfl))))))))))⟩
def G__law_number : Gn := mkG [] 2 2 D__law_number.1
theorem ok__law_number (T : Txt mg) (F : FAt K mg "_law_number" s__law_number ["told", "due"])  : Def P w K mg base 1 "_law_number" G__law_number := F.def sc__law_number fun fa cdv Ar outer s H E hr => D__law_number.2 T  fa cdv Ar outer s H E hr
/-! _law_row (0 told, 1 due, 2 k) -/
abbrev s__law_row : Stmt := top 17
theorem sc__law_row : FnScope ["told", "due", "k"] ["told", "due"] (defScope s__law_row) := ⟨rfl, rfl, rfl, by decide +kernel, rfl, by decide +kernel, by decide +kernel⟩
def D__law_row : {F : En → Option (Fl × En) // ∀ {P : Program} {w : World} {K : PySem.W.Frag} {mg : Str → Option Value} {base : Heap} (_ : Txt mg) (d__law_number : Def P w K mg base 1 "_law_number" G__law_number) (f : Addr) (cdv : Value) (Ar : Around) (outer : List Env) (s : Shared) (H : Hp) (E : XK), Room 1 (Ar.deeper (envOfC "_law_row" (defScope s__law_row) s.heap.objs.size f cdv)) →
  SSs (cxOf CX0 P w K mg base ["told", "due", "k"] "_law_row" (defScope s__law_row) f cdv Ar outer s H E).nox [] (defBody s__law_row) F} := ⟨_, fun {P w K mg base} T d__law_number f cdv Ar outer s H E hr =>
    (SSs.cons (SS.ite (SB.st (SWB.sb (SB.or (SB.not (SB.val (SX.sv (SX.isi (SV.name 0) (T := "tuple") (by decide) rfl T.b_isinstance rfl T.b_tuple (by decide +kernel))))) (SB.or1 (SB.cmp (on_ne hr.units) (SX.sv (SX.callB cn_len rfl T.b_len (by decide +kernel) (SVs.cons (SV.name 0) SVs.nil))) (SX.sv (SX.callB cn_len rfl T.b_len (by decide +kernel) (SVs.cons (SV.name 1) SVs.nil))) rfl))))) (SSs.one (SS.ret (SX.se SX.bl))) SSs.nil)
    (SSs.one (SS.ret (SX.se (SX.callB (cn_all rfl) rfl T.b_all (by decide +kernel) (SVs.cons (SX.sv (SX.lc (vs := [2]) rfl sc__law_row.nd (SIV.rng1 T.b_range (SVs.cons (SX.sv (SX.callB cn_len rfl T.b_len (by decide +kernel) (SVs.cons (SV.name 1) SVs.nil))) SVs.nil) (hl := len1V)) (blkOk_by (own := [("k", 2)]) (by kernel_rfl)) (fun _ _ _ _ _ => (STg.name 2 (by decide) sc__law_row.nd)) (fun _ _ _ _ _ => SBs.nil) (fun _ _ _ _ _ => (SX.call d__law_number (hr.mono (by decide)) (SVs.cons (SV.ix ix_N (SV.name 0) (SV.name 2)) (SVs.cons (SV.ix ix_N (SV.name 1) (SV.name 2)) SVs.nil)))))) SVs.nil))))))⟩
def G__law_row : Gn := mkG [] 2 3 D__law_row.1
theorem ok__law_row (T : Txt mg) (F : FAt K mg "_law_row" s__law_row ["told", "due"]) (d__law_number : Def P w K mg base 1 "_law_number" G__law_number) : Def P w K mg base 2 "_law_row" G__law_row := F.def sc__law_row fun fa cdv Ar outer s H E hr => D__law_row.2 T d__law_number fa cdv Ar outer s H E hr
/-! _law_whole (0 told, 1 many, 2 k) -/
abbrev s__law_whole : Stmt := top 18
theorem sc__law_whole : FnScope ["told", "many", "k"] ["told", "many"] (defScope s__law_whole) := ⟨rfl, rfl, rfl, by decide +kernel, rfl, by decide +kernel, by decide +kernel⟩
def D__law_whole : {F : En → Option (Fl × En) // ∀ {P : Program} {w : World} {K : PySem.W.Frag} {mg : Str → Option Value} {base : Heap} (_ : Txt mg)  (f : Addr) (cdv : Value) (Ar : Around) (outer : List Env) (s : Shared) (H : Hp) (E : XK), Room 0 (Ar.deeper (envOfC "_law_whole" (defScope s__law_whole) s.heap.objs.size f cdv)) →
  SSs (cxOf CX0 P w K mg base ["told", "many", "k"] "_law_whole" (defScope s__law_whole) f cdv Ar outer s H E).nox [] (defBody s__law_whole) F} := ⟨_, fun {P w K mg base} T  f cdv Ar outer s H E hr =>
    (SSs.cons (SS.ite (SB.st (SWB.sb (SB.or (SB.not (SB.val (SX.sv (SX.isi (SV.name 0) (T := "tuple") (by decide) rfl T.b_isinstance rfl T.b_tuple (by decide +kernel))))) (SB.or1 (SB.cmp (on_ne hr.units) (SX.sv (SX.callB cn_len rfl T.b_len (by decide +kernel) (SVs.cons (SV.name 0) SVs.nil))) (SV.name 1) rfl))))) (SSs.one (SS.ret (SX.se SX.bl))) SSs.nil)
    (SSs.one (SS.ret (SX.se (SX.callB (cn_all rfl) rfl T.b_all (by decide +kernel) (SVs.cons (SX.sv (SX.lc (vs := [2]) rfl sc__law_whole.nd (SIV.rng1 T.b_range (SVs.cons (SV.name 1) SVs.nil) (hl := len1V)) (blkOk_by (own := [("k", 2)]) (by kernel_rfl)) (fun _ _ _ _ _ => (STg.name 2 (by decide) sc__law_whole.nd)) (fun _ _ _ _ _ => SBs.nil) (fun _ _ _ _ _ => (SX.and (SX.sv (SX.isi (SV.ix ix_N (SV.name 0) (SV.name 2)) (T := "int") (by decide) rfl T.b_isinstance rfl T.b_int (by decide +kernel))) (SX.one (SX.not (SX.sv (SX.isi (SV.ix ix_N (SV.name 0) (SV.name 2)) (T := "bool") (by decide) rfl T.b_isinstance rfl T.b_bool (by decide +kernel))))))))) SVs.nil))))))⟩
def G__law_whole : Gn := mkG [] 2 3 D__law_whole.1
theorem ok__law_whole (T : Txt mg) (F : FAt K mg "_law_whole" s__law_whole ["told", "many"])  : Def P w K mg base 1 "_law_whole" G__law_whole := F.def sc__law_whole fun fa cdv Ar outer s H E hr => D__law_whole.2 T  fa cdv Ar outer s H E hr
/-! _law_days (0 days, 1 low, 2 counts, 3 before, 4 day, 5 found, 6 house) -/
abbrev s__law_days : Stmt := top 19
theorem sc__law_days : FnScope ["days", "low", "counts", "before", "day", "found", "house"] ["days", "low"] (defScope s__law_days) := ⟨rfl, rfl, rfl, by decide +kernel, rfl, by decide +kernel, by decide +kernel⟩
def D__law_days : {F : En → Option (Fl × En) // ∀ {P : Program} {w : World} {K : PySem.W.Frag} {mg : Str → Option Value} {base : Heap} (_ : Txt mg) (d__law_whole : Def P w K mg base 1 "_law_whole" G__law_whole) (d__law_row : Def P w K mg base 2 "_law_row" G__law_row) (f : Addr) (cdv : Value) (Ar : Around) (outer : List Env) (s : Shared) (H : Hp) (E : XK), Room 2 (Ar.deeper (envOfC "_law_days" (defScope s__law_days) s.heap.objs.size f cdv)) →
  SSs (cxOf CX0 P w K mg base ["days", "low", "counts", "before", "day", "found", "house"] "_law_days" (defScope s__law_days) f cdv Ar outer s H E).nox [2, 3, 4, 5, 6] (defBody s__law_days) F} := ⟨_, fun {P w K mg base} T d__law_whole d__law_row f cdv Ar outer s H E hr =>
    (SSs.cons (SS.ite (SB.st (SWB.sb (SB.or (SB.not (SB.val (SX.sv (SX.isi (SV.name 0) (T := "list") (by decide) rfl T.b_isinstance rfl T.b_list (by decide +kernel))))) (SB.or1 (SB.cmp (on_ne hr.units) (SX.sv (SX.callB cn_len rfl T.b_len (by decide +kernel) (SVs.cons (SV.name 0) SVs.nil))) (SX.sv (SX.callB (cn_max rfl) rfl T.b_max (by decide +kernel) (SVs.cons (SV.name 1) SVs.nil))) rfl))))) (SSs.one (SS.ret (SX.se SX.bl))) SSs.nil)
    (SSs.cons (SS.setLc (vs := [6]) 2 (by decide) rfl sc__law_days.nd (SIV.seq (SV.name 1)) (blkOk_by (own := [("house", 6)]) (by kernel_rfl)) (fun _ _ _ _ _ => (STg.name 6 (by decide) sc__law_days.nd)) (fun _ _ _ _ _ => SBs.nil) (fun _ _ _ _ _ => SX.int) (sw_true rfl rfl rfl (by decide +kernel)))
    (SSs.cons (SS.set 3 (by decide) sc__law_days.nd (SX.se (SX.lst SXs.nil)))
    (SSs.cons (SS.for PassesOwn.never rfl (SI.seq (SE.frz 0)) (STg.name 4 (by decide) sc__law_days.nd) (SSs.cons (SS.ite (SB.st (SWB.sb (SB.or (SB.not (SB.val (SX.sv (SX.isi (SV.name 4) (T := "tuple") (by decide) rfl T.b_isinstance rfl T.b_tuple (by decide +kernel))))) (SB.or1 (SB.not (SB.val (SX.sv (SX.call d__law_whole (hr.mono (by decide)) (SVs.cons (SV.name 4) (SVs.cons (SX.sv (SX.callB cn_len rfl T.b_len (by decide +kernel) (SVs.cons (SV.name 4) SVs.nil))) SVs.nil)))))))))) (SSs.one (SS.ret (SX.se SX.bl))) SSs.nil)
    (SSs.cons (SS.set 5 (by decide) sc__law_days.nd (SX.se (SX.lc (vs := [6]) rfl sc__law_days.nd (SIV.rng1 T.b_range (SVs.cons (SX.sv (SX.callB cn_len rfl T.b_len (by decide +kernel) (SVs.cons (SV.name 1) SVs.nil))) SVs.nil) (hl := len1V)) (blkOk_by (own := [("house", 6)]) (by kernel_rfl)) (fun _ _ _ _ _ => (STg.name 6 (by decide) sc__law_days.nd)) (fun _ _ _ _ _ => (SBs.one (SB.cmp on_in (SV.name 6) (SV.name 4) rfl))) (fun _ _ _ _ _ => (SV.sx (SV.name 6))))))
    (SSs.cons (SS.ite (SB.st (SWB.sb (SB.or (SB.cmp (on_eq hr.units) (SV.name 5) (SX.sv (SX.lst SXs.nil)) rfl) (SB.or (SB.not (SB.val (SX.sv (SX.call d__law_row (hr.mono (by decide)) (SVs.cons (SV.name 4) (SVs.cons (SV.name 5) SVs.nil)))))) (SB.or1 (SB.cmp (on_ne hr.units) (SX.sv (SX.lc (vs := [6]) rfl sc__law_days.nd (SIV.seq (SV.name 3)) (blkOk_by (own := [("house", 6)]) (by kernel_rfl)) (fun _ _ _ _ _ => (STg.name 6 (by decide) sc__law_days.nd)) (fun _ _ _ _ _ => (SBs.one (SB.cmp on_notIn (SV.name 6) (SV.name 5) rfl))) (fun _ _ _ _ _ => (SV.sx (SV.name 6))))) (SX.sv (SX.lst SXs.nil)) rfl)))))) (SSs.one (SS.ret (SX.se SX.bl))) SSs.nil)
    (SSs.cons (SS.for PassesOwn.never rfl (SI.seq (SE.frz 5)) (STg.name 6 (by decide) sc__law_days.nd) (SSs.one (SS.augSub 2 in_addN (SE.mov 6) (SX.se SX.int))))
    (SSs.one (SS.set 3 (by decide) sc__law_days.nd (SE.mov 5))))))))
    (SSs.one (SS.ret (SX.se (SX.cmp (on_eq hr.units) (SX.sv (SX.callTy cn_tup rfl T.b_tuple (by decide +kernel) (SVs.cons (SV.name 2) SVs.nil))) (SV.name 1) rfl))))))))⟩
def G__law_days : Gn := mkG [2, 3, 4, 5, 6] 2 7 D__law_days.1
theorem ok__law_days (T : Txt mg) (F : FAt K mg "_law_days" s__law_days ["days", "low"]) (d__law_whole : Def P w K mg base 1 "_law_whole" G__law_whole) (d__law_row : Def P w K mg base 2 "_law_row" G__law_row) : Def P w K mg base 3 "_law_days" G__law_days := F.def sc__law_days fun fa cdv Ar outer s H E hr => D__law_days.2 T d__law_whole d__law_row fa cdv Ar outer s H E hr
/-! _law_cost (0 plan, 1 middle, 2 entry) -/
abbrev s__law_cost : Stmt := top 20
theorem sc__law_cost : FnScope ["plan", "middle", "entry"] ["plan"] (defScope s__law_cost) := ⟨rfl, rfl, rfl, by decide +kernel, rfl, by decide +kernel, by decide +kernel⟩
def D__law_cost : {F : En → Option (Fl × En) // ∀ {P : Program} {w : World} {K : PySem.W.Frag} {mg : Str → Option Value} {base : Heap} (_ : Txt mg)  (f : Addr) (cdv : Value) (Ar : Around) (outer : List Env) (s : Shared) (H : Hp) (E : XK), Room 0 (Ar.deeper (envOfC "_law_cost" (defScope s__law_cost) s.heap.objs.size f cdv)) →
  SSs (cxOf CX0 P w K mg base ["plan", "middle", "entry"] "_law_cost" (defScope s__law_cost) f cdv Ar outer s H E).nox [] (defBody s__law_cost) F} := ⟨_, fun {P w K mg base} T  f cdv Ar outer s H E hr =>
    (SSs.one (SS.ret (SX.se (SX.callB (cn_min rfl) rfl T.b_min (by decide +kernel) (SVs.cons (SX.sv (SX.lc (vs := [1]) rfl sc__law_cost.nd (SIV.rng2 T.b_range (SVs.cons (SX.sv (SX.callB (cn_min rfl) rfl T.b_min (by decide +kernel) (SVs.cons (SV.name 0) SVs.nil))) (SVs.cons (SX.sv (SX.op on_add (SX.sv (SX.callB (cn_max rfl) rfl T.b_max (by decide +kernel) (SVs.cons (SV.name 0) SVs.nil))) (SX.sv SX.int))) SVs.nil)) (hl := len2V)) (blkOk_by (own := [("middle", 1)]) (by kernel_rfl)) (fun _ _ _ _ _ => (STg.name 1 (by decide) sc__law_cost.nd)) (fun _ _ _ _ _ => SBs.nil) (fun _ _ _ _ _ => (SX.callB (cn_sum rfl) rfl T.b_sum (by decide +kernel) (SVs.cons (SX.sv (SX.lc (vs := [2]) rfl sc__law_cost.nd (SIV.seq (SV.name 0)) (blkOk_by (own := [("entry", 2)]) (by kernel_rfl)) (fun _ _ _ _ _ => (STg.name 2 (by decide) sc__law_cost.nd)) (fun _ _ _ _ _ => SBs.nil) (fun _ _ _ _ _ => (SX.callB cn_abs rfl T.b_abs (by decide +kernel) (SVs.cons (SX.sv (SX.op on_sub (SV.name 2) (SV.name 1))) SVs.nil))))) SVs.nil))))) SVs.nil)))))⟩
def G__law_cost : Gn := mkG [] 1 3 D__law_cost.1
theorem ok__law_cost (T : Txt mg) (F : FAt K mg "_law_cost" s__law_cost ["plan"])  : Def P w K mg base 1 "_law_cost" G__law_cost := F.def sc__law_cost fun fa cdv Ar outer s H E hr => D__law_cost.2 T  fa cdv Ar outer s H E hr
/-! law (0 script, 1 box, 2 many, 3 town, 4 most, 5 plan, 6 low, 7 days, 8 drawn, 9 turn, 10 start, 11 due, 12 house, 13 entry, 14 day) -/
abbrev s_law : Stmt := top 21
theorem sc_law : FnScope ["script", "box", "many", "town", "most", "plan", "low", "days", "drawn", "turn", "start", "due", "house", "entry", "day"] ["script"] (defScope s_law) := ⟨rfl, rfl, rfl, by decide +kernel, rfl, by decide +kernel, by decide +kernel⟩
def D_law : {F : En → Option (Fl × En) // ∀ {P : Program} {w : World} {K : PySem.W.Frag} {mg : Str → Option Value} {base : Heap} (_ : Txt mg) (d__law_digits : Def P w K mg base 2 "_law_digits" G__law_digits) (d__law_draw : Def P w K mg base 1 "_law_draw" G__law_draw) (d__law_town : Def P w K mg base 3 "_law_town" G__law_town) (d__law_script : Def P w K mg base 2 "_law_script" G__law_script) (d__law_row : Def P w K mg base 2 "_law_row" G__law_row) (d_lowered : Def P w K mg base 2 "lowered" G_lowered) (d_days_of : Def P w K mg base 3 "days_of" G_days_of) (d_summed : Def P w K mg base 2 "summed" G_summed) (d__law_days : Def P w K mg base 3 "_law_days" G__law_days) (d__law_number : Def P w K mg base 1 "_law_number" G__law_number) (d__law_cost : Def P w K mg base 1 "_law_cost" G__law_cost) (d_cost_of : Def P w K mg base 1 "cost_of" G_cost_of) (f : Addr) (cdv : Value) (Ar : Around) (outer : List Env) (s : Shared) (H : Hp) (E : XK), Room 3 (Ar.deeper (envOfC "law" (defScope s_law) s.heap.objs.size f cdv)) →
  SSs (cxOf CX0 P w K mg base ["script", "box", "many", "town", "most", "plan", "low", "days", "drawn", "turn", "start", "due", "house", "entry", "day"] "law" (defScope s_law) f cdv Ar outer s H E).nox [1, 2, 3, 4, 5, 6, 7, 8, 9, 10, 11] (defBody s_law) F} := ⟨_, fun {P w K mg base} T d__law_digits d__law_draw d__law_town d__law_script d__law_row d_lowered d_days_of d_summed d__law_days d__law_number d__law_cost d_cost_of f cdv Ar outer s H E hr =>
    (SSs.cons (SS.set 1 (by decide) sc_law.nd (SX.se (SX.lst (SXs.cons (SX.call d__law_digits (hr.mono (by decide)) (SVs.cons (SV.name 0) (SVs.cons (SX.sv SX.int) SVs.nil))) (SXs.cons SX.int SXs.nil)))))
    (SSs.cons (SS.set 2 (by decide) sc_law.nd (SE.op on_add (SX.se SX.int) (SE.call d__law_draw (hr.mono (by decide)) (SA.lend 1 (SA.val (SX.se SX.int) SA.nil)))))
    (SSs.cons (SS.set 3 (by decide) sc_law.nd (SE.call d__law_town (hr.mono (by decide)) (SA.lend 1 (SA.val (SE.mov 2) (SA.val (SX.se SX.int) SA.nil)))))
    (SSs.cons (SS.set 4 (by decide) sc_law.nd (SE.ix (SX.se (SX.lst (SXs.cons SX.int (SXs.cons SX.int (SXs.cons SX.int (SXs.cons SX.int (SXs.cons SX.int SXs.nil))))))) (SE.call d__law_draw (hr.mono (by decide)) (SA.lend 1 (SA.val (SX.se SX.int) SA.nil)))))
    (SSs.cons (SS.set 5 (by decide) sc_law.nd (SE.call d__law_script (hr.mono (by decide)) (SA.lend 1 (SA.val (SE.mov 2) (SA.val (SX.se (SX.un un_negN (SV.name 4))) (SA.val (SE.mov 4) SA.nil))))))
    (SSs.cons (SS.set 6 (by decide) sc_law.nd (SX.se (SX.callTy cn_tup rfl T.b_tuple (by decide +kernel) (SVs.cons (SX.sv (SX.lc (vs := [13]) rfl sc_law.nd (SIV.seq (SV.name 5)) (blkOk_by (own := [("entry", 13)]) (by kernel_rfl)) (fun _ _ _ _ _ => (STg.name 13 (by decide) sc_law.nd)) (fun _ _ _ _ _ => SBs.nil) (fun _ _ _ _ _ => (SX.op on_sub (SV.name 13) (SX.sv (SX.callB (cn_min rfl) rfl T.b_min (by decide +kernel) (SVs.cons (SV.name 5) SVs.nil))))))) SVs.nil))))
    (SSs.cons (SS.ite (SB.st (SWB.sb (SB.or (SB.not (SB.val (SX.sv (SX.call d__law_row (hr.mono (by decide)) (SVs.cons (SX.sv (SX.call d_lowered (hr.mono (by decide)) (SVs.cons (SV.name 5) SVs.nil))) (SVs.cons (SV.name 6) SVs.nil)))))) (SB.or1 (SB.not (SB.val (SX.sv (SX.call d__law_row (hr.mono (by decide)) (SVs.cons (SX.sv (SX.call d_lowered (hr.mono (by decide)) (SVs.cons (SV.name 6) SVs.nil))) (SVs.cons (SV.name 6) SVs.nil)))))))))) (SSs.one (SS.ret (SX.se SX.bl))) SSs.nil)
    (SSs.cons (SS.set 7 (by decide) sc_law.nd (SX.se (SX.call d_days_of (hr.mono (by decide)) (SVs.cons (SV.name 5) SVs.nil))))
    (SSs.cons (SS.ite (SB.st (SWB.sb (SB.or (SB.not (SB.val (SX.sv (SX.call d__law_days (hr.mono (by decide)) (SVs.cons (SV.name 7) (SVs.cons (SV.name 6) SVs.nil)))))) (SB.or1 (SB.not (SB.val (SX.sv (SX.call d__law_row (hr.mono (by decide)) (SVs.cons (SX.sv (SX.call d_summed (hr.mono (by decide)) (SVs.cons (SV.name 3) (SVs.cons (SV.name 7) SVs.nil)))) (SVs.cons (SV.name 6) SVs.nil)))))))))) (SSs.one (SS.ret (SX.se SX.bl))) SSs.nil)
    (SSs.cons (SS.ite (SB.st (SWB.sb (SB.and (SB.cmp on_le (SX.sv (SX.callB (cn_max rfl) rfl T.b_max (by decide +kernel) (SVs.cons (SV.name 6) SVs.nil))) (SX.sv SX.int) rfl) (SB.and1 (SB.not (SB.val (SX.sv (SX.call d__law_days (hr.mono (by decide)) (SVs.cons (SX.sv (SX.call d_days_of (hr.mono (by decide)) (SVs.cons (SV.name 6) SVs.nil))) (SVs.cons (SV.name 6) SVs.nil)))))))))) (SSs.one (SS.ret (SX.se SX.bl))) SSs.nil)
    (SSs.cons (SS.ite (SB.st (SWB.sb (SB.or (SB.not (SB.val (SX.sv (SX.call d__law_number (hr.mono (by decide)) (SVs.cons (SX.sv (SX.call d_cost_of (hr.mono (by decide)) (SVs.cons (SV.name 5) SVs.nil))) (SVs.cons (SX.sv (SX.call d__law_cost (hr.mono (by decide)) (SVs.cons (SV.name 5) SVs.nil))) SVs.nil)))))) (SB.or1 (SB.not (SB.val (SX.sv (SX.call d__law_number (hr.mono (by decide)) (SVs.cons (SX.sv (SX.call d_cost_of (hr.mono (by decide)) (SVs.cons (SV.name 6) SVs.nil))) (SVs.cons (SX.sv (SX.call d__law_cost (hr.mono (by decide)) (SVs.cons (SV.name 5) SVs.nil))) SVs.nil)))))))))) (SSs.one (SS.ret (SX.se SX.bl))) SSs.nil)
    (SSs.cons (SS.set 8 (by decide) sc_law.nd (SX.se (SX.lst SXs.nil)))
    (SSs.cons (SS.for PassesOwn.never rfl (SI.rng1 T.b_range (SEs.cons (SE.call d__law_draw (hr.mono (by decide)) (SA.lend 1 (SA.val (SX.se SX.int) SA.nil))) SEs.nil) (hl := len1E)) (STg.name 9 (by decide) sc_law.nd) (SSs.cons (SS.set 10 (by decide) sc_law.nd (SE.call d__law_draw (hr.mono (by decide)) (SA.lend 1 (SA.val (SE.mov 2) SA.nil))))
    (SSs.one (SS.exp (SE.app 8 (SE.callTy cn_tup rfl T.b_tuple (by decide +kernel) (SEs.cons (SE.lc (vs := [12]) rfl sc_law.nd (SI.rng2 T.b_range (SEs.cons (SE.mov 10) (SEs.cons (SE.mov 2) SEs.nil)) (hl := len2E)) (blkOk_by (own := [("house", 12)]) (by kernel_rfl)) (fun _ _ _ _ _ => (STg.name 12 (by decide) sc_law.nd)) (fun _ _ _ _ _ => (STs.one (SWT.st (ST.or (SB.st (SB.cmp (on_eq hr.units) (SV.name 12) (SV.name 10) rfl)) (ST.or1 (ST.cmp (on_eq hr.units) (SE.call d__law_draw (hr.mono (by decide)) (SA.lend 1 (SA.val (SX.se SX.int) SA.nil))) (SX.se SX.int) rfl)))))) (fun _ _ _ _ _ => (SE.mov 12))) SEs.nil)))))))
    (SSs.cons (SS.setLc (vs := [12]) 11 (by decide) rfl sc_law.nd (SIV.rng1 T.b_range (SVs.cons (SV.name 2) SVs.nil) (hl := len1V)) (blkOk_by (own := [("house", 12)]) (by kernel_rfl)) (fun _ _ _ _ _ => (STg.name 12 (by decide) sc_law.nd)) (fun _ _ _ _ _ => SBs.nil) (fun _ _ _ _ _ => (SX.callB cn_len rfl T.b_len (by decide +kernel) (SVs.cons (SX.sv (SX.lc (vs := [14]) rfl sc_law.nd (SIV.seq (SV.name 8)) (blkOk_by (own := [("day", 14)]) (by kernel_rfl)) (fun _ _ _ _ _ => (STg.name 14 (by decide) sc_law.nd)) (fun _ _ _ _ _ => (SBs.one (SB.cmp on_in (SV.name 12) (SV.name 14) rfl))) (fun _ _ _ _ _ => (SV.sx (SV.name 14))))) SVs.nil))) (sw_true rfl rfl rfl (by decide +kernel)))
    (SSs.one (SS.ret (SX.se (SX.call d__law_row (hr.mono (by decide)) (SVs.cons (SX.sv (SX.call d_summed (hr.mono (by decide)) (SVs.cons (SV.name 3) (SVs.cons (SV.name 8) SVs.nil)))) (SVs.cons (SV.name 11) SVs.nil))))))))))))))))))))⟩
def G_law : Gn := mkG [1, 2, 3, 4, 5, 6, 7, 8, 9, 10, 11] 1 15 D_law.1
theorem ok_law (T : Txt mg) (F : FAt K mg "law" s_law ["script"]) (d__law_digits : Def P w K mg base 2 "_law_digits" G__law_digits) (d__law_draw : Def P w K mg base 1 "_law_draw" G__law_draw) (d__law_town : Def P w K mg base 3 "_law_town" G__law_town) (d__law_script : Def P w K mg base 2 "_law_script" G__law_script) (d__law_row : Def P w K mg base 2 "_law_row" G__law_row) (d_lowered : Def P w K mg base 2 "lowered" G_lowered) (d_days_of : Def P w K mg base 3 "days_of" G_days_of) (d_summed : Def P w K mg base 2 "summed" G_summed) (d__law_days : Def P w K mg base 3 "_law_days" G__law_days) (d__law_number : Def P w K mg base 1 "_law_number" G__law_number) (d__law_cost : Def P w K mg base 1 "_law_cost" G__law_cost) (d_cost_of : Def P w K mg base 1 "cost_of" G_cost_of) : Def P w K mg base 4 "law" G_law := F.def sc_law fun fa cdv Ar outer s H E hr => D_law.2 T d__law_digits d__law_draw d__law_town d__law_script d__law_row d_lowered d_days_of d_summed d__law_days d__law_number d__law_cost d_cost_of fa cdv Ar outer s H E hr
end
abbrev lawK : Nat := 4
theorem all_ok {P : Program} {w : World} {K : PySem.W.Frag} {mg : Str → Option Value} {base : Heap} (T : Txt mg) (F_plus : FAt K mg "plus" s_plus ["one", "other"]) (F_minus : FAt K mg "minus" s_minus ["one", "other"]) (F_lowered : FAt K mg "lowered" s_lowered ["script"]) (F_days_of : FAt K mg "days_of" s_days_of ["script"]) (F_cost_of : FAt K mg "cost_of" s_cost_of ["script"]) (F_summed : FAt K mg "summed" s_summed ["town", "days"]) (F__law_cell : FAt K mg "_law_cell" s__law_cell ["script", "k"]) (F__law_digits : FAt K mg "_law_digits" s__law_digits ["script", "last"]) (F__law_draw : FAt K mg "_law_draw" s__law_draw ["box", "many"]) (F__law_mixed : FAt K mg "_law_mixed" s__law_mixed ["box", "row"]) (F__law_lane : FAt K mg "_law_lane" s__law_lane ["one", "other"]) (F__law_town : FAt K mg "_law_town" s__law_town ["box", "many", "more"]) (F__law_script : FAt K mg "_law_script" s__law_script ["box", "many", "least", "most"]) (F__law_number : FAt K mg "_law_number" s__law_number ["told", "due"]) (F__law_row : FAt K mg "_law_row" s__law_row ["told", "due"]) (F__law_whole : FAt K mg "_law_whole" s__law_whole ["told", "many"]) (F__law_days : FAt K mg "_law_days" s__law_days ["days", "low"]) (F__law_cost : FAt K mg "_law_cost" s__law_cost ["plan"]) {f : Addr} {fd : FuncData} (Fu : Fun K "law" "law" s_law f fd) : FnOk P w K mg base CX0 4 f fd ["script"] (spG K G_law) := by
  have d_plus := ok_plus (P := P) (w := w) (base := base) T F_plus 
  have d_minus := ok_minus (P := P) (w := w) (base := base) T F_minus 
  have d_lowered := ok_lowered (P := P) (w := w) (base := base) T F_lowered d_minus
  have d_days_of := ok_days_of (P := P) (w := w) (base := base) T F_days_of d_lowered
  have d_cost_of := ok_cost_of (P := P) (w := w) (base := base) T F_cost_of 
  have d_summed := ok_summed (P := P) (w := w) (base := base) T F_summed d_plus
  have d__law_cell := ok__law_cell (P := P) (w := w) (base := base) T F__law_cell 
  have d__law_digits := ok__law_digits (P := P) (w := w) (base := base) T F__law_digits d__law_cell
  have d__law_draw := ok__law_draw (P := P) (w := w) (base := base) T F__law_draw 
  have d__law_mixed := ok__law_mixed (P := P) (w := w) (base := base) T F__law_mixed d__law_draw
  have d__law_lane := ok__law_lane (P := P) (w := w) (base := base) T F__law_lane 
  have d__law_town := ok__law_town (P := P) (w := w) (base := base) T F__law_town d__law_mixed d__law_draw d__law_lane
  have d__law_script := ok__law_script (P := P) (w := w) (base := base) T F__law_script d__law_draw
  have d__law_number := ok__law_number (P := P) (w := w) (base := base) T F__law_number 
  have d__law_row := ok__law_row (P := P) (w := w) (base := base) T F__law_row d__law_number
  have d__law_whole := ok__law_whole (P := P) (w := w) (base := base) T F__law_whole 
  have d__law_days := ok__law_days (P := P) (w := w) (base := base) T F__law_days d__law_whole d__law_row
  have d__law_cost := ok__law_cost (P := P) (w := w) (base := base) T F__law_cost 
  exact fn_ok Fu sc_law fun cdv Ar outer s H E hr => D_law.2 T d__law_digits d__law_draw d__law_town d__law_script d__law_row d_lowered d_days_of d_summed d__law_days d__law_number d__law_cost d_cost_of f cdv Ar outer s H E hr
--USED tuple zip min max range enumerate sorted len sum abs int isinstance bool all list
--DEFS plus minus lowered days_of cost_of summed _law_cell _law_digits _law_draw _law_mixed _law_lane _law_town _law_script _law_number _law_row _law_whole _law_days _law_cost law
end LT

set_option Elab.async false
set_option linter.all false
set_option maxRecDepth 100000
set_option maxHeartbeats 2000000
namespace LT
open PySem PySem.Spec PyProof.Rows L2
/-! ### the drawn numbers -/
def bx (L : List Int) (n : Nat) : D := .lst true [.lst true (L.map D.int), .int (n : Int)]
def dr (L : List Int) (n : Nat) (m : Int) : Int := if n < L.length then (L.getD n 0) % m else 0
theorem dr_range {L : List Int} {n : Nat} {m : Int} (h : 0 < m) : 0 ≤ dr L n m ∧ dr L n m < m := by
  unfold dr
  split
  · exact ⟨Int.emod_nonneg _ (by omega), Int.emod_lt_of_pos _ h⟩
  · exact ⟨Int.le_refl _, h⟩
theorem kIx_bx1 (L : List Int) (n : Nat) : kIx (.lst true [.lst true (L.map D.int), .int (n : Int)]) (.int 1) = some (.int n) := rfl
theorem kIx_bx0 (L : List Int) (n : Nat) : kIx (.lst true [.lst true (L.map D.int), .int (n : Int)]) (.int 0) = some (.lst true (L.map D.int)) := rfl
theorem kIx_bx0' (L : List Int) (d : D) : kIx (.lst true [.lst true (L.map D.int), d]) (.int 0) = some (.lst true (L.map D.int)) := rfl
theorem kIx_nt {L : List Int} {o : Bool} {n : Nat} (h : n < L.length) : kIx (.lst o (L.map D.int)) (.int (n : Int)) = some (.int (L.getD n 0)) :=
  kIx_nat rfl (by rw [List.getElem?_map, List.getElem?_eq_getElem h]; simp [List.getD, List.getElem?_eq_getElem h])
theorem kIx_tnt {L : List Int} {n : Nat} (h : n < L.length) : kIx (.tup (L.map D.int)) (.int (n : Int)) = some (.int (L.getD n 0)) :=
  kIx_nat rfl (by rw [List.getElem?_map, List.getElem?_eq_getElem h]; simp [List.getD, List.getElem?_eq_getElem h])
theorem kIx_fnt {L : List Int} {n : Nat} (h : n < L.length) : kIx (.frl (L.map D.int)) (.int (n : Int)) = some (.int (L.getD n 0)) :=
  kIx_nat rfl (by rw [List.getElem?_map, List.getElem?_eq_getElem h]; simp [List.getD, List.getElem?_eq_getElem h])
theorem ixN_1of2 : ixN 2 1 = some 1 := rfl
theorem draw_val (L : List Int) (n : Nat) {m : Int} (hm : 0 < m) : G__law_draw [bx L n, .int m] = some (.int (dr L n m), [bx L (n + 1), .int m]) := by
  by_cases h : n < L.length
  · simp [G__law_draw, D__law_draw, bx, dr, h, hm, kIx_bx1, kIx_bx0', kIx_nt h, ixN_1of2, mkG, seqS, forS, Wp_some, asgS, ftN, ftTup, ftCons, ftNil, retS, expS, ifS, augS, subS, setK, isLst, getK, augSubS, appE, popE, rd, nj_int, nj_tup, nj_lst, nj_frl, nj_bl, nj_non, nj_str, bin2, bin2E, un1, callK, callE, cp, up, upB, asB, tst, tstE, consG, consE, tupG, lstG, tupE, lstE, andB, orB, notB, andV, orV, notV, ifV, andT, orT, notT, ifE, movN, frzN, ixNE, ixE, lendE, back, lenG, borG, maskF, seqV, seqE, rngV, rngE, enumV, enumE, zipV, zipE, wipeE, restE, yesB, yesT, kAdd, kAddI, kSub, kMul_c, kDiv_c, kMod_c, kPow_c, kLt, kLe, kGt, kGe, kIsN, kNotN, kNeg, kLen, kAbs, kInt, kids, kidsN, isiD, tyD, noOwn, noOwns, noShr, noShrs, fz, fzs, scV, optI, noI, slG, isTupD, chV, noOwns_nt, noShrs_nt, fzs_nt, noOwns_tups, noShrs_tups, fzs_tups, noOwns_append, kTup_ints, -List.map_map]
  · simp [G__law_draw, D__law_draw, bx, dr, h, hm, kIx_bx1, kIx_bx0', ixN_1of2, mkG, seqS, forS, Wp_some, asgS, ftN, ftTup, ftCons, ftNil, retS, expS, ifS, augS, subS, setK, isLst, getK, augSubS, appE, popE, rd, nj_int, nj_tup, nj_lst, nj_frl, nj_bl, nj_non, nj_str, bin2, bin2E, un1, callK, callE, cp, up, upB, asB, tst, tstE, consG, consE, tupG, lstG, tupE, lstE, andB, orB, notB, andV, orV, notV, ifV, andT, orT, notT, ifE, movN, frzN, ixNE, ixE, lendE, back, lenG, borG, maskF, seqV, seqE, rngV, rngE, enumV, enumE, zipV, zipE, wipeE, restE, yesB, yesT, kAdd, kAddI, kSub, kMul_c, kDiv_c, kMod_c, kPow_c, kLt, kLe, kGt, kGe, kIsN, kNotN, kNeg, kLen, kAbs, kInt, kids, kidsN, isiD, tyD, noOwn, noOwns, noShr, noShrs, fz, fzs, scV, optI, noI, slG, isTupD, chV, noOwns_nt, noShrs_nt, fzs_nt, noOwns_tups, noShrs_tups, fzs_tups, noOwns_append, kTup_ints, -List.map_map]
theorem cell_val (ns : List Int) (k : Nat) : G__law_cell [.frl (ns.map D.int), .int (k : Int)] = some (.int (ns.getD k 0), [.frl (ns.map D.int), .int (k : Int)]) := by
  by_cases h : k < ns.length
  · simp [G__law_cell, D__law_cell, h, kIx_fnt h, mkG, seqS, forS, Wp_some, asgS, ftN, ftTup, ftCons, ftNil, retS, expS, ifS, augS, subS, setK, isLst, getK, augSubS, appE, popE, rd, nj_int, nj_tup, nj_lst, nj_frl, nj_bl, nj_non, nj_str, bin2, bin2E, un1, callK, callE, cp, up, upB, asB, tst, tstE, consG, consE, tupG, lstG, tupE, lstE, andB, orB, notB, andV, orV, notV, ifV, andT, orT, notT, ifE, movN, frzN, ixNE, ixE, lendE, back, lenG, borG, maskF, seqV, seqE, rngV, rngE, enumV, enumE, zipV, zipE, wipeE, restE, yesB, yesT, kAdd, kAddI, kSub, kMul_c, kDiv_c, kMod_c, kPow_c, kLt, kLe, kGt, kGe, kIsN, kNotN, kNeg, kLen, kAbs, kInt, kids, kidsN, isiD, tyD, noOwn, noOwns, noShr, noShrs, fz, fzs, scV, optI, noI, slG, isTupD, chV, noOwns_nt, noShrs_nt, fzs_nt, noOwns_tups, noShrs_tups, fzs_tups, noOwns_append, kTup_ints, -List.map_map]
  · have e : ns[k]? = none := List.getElem?_eq_none (by omega)
    simp [G__law_cell, D__law_cell, h, e, mkG, seqS, forS, Wp_some, asgS, ftN, ftTup, ftCons, ftNil, retS, expS, ifS, augS, subS, setK, isLst, getK, augSubS, appE, popE, rd, nj_int, nj_tup, nj_lst, nj_frl, nj_bl, nj_non, nj_str, bin2, bin2E, un1, callK, callE, cp, up, upB, asB, tst, tstE, consG, consE, tupG, lstG, tupE, lstE, andB, orB, notB, andV, orV, notV, ifV, andT, orT, notT, ifE, movN, frzN, ixNE, ixE, lendE, back, lenG, borG, maskF, seqV, seqE, rngV, rngE, enumV, enumE, zipV, zipE, wipeE, restE, yesB, yesT, kAdd, kAddI, kSub, kMul_c, kDiv_c, kMod_c, kPow_c, kLt, kLe, kGt, kGe, kIsN, kNotN, kNeg, kLen, kAbs, kInt, kids, kidsN, isiD, tyD, noOwn, noOwns, noShr, noShrs, fz, fzs, scV, optI, noI, slG, isTupD, chV, noOwns_nt, noShrs_nt, fzs_nt, noOwns_tups, noShrs_tups, fzs_tups, noOwns_append, kTup_ints, -List.map_map]
/-- the slots while the digits are made -/
def DG (ns : List Int) (n : Nat) (e : En) : Prop := ∃ (L : List Int) (a b c d : D), e = [.frl (ns.map D.int), .int 24, .lst true (L.map D.int), a, b, c, d] ∧ L.length ≤ n
theorem mulOk_r {i j : Int} (h : -18446744073709551616 < j) (h2 : j < 18446744073709551616) : mulOk i j = true := hard_of (.inr ⟨h, h2⟩)
theorem mulOk_l {i j : Int} (h : -18446744073709551616 < i) (h2 : i < 18446744073709551616) : mulOk i j = true := hard_of (.inl ⟨h, h2⟩)
theorem below {n m : Nat} (h : n < m) (h2 : m ≤ 1000000) : n < sizeLine := Nat.lt_of_lt_of_le h (Nat.le_trans h2 size_big)
theorem under {n : Nat} (h : n ≤ 1000000) : n ≤ sizeLine := Nat.le_trans h size_big
theorem nt_snoc (L : List Int) (i : Int) : L.map D.int ++ [D.int i] = (L ++ [i]).map D.int := by simp
theorem seed1 (cell z : Int) (ns L : List Int) (c d : D) : Wp (asgS (up (bin2 kMod (callK kInt (consG (bin2 kAdd (bin2 kAdd (bin2 kMul (rd 4) fun x => some (D.int 48271)) (bin2 kMul (rd 3) fun x => some (D.int 69621))) fun x => some (D.int 11)) fun x => some [])) fun x => some (D.int 2147483647))) (ftN 6) [.frl (ns.map D.int), .int 24, .lst true (L.map D.int), .int z, .int cell, c, d]) (fun p => p.1 = .nx ∧ ∃ seed : Int, p.2 = [.frl (ns.map D.int), .int 24, .lst true (L.map D.int), .int z, .int cell, c, .int seed]) := by
  simp [mulOk_r, Wp_some, asgS, ftN, ftTup, ftCons, ftNil, retS, expS, ifS, augS, subS, setK, isLst, getK, augSubS, appE, popE, rd, nj_int, nj_tup, nj_lst, nj_frl, nj_bl, nj_non, nj_str, bin2, bin2E, un1, callK, callE, cp, up, upB, asB, tst, tstE, consG, consE, tupG, lstG, tupE, lstE, andB, orB, notB, andV, orV, notV, ifV, andT, orT, notT, ifE, movN, frzN, ixNE, ixE, lendE, back, lenG, borG, maskF, seqV, seqE, rngV, rngE, enumV, enumE, zipV, zipE, wipeE, restE, yesB, yesT, kAdd, kAddI, kSub, kMul_c, kDiv_c, kMod_c, kPow_c, kLt, kLe, kGt, kGe, kIsN, kNotN, kNeg, kLen, kAbs, kInt, kids, kidsN, isiD, tyD, noOwn, noOwns, noShr, noShrs, fz, fzs, scV, optI, noI, slG, isTupD, chV, noOwns_nt, noShrs_nt, fzs_nt, noOwns_tups, noShrs_tups, fzs_tups, noOwns_append, kTup_ints, -List.map_map]
theorem seed2 (cell z y seed : Int) (ns L : List Int) : Wp (asgS (up (bin2 kMod (callK kInt (consG (bin2 kAdd (bin2 kAdd (bin2 kMul (rd 6) fun x => some (D.int 16807)) (bin2 kMul (fun x => some (D.int 7)) (rd 5))) fun x => some (D.int 1)) fun x => some [])) fun x => some (D.int 2147483647))) (ftN 6) [.frl (ns.map D.int), .int 24, .lst true (L.map D.int), .int z, .int cell, .int y, .int seed]) (fun p => p.1 = .nx ∧ ∃ seed : Int, p.2 = [.frl (ns.map D.int), .int 24, .lst true (L.map D.int), .int z, .int cell, .int y, .int seed]) := by
  simp [mulOk_r, mulOk_l, Wp_some, asgS, ftN, ftTup, ftCons, ftNil, retS, expS, ifS, augS, subS, setK, isLst, getK, augSubS, appE, popE, rd, nj_int, nj_tup, nj_lst, nj_frl, nj_bl, nj_non, nj_str, bin2, bin2E, un1, callK, callE, cp, up, upB, asB, tst, tstE, consG, consE, tupG, lstG, tupE, lstE, andB, orB, notB, andV, orV, notV, ifV, andT, orT, notT, ifE, movN, frzN, ixNE, ixE, lendE, back, lenG, borG, maskF, seqV, seqE, rngV, rngE, enumV, enumE, zipV, zipE, wipeE, restE, yesB, yesT, kAdd, kAddI, kSub, kMul_c, kDiv_c, kMod_c, kPow_c, kLt, kLe, kGt, kGe, kIsN, kNotN, kNeg, kLen, kAbs, kInt, kids, kidsN, isiD, tyD, noOwn, noOwns, noShr, noShrs, fz, fzs, scV, optI, noI, slG, isTupD, chV, noOwns_nt, noShrs_nt, fzs_nt, noOwns_tups, noShrs_tups, fzs_tups, noOwns_append, kTup_ints, -List.map_map]
theorem digits_val (ns : List Int) : Wp (G__law_digits [.frl (ns.map D.int), .int 24]) fun q => ∃ L : List Int, L.length ≤ 1440 ∧ q = (.lst true (L.map D.int), [.frl (ns.map D.int), .int 24]) := by
  refine Wp.mkG rfl ?_
  simp only [D__law_digits]
  refine Wp.seq ?_
  simp [Wp_some, asgS, ftN, ftTup, ftCons, ftNil, retS, expS, ifS, augS, subS, setK, isLst, getK, augSubS, appE, popE, rd, nj_int, nj_tup, nj_lst, nj_frl, nj_bl, nj_non, nj_str, bin2, bin2E, un1, callK, callE, cp, up, upB, asB, tst, tstE, consG, consE, tupG, lstG, tupE, lstE, andB, orB, notB, andV, orV, notV, ifV, andT, orT, notT, ifE, movN, frzN, ixNE, ixE, lendE, back, lenG, borG, maskF, seqV, seqE, rngV, rngE, enumV, enumE, zipV, zipE, wipeE, restE, yesB, yesT, kAdd, kAddI, kSub, kMul_c, kDiv_c, kMod_c, kPow_c, kLt, kLe, kGt, kGe, kIsN, kNotN, kNeg, kLen, kAbs, kInt, kids, kidsN, isiD, tyD, noOwn, noOwns, noShr, noShrs, fz, fzs, scV, optI, noI, slG, isTupD, chV, noOwns_nt, noShrs_nt, fzs_nt, noOwns_tups, noShrs_tups, fzs_tups, noOwns_append, kTup_ints, -List.map_map]
  refine Wp.then (DG ns 1440) ?_ ?_
  · refine Wp.forR (n := 24) (e0 := [.frl (ns.map D.int), .int 24, .lst true [], .jnk, .jnk, .jnk, .jnk]) (by simp [rngK_i, Wp_some, asgS, ftN, ftTup, ftCons, ftNil, retS, expS, ifS, augS, subS, setK, isLst, getK, augSubS, appE, popE, rd, nj_int, nj_tup, nj_lst, nj_frl, nj_bl, nj_non, nj_str, bin2, bin2E, un1, callK, callE, cp, up, upB, asB, tst, tstE, consG, consE, tupG, lstG, tupE, lstE, andB, orB, notB, andV, orV, notV, ifV, andT, orT, notT, ifE, movN, frzN, ixNE, ixE, lendE, back, lenG, borG, maskF, seqV, seqE, rngV, rngE, enumV, enumE, zipV, zipE, wipeE, restE, yesB, yesT, kAdd, kAddI, kSub, kMul_c, kDiv_c, kMod_c, kPow_c, kLt, kLe, kGt, kGe, kIsN, kNotN, kNeg, kLen, kAbs, kInt, kids, kidsN, isiD, tyD, noOwn, noOwns, noShr, noShrs, fz, fzs, scV, optI, noI, slG, isTupD, chV, noOwns_nt, noShrs_nt, fzs_nt, noOwns_tups, noShrs_tups, fzs_tups, noOwns_append, kTup_ints, -List.map_map]) (fun i => DG ns (60 * i)) ⟨[], _, _, _, _, rfl, Nat.le_refl _⟩ (fun i e hi hI => ?_) fun e h => ⟨rfl, h⟩
    obtain ⟨L, a, b, c, d, rfl, hL⟩ := hI
    simp [Wp_some, asgS, ftN, ftTup, ftCons, ftNil, retS, expS, ifS, augS, subS, setK, isLst, getK, augSubS, appE, popE, rd, nj_int, nj_tup, nj_lst, nj_frl, nj_bl, nj_non, nj_str, bin2, bin2E, un1, callK, callE, cp, up, upB, asB, tst, tstE, consG, consE, tupG, lstG, tupE, lstE, andB, orB, notB, andV, orV, notV, ifV, andT, orT, notT, ifE, movN, frzN, ixNE, ixE, lendE, back, lenG, borG, maskF, seqV, seqE, rngV, rngE, enumV, enumE, zipV, zipE, wipeE, restE, yesB, yesT, kAdd, kAddI, kSub, kMul_c, kDiv_c, kMod_c, kPow_c, kLt, kLe, kGt, kGe, kIsN, kNotN, kNeg, kLen, kAbs, kInt, kids, kidsN, isiD, tyD, noOwn, noOwns, noShr, noShrs, fz, fzs, scV, optI, noI, slG, isTupD, chV, noOwns_nt, noShrs_nt, fzs_nt, noOwns_tups, noShrs_tups, fzs_tups, noOwns_append, kTup_ints, -List.map_map]
    refine Wp.seq ?_
    simp [cell_val, Wp_some, asgS, ftN, ftTup, ftCons, ftNil, retS, expS, ifS, augS, subS, setK, isLst, getK, augSubS, appE, popE, rd, nj_int, nj_tup, nj_lst, nj_frl, nj_bl, nj_non, nj_str, bin2, bin2E, un1, callK, callE, cp, up, upB, asB, tst, tstE, consG, consE, tupG, lstG, tupE, lstE, andB, orB, notB, andV, orV, notV, ifV, andT, orT, notT, ifE, movN, frzN, ixNE, ixE, lendE, back, lenG, borG, maskF, seqV, seqE, rngV, rngE, enumV, enumE, zipV, zipE, wipeE, restE, yesB, yesT, kAdd, kAddI, kSub, kMul_c, kDiv_c, kMod_c, kPow_c, kLt, kLe, kGt, kGe, kIsN, kNotN, kNeg, kLen, kAbs, kInt, kids, kidsN, isiD, tyD, noOwn, noOwns, noShr, noShrs, fz, fzs, scV, optI, noI, slG, isTupD, chV, noOwns_nt, noShrs_nt, fzs_nt, noOwns_tups, noShrs_tups, fzs_tups, noOwns_append, kTup_ints, -List.map_map]
    generalize ((i : Nat) : Int) = z
    refine Wp.then (fun e => ∃ cell : Int, e = [.frl (ns.map D.int), .int 24, .lst true (L.map D.int), .int z, .int cell, c, d]) ?_ ?_
    · by_cases h : ns[i]?.getD 0 < 0
      · simp [h, mulOk_l, Wp_some, asgS, ftN, ftTup, ftCons, ftNil, retS, expS, ifS, augS, subS, setK, isLst, getK, augSubS, appE, popE, rd, nj_int, nj_tup, nj_lst, nj_frl, nj_bl, nj_non, nj_str, bin2, bin2E, un1, callK, callE, cp, up, upB, asB, tst, tstE, consG, consE, tupG, lstG, tupE, lstE, andB, orB, notB, andV, orV, notV, ifV, andT, orT, notT, ifE, movN, frzN, ixNE, ixE, lendE, back, lenG, borG, maskF, seqV, seqE, rngV, rngE, enumV, enumE, zipV, zipE, wipeE, restE, yesB, yesT, kAdd, kAddI, kSub, kMul_c, kDiv_c, kMod_c, kPow_c, kLt, kLe, kGt, kGe, kIsN, kNotN, kNeg, kLen, kAbs, kInt, kids, kidsN, isiD, tyD, noOwn, noOwns, noShr, noShrs, fz, fzs, scV, optI, noI, slG, isTupD, chV, noOwns_nt, noShrs_nt, fzs_nt, noOwns_tups, noShrs_tups, fzs_tups, noOwns_append, kTup_ints, -List.map_map]
      · simp [h, Wp_some, asgS, ftN, ftTup, ftCons, ftNil, retS, expS, ifS, augS, subS, setK, isLst, getK, augSubS, appE, popE, rd, nj_int, nj_tup, nj_lst, nj_frl, nj_bl, nj_non, nj_str, bin2, bin2E, un1, callK, callE, cp, up, upB, asB, tst, tstE, consG, consE, tupG, lstG, tupE, lstE, andB, orB, notB, andV, orV, notV, ifV, andT, orT, notT, ifE, movN, frzN, ixNE, ixE, lendE, back, lenG, borG, maskF, seqV, seqE, rngV, rngE, enumV, enumE, zipV, zipE, wipeE, restE, yesB, yesT, kAdd, kAddI, kSub, kMul_c, kDiv_c, kMod_c, kPow_c, kLt, kLe, kGt, kGe, kIsN, kNotN, kNeg, kLen, kAbs, kInt, kids, kidsN, isiD, tyD, noOwn, noOwns, noShr, noShrs, fz, fzs, scV, optI, noI, slG, isTupD, chV, noOwns_nt, noShrs_nt, fzs_nt, noOwns_tups, noShrs_tups, fzs_tups, noOwns_append, kTup_ints, -List.map_map]
    rintro e ⟨cell, rfl⟩
    by_cases h : (1000000000000000000 : Int) ≤ cell
    · simp [h, Wp_some, asgS, ftN, ftTup, ftCons, ftNil, retS, expS, ifS, augS, subS, setK, isLst, getK, augSubS, appE, popE, rd, nj_int, nj_tup, nj_lst, nj_frl, nj_bl, nj_non, nj_str, bin2, bin2E, un1, callK, callE, cp, up, upB, asB, tst, tstE, consG, consE, tupG, lstG, tupE, lstE, andB, orB, notB, andV, orV, notV, ifV, andT, orT, notT, ifE, movN, frzN, ixNE, ixE, lendE, back, lenG, borG, maskF, seqV, seqE, rngV, rngE, enumV, enumE, zipV, zipE, wipeE, restE, yesB, yesT, kAdd, kAddI, kSub, kMul_c, kDiv_c, kMod_c, kPow_c, kLt, kLe, kGt, kGe, kIsN, kNotN, kNeg, kLen, kAbs, kInt, kids, kidsN, isiD, tyD, noOwn, noOwns, noShr, noShrs, fz, fzs, scV, optI, noI, slG, isTupD, chV, noOwns_nt, noShrs_nt, fzs_nt, noOwns_tups, noShrs_tups, fzs_tups, noOwns_append, kTup_ints, -List.map_map]
      refine Wp.forR (n := 60) (e0 := [.frl (ns.map D.int), .int 24, .lst true (L.map D.int), .int z, .int cell, c, d]) (by simp [rngK_i, Wp_some, asgS, ftN, ftTup, ftCons, ftNil, retS, expS, ifS, augS, subS, setK, isLst, getK, augSubS, appE, popE, rd, nj_int, nj_tup, nj_lst, nj_frl, nj_bl, nj_non, nj_str, bin2, bin2E, un1, callK, callE, cp, up, upB, asB, tst, tstE, consG, consE, tupG, lstG, tupE, lstE, andB, orB, notB, andV, orV, notV, ifV, andT, orT, notT, ifE, movN, frzN, ixNE, ixE, lendE, back, lenG, borG, maskF, seqV, seqE, rngV, rngE, enumV, enumE, zipV, zipE, wipeE, restE, yesB, yesT, kAdd, kAddI, kSub, kMul_c, kDiv_c, kMod_c, kPow_c, kLt, kLe, kGt, kGe, kIsN, kNotN, kNeg, kLen, kAbs, kInt, kids, kidsN, isiD, tyD, noOwn, noOwns, noShr, noShrs, fz, fzs, scV, optI, noI, slG, isTupD, chV, noOwns_nt, noShrs_nt, fzs_nt, noOwns_tups, noShrs_tups, fzs_tups, noOwns_append, kTup_ints, -List.map_map]) (fun j e => ∃ (M : List Int) (cell : Int) (c : D), e = [.frl (ns.map D.int), .int 24, .lst true (M.map D.int), .int z, .int cell, c, d] ∧ M.length ≤ 60 * i + j) ⟨L, cell, _, rfl, by omega⟩ (fun j e hj hI => ?_) fun e h => ?_
      · obtain ⟨M, cell, c, rfl, hM⟩ := hI
        have hz : M.length < sizeLine := below (m := 1500) (by omega) (by omega)
        by_cases h2 : 0 < cell
        · simp [h2, hz, mkG, seqS, forS, Wp_some, asgS, ftN, ftTup, ftCons, ftNil, retS, expS, ifS, augS, subS, setK, isLst, getK, augSubS, appE, popE, rd, nj_int, nj_tup, nj_lst, nj_frl, nj_bl, nj_non, nj_str, bin2, bin2E, un1, callK, callE, cp, up, upB, asB, tst, tstE, consG, consE, tupG, lstG, tupE, lstE, andB, orB, notB, andV, orV, notV, ifV, andT, orT, notT, ifE, movN, frzN, ixNE, ixE, lendE, back, lenG, borG, maskF, seqV, seqE, rngV, rngE, enumV, enumE, zipV, zipE, wipeE, restE, yesB, yesT, kAdd, kAddI, kSub, kMul_c, kDiv_c, kMod_c, kPow_c, kLt, kLe, kGt, kGe, kIsN, kNotN, kNeg, kLen, kAbs, kInt, kids, kidsN, isiD, tyD, noOwn, noOwns, noShr, noShrs, fz, fzs, scV, optI, noI, slG, isTupD, chV, noOwns_nt, noShrs_nt, fzs_nt, noOwns_tups, noShrs_tups, fzs_tups, noOwns_append, kTup_ints, -List.map_map]
          exact ⟨_, nt_snoc _ _, by simp; omega⟩
        · simp [h2, mkG, seqS, forS, Wp_some, asgS, ftN, ftTup, ftCons, ftNil, retS, expS, ifS, augS, subS, setK, isLst, getK, augSubS, appE, popE, rd, nj_int, nj_tup, nj_lst, nj_frl, nj_bl, nj_non, nj_str, bin2, bin2E, un1, callK, callE, cp, up, upB, asB, tst, tstE, consG, consE, tupG, lstG, tupE, lstE, andB, orB, notB, andV, orV, notV, ifV, andT, orT, notT, ifE, movN, frzN, ixNE, ixE, lendE, back, lenG, borG, maskF, seqV, seqE, rngV, rngE, enumV, enumE, zipV, zipE, wipeE, restE, yesB, yesT, kAdd, kAddI, kSub, kMul_c, kDiv_c, kMod_c, kPow_c, kLt, kLe, kGt, kGe, kIsN, kNotN, kNeg, kLen, kAbs, kInt, kids, kidsN, isiD, tyD, noOwn, noOwns, noShr, noShrs, fz, fzs, scV, optI, noI, slG, isTupD, chV, noOwns_nt, noShrs_nt, fzs_nt, noOwns_tups, noShrs_tups, fzs_tups, noOwns_append, kTup_ints, -List.map_map]
          exact ⟨M, rfl, by omega⟩
      · obtain ⟨M, cell, c, rfl, hM⟩ := h
        exact ⟨.inl rfl, M, _, _, _, _, rfl, by omega⟩
    · simp [h, Wp_some, asgS, ftN, ftTup, ftCons, ftNil, retS, expS, ifS, augS, subS, setK, isLst, getK, augSubS, appE, popE, rd, nj_int, nj_tup, nj_lst, nj_frl, nj_bl, nj_non, nj_str, bin2, bin2E, un1, callK, callE, cp, up, upB, asB, tst, tstE, consG, consE, tupG, lstG, tupE, lstE, andB, orB, notB, andV, orV, notV, ifV, andT, orT, notT, ifE, movN, frzN, ixNE, ixE, lendE, back, lenG, borG, maskF, seqV, seqE, rngV, rngE, enumV, enumE, zipV, zipE, wipeE, restE, yesB, yesT, kAdd, kAddI, kSub, kMul_c, kDiv_c, kMod_c, kPow_c, kLt, kLe, kGt, kGe, kIsN, kNotN, kNeg, kLen, kAbs, kInt, kids, kidsN, isiD, tyD, noOwn, noOwns, noShr, noShrs, fz, fzs, scV, optI, noI, slG, isTupD, chV, noOwns_nt, noShrs_nt, fzs_nt, noOwns_tups, noShrs_tups, fzs_tups, noOwns_append, kTup_ints, -List.map_map]
      refine Wp.then (fun e => ∃ seed : Int, e = [.frl (ns.map D.int), .int 24, .lst true (L.map D.int), .int z, .int cell, c, .int seed]) ?_ ?_
      · exact seed1 cell z ns L c d
      rintro e ⟨seed, rfl⟩
      refine Wp.forR (n := 6) (e0 := [.frl (ns.map D.int), .int 24, .lst true (L.map D.int), .int z, .int cell, c, .int seed]) (by simp [rngK_i, Wp_some, asgS, ftN, ftTup, ftCons, ftNil, retS, expS, ifS, augS, subS, setK, isLst, getK, augSubS, appE, popE, rd, nj_int, nj_tup, nj_lst, nj_frl, nj_bl, nj_non, nj_str, bin2, bin2E, un1, callK, callE, cp, up, upB, asB, tst, tstE, consG, consE, tupG, lstG, tupE, lstE, andB, orB, notB, andV, orV, notV, ifV, andT, orT, notT, ifE, movN, frzN, ixNE, ixE, lendE, back, lenG, borG, maskF, seqV, seqE, rngV, rngE, enumV, enumE, zipV, zipE, wipeE, restE, yesB, yesT, kAdd, kAddI, kSub, kMul_c, kDiv_c, kMod_c, kPow_c, kLt, kLe, kGt, kGe, kIsN, kNotN, kNeg, kLen, kAbs, kInt, kids, kidsN, isiD, tyD, noOwn, noOwns, noShr, noShrs, fz, fzs, scV, optI, noI, slG, isTupD, chV, noOwns_nt, noShrs_nt, fzs_nt, noOwns_tups, noShrs_tups, fzs_tups, noOwns_append, kTup_ints, -List.map_map]) (fun j e => ∃ (M : List Int) (seed : Int) (c : D), e = [.frl (ns.map D.int), .int 24, .lst true (M.map D.int), .int z, .int cell, c, .int seed] ∧ M.length ≤ 60 * i + j) ⟨L, _, _, rfl, by omega⟩ (fun j e hj hI => ?_) fun e h => ?_
      · obtain ⟨M, seed, c, rfl, hM⟩ := hI
        have hz : M.length < sizeLine := below (m := 1500) (by omega) (by omega)
        refine Wp.bind ?_
        simp [Wp_some, asgS, ftN, ftTup, ftCons, ftNil, retS, expS, ifS, augS, subS, setK, isLst, getK, augSubS, appE, popE, rd, nj_int, nj_tup, nj_lst, nj_frl, nj_bl, nj_non, nj_str, bin2, bin2E, un1, callK, callE, cp, up, upB, asB, tst, tstE, consG, consE, tupG, lstG, tupE, lstE, andB, orB, notB, andV, orV, notV, ifV, andT, orT, notT, ifE, movN, frzN, ixNE, ixE, lendE, back, lenG, borG, maskF, seqV, seqE, rngV, rngE, enumV, enumE, zipV, zipE, wipeE, restE, yesB, yesT, kAdd, kAddI, kSub, kMul_c, kDiv_c, kMod_c, kPow_c, kLt, kLe, kGt, kGe, kIsN, kNotN, kNeg, kLen, kAbs, kInt, kids, kidsN, isiD, tyD, noOwn, noOwns, noShr, noShrs, fz, fzs, scV, optI, noI, slG, isTupD, chV, noOwns_nt, noShrs_nt, fzs_nt, noOwns_tups, noShrs_tups, fzs_tups, noOwns_append, kTup_ints, -List.map_map]
        generalize ((j : Nat) : Int) = y
        refine Wp.then (fun e => ∃ seed : Int, e = [.frl (ns.map D.int), .int 24, .lst true (M.map D.int), .int z, .int cell, .int y, .int seed]) ?_ ?_
        · exact seed2 cell z y seed ns M
        rintro e ⟨seed, rfl⟩
        simp [hz, Wp_some, asgS, ftN, ftTup, ftCons, ftNil, retS, expS, ifS, augS, subS, setK, isLst, getK, augSubS, appE, popE, rd, nj_int, nj_tup, nj_lst, nj_frl, nj_bl, nj_non, nj_str, bin2, bin2E, un1, callK, callE, cp, up, upB, asB, tst, tstE, consG, consE, tupG, lstG, tupE, lstE, andB, orB, notB, andV, orV, notV, ifV, andT, orT, notT, ifE, movN, frzN, ixNE, ixE, lendE, back, lenG, borG, maskF, seqV, seqE, rngV, rngE, enumV, enumE, zipV, zipE, wipeE, restE, yesB, yesT, kAdd, kAddI, kSub, kMul_c, kDiv_c, kMod_c, kPow_c, kLt, kLe, kGt, kGe, kIsN, kNotN, kNeg, kLen, kAbs, kInt, kids, kidsN, isiD, tyD, noOwn, noOwns, noShr, noShrs, fz, fzs, scV, optI, noI, slG, isTupD, chV, noOwns_nt, noShrs_nt, fzs_nt, noOwns_tups, noShrs_tups, fzs_tups, noOwns_append, kTup_ints, -List.map_map]
        exact ⟨_, nt_snoc _ _, by simp; omega⟩
      · obtain ⟨M, seed, c, rfl, hM⟩ := h
        exact ⟨.inl rfl, M, _, _, _, _, rfl, by omega⟩
  · rintro e ⟨L, a, b, c, d, rfl, hL⟩
    simp [Wp_some, asgS, ftN, ftTup, ftCons, ftNil, retS, expS, ifS, augS, subS, setK, isLst, getK, augSubS, appE, popE, rd, nj_int, nj_tup, nj_lst, nj_frl, nj_bl, nj_non, nj_str, bin2, bin2E, un1, callK, callE, cp, up, upB, asB, tst, tstE, consG, consE, tupG, lstG, tupE, lstE, andB, orB, notB, andV, orV, notV, ifV, andT, orT, notT, ifE, movN, frzN, ixNE, ixE, lendE, back, lenG, borG, maskF, seqV, seqE, rngV, rngE, enumV, enumE, zipV, zipE, wipeE, restE, yesB, yesT, kAdd, kAddI, kSub, kMul_c, kDiv_c, kMod_c, kPow_c, kLt, kLe, kGt, kGe, kIsN, kNotN, kNeg, kLen, kAbs, kInt, kids, kidsN, isiD, tyD, noOwn, noOwns, noShr, noShrs, fz, fzs, scV, optI, noI, slG, isTupD, chV, noOwns_nt, noShrs_nt, fzs_nt, noOwns_tups, noShrs_tups, fzs_tups, noOwns_append, kTup_ints, -List.map_map]
    exact ⟨L, hL, rfl⟩
end LT

set_option Elab.async false
set_option linter.all false
set_option maxRecDepth 100000
set_option maxHeartbeats 2000000
namespace LT
open PySem PySem.Spec PyProof.Rows L2
theorem nj_bx (L : List Int) (n : Nat) : nj (bx L n) = some (bx L n) := rfl
theorem noOwn_bx (L : List Int) (n : Nat) : noOwn (bx L n) = false := rfl
theorem mixed_val (L : List Int) (n : Nat) (xs : List D) (hx : noOwns xs = true) (hl : xs.length ≤ 100000) :
    Wp (G__law_mixed [bx L n, .lst true xs]) fun q => ∃ ys, ys.Perm xs ∧ q = (.lst true ys, [bx L (n + xs.length), .lst true xs]) := by
  have hz : xs.length ≤ sizeLine := under (by omega)
  refine Wp.mkG rfl ?_
  simp only [D__law_mixed]
  refine Wp.then (fun e => e = [bx L n, .lst true xs, .lst true xs, .jnk, .jnk, .jnk]) ?_ ?_
  · refine Wp.asg ?_
    simp only [up]
    rw [lcV_map xs id id (by simp [hx, nj_own, Wp_some, asgS, ftN, ftTup, ftCons, ftNil, retS, expS, ifS, augS, subS, setK, isLst, getK, augSubS, appE, popE, rd, nj_int, nj_tup, nj_lst, nj_frl, nj_bl, nj_non, nj_str, bin2, bin2E, un1, callK, callE, cp, up, upB, asB, tst, tstE, consG, consE, tupG, lstG, tupE, lstE, andB, orB, notB, andV, orV, notV, ifV, andT, orT, notT, ifE, movN, frzN, ixNE, ixE, lendE, back, lenG, borG, maskF, seqV, seqE, rngV, rngE, enumV, enumE, zipV, zipE, wipeE, restE, yesB, yesT, kAdd, kAddI, kSub, kMul_c, kDiv_c, kMod_c, kPow_c, kLt, kLe, kGt, kGe, kIsN, kNotN, kNeg, kLen, kAbs, kInt, kids, kidsN, isiD, tyD, noOwn, noOwns, noShr, noShrs, fz, fzs, scV, optI, noI, slG, isTupD, chV, noOwns_nt, noShrs_nt, fzs_nt, noOwns_tups, noShrs_tups, fzs_tups, noOwns_append, kTup_ints, -List.map_map]) hz (fun d m => ?_)]
    · simp [Wp_some, asgS, ftN, ftTup, ftCons, ftNil, retS, expS, ifS, augS, subS, setK, isLst, getK, augSubS, appE, popE, rd, nj_int, nj_tup, nj_lst, nj_frl, nj_bl, nj_non, nj_str, bin2, bin2E, un1, callK, callE, cp, up, upB, asB, tst, tstE, consG, consE, tupG, lstG, tupE, lstE, andB, orB, notB, andV, orV, notV, ifV, andT, orT, notT, ifE, movN, frzN, ixNE, ixE, lendE, back, lenG, borG, maskF, seqV, seqE, rngV, rngE, enumV, enumE, zipV, zipE, wipeE, restE, yesB, yesT, kAdd, kAddI, kSub, kMul_c, kDiv_c, kMod_c, kPow_c, kLt, kLe, kGt, kGe, kIsN, kNotN, kNeg, kLen, kAbs, kInt, kids, kidsN, isiD, tyD, noOwn, noOwns, noShr, noShrs, fz, fzs, scV, optI, noI, slG, isTupD, chV, noOwns_nt, noShrs_nt, fzs_nt, noOwns_tups, noShrs_tups, fzs_tups, noOwns_append, kTup_ints, -List.map_map]
    · have := noOwns_mem hx d m
      exact ⟨_, rfl, nj_cp this⟩
  rintro e rfl
  refine Wp.seq ?_
  simp [Wp_some, asgS, ftN, ftTup, ftCons, ftNil, retS, expS, ifS, augS, subS, setK, isLst, getK, augSubS, appE, popE, rd, nj_int, nj_tup, nj_lst, nj_frl, nj_bl, nj_non, nj_str, bin2, bin2E, un1, callK, callE, cp, up, upB, asB, tst, tstE, consG, consE, tupG, lstG, tupE, lstE, andB, orB, notB, andV, orV, notV, ifV, andT, orT, notT, ifE, movN, frzN, ixNE, ixE, lendE, back, lenG, borG, maskF, seqV, seqE, rngV, rngE, enumV, enumE, zipV, zipE, wipeE, restE, yesB, yesT, kAdd, kAddI, kSub, kMul_c, kDiv_c, kMod_c, kPow_c, kLt, kLe, kGt, kGe, kIsN, kNotN, kNeg, kLen, kAbs, kInt, kids, kidsN, isiD, tyD, noOwn, noOwns, noShr, noShrs, fz, fzs, scV, optI, noI, slG, isTupD, chV, noOwns_nt, noShrs_nt, fzs_nt, noOwns_tups, noShrs_tups, fzs_tups, noOwns_append, kTup_ints, -List.map_map]
  refine Wp.then (fun e => ∃ (fs : List D) (a b : D), e = [bx L (n + xs.length), .lst true xs, .lst true [], .lst true fs, a, b] ∧ fs.Perm xs) ?_ ?_
  · refine Wp.forR (n := xs.length) (e0 := [bx L n, .lst true xs, .lst true xs, .lst true [], .jnk, .jnk]) ?_ (fun i e => ∃ (fs ls : List D) (a b : D), e = [bx L (n + i), .lst true xs, .lst true ls, .lst true fs, a, b] ∧ (fs ++ ls).Perm xs ∧ ls.length + i = xs.length) ⟨[], xs, _, _, rfl, .refl _, rfl⟩ (fun i e hi hI => ?_) fun e h => ?_
    · simp [rngK_n (n := xs.length) (by omega), nj_bx, Wp_some, asgS, ftN, ftTup, ftCons, ftNil, retS, expS, ifS, augS, subS, setK, isLst, getK, augSubS, appE, popE, rd, nj_int, nj_tup, nj_lst, nj_frl, nj_bl, nj_non, nj_str, bin2, bin2E, un1, callK, callE, cp, up, upB, asB, tst, tstE, consG, consE, tupG, lstG, tupE, lstE, andB, orB, notB, andV, orV, notV, ifV, andT, orT, notT, ifE, movN, frzN, ixNE, ixE, lendE, back, lenG, borG, maskF, seqV, seqE, rngV, rngE, enumV, enumE, zipV, zipE, wipeE, restE, yesB, yesT, kAdd, kAddI, kSub, kMul_c, kDiv_c, kMod_c, kPow_c, kLt, kLe, kGt, kGe, kIsN, kNotN, kNeg, kLen, kAbs, kInt, kids, kidsN, isiD, tyD, noOwn, noOwns, noShr, noShrs, fz, fzs, scV, optI, noI, slG, isTupD, chV, noOwns_nt, noShrs_nt, fzs_nt, noOwns_tups, noShrs_tups, fzs_tups, noOwns_append, kTup_ints, -List.map_map]
    · obtain ⟨fs, ls, a, b, rfl, hp, hn⟩ := hI
      have h0 : (0 : Int) < (ls.length : Int) := by omega
      obtain ⟨r0, r1⟩ := dr_range (L := L) (n := n + i) h0
      obtain ⟨z, t, hpop, hperm⟩ := popK_at (l := ls) (by omega) r0 r1
      have hlen := hperm.length_eq
      have hlen2 := hp.length_eq
      simp only [List.length_cons, List.length_append] at hlen hlen2
      have hz2 : fs.length < sizeLine := below (m := 100001) (by omega) (by omega)
      generalize ((i : Nat) : Int) = y
      simp [nj_bx, draw_val L _ h0, hpop, hz2, expS, appE, popE, Wp_some, asgS, ftN, ftTup, ftCons, ftNil, retS, expS, ifS, augS, subS, setK, isLst, getK, augSubS, appE, popE, rd, nj_int, nj_tup, nj_lst, nj_frl, nj_bl, nj_non, nj_str, bin2, bin2E, un1, callK, callE, cp, up, upB, asB, tst, tstE, consG, consE, tupG, lstG, tupE, lstE, andB, orB, notB, andV, orV, notV, ifV, andT, orT, notT, ifE, movN, frzN, ixNE, ixE, lendE, back, lenG, borG, maskF, seqV, seqE, rngV, rngE, enumV, enumE, zipV, zipE, wipeE, restE, yesB, yesT, kAdd, kAddI, kSub, kMul_c, kDiv_c, kMod_c, kPow_c, kLt, kLe, kGt, kGe, kIsN, kNotN, kNeg, kLen, kAbs, kInt, kids, kidsN, isiD, tyD, noOwn, noOwns, noShr, noShrs, fz, fzs, scV, optI, noI, slG, isTupD, chV, noOwns_nt, noShrs_nt, fzs_nt, noOwns_tups, noShrs_tups, fzs_tups, noOwns_append, kTup_ints, -List.map_map]
      refine ⟨fs ++ [z], t, ?_, ?_, by omega⟩
      · simp [Nat.add_assoc]
      refine List.Perm.trans ?_ hp
      rw [List.append_assoc]
      exact List.Perm.append_left fs hperm
    · obtain ⟨fs, ls, a, b, rfl, hp, hn⟩ := h
      have : ls = [] := List.length_eq_zero_iff.mp (by omega)
      subst this
      exact ⟨rfl, fs, a, b, rfl, by simpa using hp⟩
  rintro e ⟨fs, a, b, rfl, hp⟩
  have hf : noOwns fs = true := noOwns_all fun d m => noOwns_mem hx d (hp.mem_iff.mp m)
  simp [hf, nj_bx, Wp_some, asgS, ftN, ftTup, ftCons, ftNil, retS, expS, ifS, augS, subS, setK, isLst, getK, augSubS, appE, popE, rd, nj_int, nj_tup, nj_lst, nj_frl, nj_bl, nj_non, nj_str, bin2, bin2E, un1, callK, callE, cp, up, upB, asB, tst, tstE, consG, consE, tupG, lstG, tupE, lstE, andB, orB, notB, andV, orV, notV, ifV, andT, orT, notT, ifE, movN, frzN, ixNE, ixE, lendE, back, lenG, borG, maskF, seqV, seqE, rngV, rngE, enumV, enumE, zipV, zipE, wipeE, restE, yesB, yesT, kAdd, kAddI, kSub, kMul_c, kDiv_c, kMod_c, kPow_c, kLt, kLe, kGt, kGe, kIsN, kNotN, kNeg, kLen, kAbs, kInt, kids, kidsN, isiD, tyD, noOwn, noOwns, noShr, noShrs, fz, fzs, scV, optI, noI, slG, isTupD, chV, noOwns_nt, noShrs_nt, fzs_nt, noOwns_tups, noShrs_tups, fzs_tups, noOwns_append, kTup_ints, -List.map_map]
  exact hp
theorem lane_val (a b : Int) : ∃ c d : Int, G__law_lane [.int a, .int b] = some (.tup [.int c, .int d], [.int a, .int b]) := by
  have z : (2 : Nat) ≤ sizeLine := under (by omega)
  simp [G__law_lane, D__law_lane, kMin, kMax, z, mkG, seqS, forS, Wp_some, asgS, ftN, ftTup, ftCons, ftNil, retS, expS, ifS, augS, subS, setK, isLst, getK, augSubS, appE, popE, rd, nj_int, nj_tup, nj_lst, nj_frl, nj_bl, nj_non, nj_str, bin2, bin2E, un1, callK, callE, cp, up, upB, asB, tst, tstE, consG, consE, tupG, lstG, tupE, lstE, andB, orB, notB, andV, orV, notV, ifV, andT, orT, notT, ifE, movN, frzN, ixNE, ixE, lendE, back, lenG, borG, maskF, seqV, seqE, rngV, rngE, enumV, enumE, zipV, zipE, wipeE, restE, yesB, yesT, kAdd, kAddI, kSub, kMul_c, kDiv_c, kMod_c, kPow_c, kLt, kLe, kGt, kGe, kIsN, kNotN, kNeg, kLen, kAbs, kInt, kids, kidsN, isiD, tyD, noOwn, noOwns, noShr, noShrs, fz, fzs, scV, optI, noI, slG, isTupD, chV, noOwns_nt, noShrs_nt, fzs_nt, noOwns_tups, noShrs_tups, fzs_tups, noOwns_append, kTup_ints, -List.map_map]
theorem number_val (a : Int) : G__law_number [.int a, .int a] = some (.bl true, [.int a, .int a]) := by
  simp [G__law_number, D__law_number, mkG, seqS, forS, Wp_some, asgS, ftN, ftTup, ftCons, ftNil, retS, expS, ifS, augS, subS, setK, isLst, getK, augSubS, appE, popE, rd, nj_int, nj_tup, nj_lst, nj_frl, nj_bl, nj_non, nj_str, bin2, bin2E, un1, callK, callE, cp, up, upB, asB, tst, tstE, consG, consE, tupG, lstG, tupE, lstE, andB, orB, notB, andV, orV, notV, ifV, andT, orT, notT, ifE, movN, frzN, ixNE, ixE, lendE, back, lenG, borG, maskF, seqV, seqE, rngV, rngE, enumV, enumE, zipV, zipE, wipeE, restE, yesB, yesT, kAdd, kAddI, kSub, kMul_c, kDiv_c, kMod_c, kPow_c, kLt, kLe, kGt, kGe, kIsN, kNotN, kNeg, kLen, kAbs, kInt, kids, kidsN, isiD, tyD, noOwn, noOwns, noShr, noShrs, fz, fzs, scV, optI, noI, slG, isTupD, chV, noOwns_nt, noShrs_nt, fzs_nt, noOwns_tups, noShrs_tups, fzs_tups, noOwns_append, kTup_ints, -List.map_map]
theorem kAll_true {α : Type} (o : Bool) (xs : List α) : kAll [.lst o (xs.map fun _ => .bl true)] = some (.bl true) := by
  have : blsD (xs.map fun _ => .bl true) = some (xs.map fun _ => true) := by
    rw [← blsD_map, List.map_map]
    rfl
  show (blsD _).map _ = _
  rw [this]
  simp
theorem row_val (L : List Int) (hl : L.length ≤ 100000) (due : D) (hd : due = .tup (L.map D.int) ∨ due = .lst false (L.map D.int)) : G__law_row [.tup (L.map D.int), due] = some (.bl true, [.tup (L.map D.int), due]) := by
  have ho := rngK_n (n := L.length) (by omega)
  rcases hd with rfl | rfl
  · simp [G__law_row, D__law_row, kNe_int, mkG, seqS, forS, Wp_some, asgS, ftN, ftTup, ftCons, ftNil, retS, expS, ifS, augS, subS, setK, isLst, getK, augSubS, appE, popE, rd, nj_int, nj_tup, nj_lst, nj_frl, nj_bl, nj_non, nj_str, bin2, bin2E, un1, callK, callE, cp, up, upB, asB, tst, tstE, consG, consE, tupG, lstG, tupE, lstE, andB, orB, notB, andV, orV, notV, ifV, andT, orT, notT, ifE, movN, frzN, ixNE, ixE, lendE, back, lenG, borG, maskF, seqV, seqE, rngV, rngE, enumV, enumE, zipV, zipE, wipeE, restE, yesB, yesT, kAdd, kAddI, kSub, kMul_c, kDiv_c, kMod_c, kPow_c, kLt, kLe, kGt, kGe, kIsN, kNotN, kNeg, kLen, kAbs, kInt, kids, kidsN, isiD, tyD, noOwn, noOwns, noShr, noShrs, fz, fzs, scV, optI, noI, slG, isTupD, chV, noOwns_nt, noShrs_nt, fzs_nt, noOwns_tups, noShrs_tups, fzs_tups, noOwns_append, kTup_ints, -List.map_map]
    rw [lcV_map (List.range L.length) (fun i => D.int (i : Int)) (fun _ => .bl true) (by simp [ho, rgD_nat, Wp_some, asgS, ftN, ftTup, ftCons, ftNil, retS, expS, ifS, augS, subS, setK, isLst, getK, augSubS, appE, popE, rd, nj_int, nj_tup, nj_lst, nj_frl, nj_bl, nj_non, nj_str, bin2, bin2E, un1, callK, callE, cp, up, upB, asB, tst, tstE, consG, consE, tupG, lstG, tupE, lstE, andB, orB, notB, andV, orV, notV, ifV, andT, orT, notT, ifE, movN, frzN, ixNE, ixE, lendE, back, lenG, borG, maskF, seqV, seqE, rngV, rngE, enumV, enumE, zipV, zipE, wipeE, restE, yesB, yesT, kAdd, kAddI, kSub, kMul_c, kDiv_c, kMod_c, kPow_c, kLt, kLe, kGt, kGe, kIsN, kNotN, kNeg, kLen, kAbs, kInt, kids, kidsN, isiD, tyD, noOwn, noOwns, noShr, noShrs, fz, fzs, scV, optI, noI, slG, isTupD, chV, noOwns_nt, noShrs_nt, fzs_nt, noOwns_tups, noShrs_tups, fzs_tups, noOwns_append, kTup_ints, -List.map_map]) (by rw [List.length_range]; exact under (by omega)) (fun i m => ?_)]
    · simp [kAll_true, Wp_some, asgS, ftN, ftTup, ftCons, ftNil, retS, expS, ifS, augS, subS, setK, isLst, getK, augSubS, appE, popE, rd, nj_int, nj_tup, nj_lst, nj_frl, nj_bl, nj_non, nj_str, bin2, bin2E, un1, callK, callE, cp, up, upB, asB, tst, tstE, consG, consE, tupG, lstG, tupE, lstE, andB, orB, notB, andV, orV, notV, ifV, andT, orT, notT, ifE, movN, frzN, ixNE, ixE, lendE, back, lenG, borG, maskF, seqV, seqE, rngV, rngE, enumV, enumE, zipV, zipE, wipeE, restE, yesB, yesT, kAdd, kAddI, kSub, kMul_c, kDiv_c, kMod_c, kPow_c, kLt, kLe, kGt, kGe, kIsN, kNotN, kNeg, kLen, kAbs, kInt, kids, kidsN, isiD, tyD, noOwn, noOwns, noShr, noShrs, fz, fzs, scV, optI, noI, slG, isTupD, chV, noOwns_nt, noShrs_nt, fzs_nt, noOwns_tups, noShrs_tups, fzs_tups, noOwns_append, kTup_ints, -List.map_map]
    · have m : i < L.length := List.mem_range.mp m
      exact ⟨_, rfl, by simp [kIx_tnt m, number_val, Wp_some, asgS, ftN, ftTup, ftCons, ftNil, retS, expS, ifS, augS, subS, setK, isLst, getK, augSubS, appE, popE, rd, nj_int, nj_tup, nj_lst, nj_frl, nj_bl, nj_non, nj_str, bin2, bin2E, un1, callK, callE, cp, up, upB, asB, tst, tstE, consG, consE, tupG, lstG, tupE, lstE, andB, orB, notB, andV, orV, notV, ifV, andT, orT, notT, ifE, movN, frzN, ixNE, ixE, lendE, back, lenG, borG, maskF, seqV, seqE, rngV, rngE, enumV, enumE, zipV, zipE, wipeE, restE, yesB, yesT, kAdd, kAddI, kSub, kMul_c, kDiv_c, kMod_c, kPow_c, kLt, kLe, kGt, kGe, kIsN, kNotN, kNeg, kLen, kAbs, kInt, kids, kidsN, isiD, tyD, noOwn, noOwns, noShr, noShrs, fz, fzs, scV, optI, noI, slG, isTupD, chV, noOwns_nt, noShrs_nt, fzs_nt, noOwns_tups, noShrs_tups, fzs_tups, noOwns_append, kTup_ints, -List.map_map]⟩
  · simp [G__law_row, D__law_row, kNe_int, mkG, seqS, forS, Wp_some, asgS, ftN, ftTup, ftCons, ftNil, retS, expS, ifS, augS, subS, setK, isLst, getK, augSubS, appE, popE, rd, nj_int, nj_tup, nj_lst, nj_frl, nj_bl, nj_non, nj_str, bin2, bin2E, un1, callK, callE, cp, up, upB, asB, tst, tstE, consG, consE, tupG, lstG, tupE, lstE, andB, orB, notB, andV, orV, notV, ifV, andT, orT, notT, ifE, movN, frzN, ixNE, ixE, lendE, back, lenG, borG, maskF, seqV, seqE, rngV, rngE, enumV, enumE, zipV, zipE, wipeE, restE, yesB, yesT, kAdd, kAddI, kSub, kMul_c, kDiv_c, kMod_c, kPow_c, kLt, kLe, kGt, kGe, kIsN, kNotN, kNeg, kLen, kAbs, kInt, kids, kidsN, isiD, tyD, noOwn, noOwns, noShr, noShrs, fz, fzs, scV, optI, noI, slG, isTupD, chV, noOwns_nt, noShrs_nt, fzs_nt, noOwns_tups, noShrs_tups, fzs_tups, noOwns_append, kTup_ints, -List.map_map]
    rw [lcV_map (List.range L.length) (fun i => D.int (i : Int)) (fun _ => .bl true) (by simp [ho, rgD_nat, Wp_some, asgS, ftN, ftTup, ftCons, ftNil, retS, expS, ifS, augS, subS, setK, isLst, getK, augSubS, appE, popE, rd, nj_int, nj_tup, nj_lst, nj_frl, nj_bl, nj_non, nj_str, bin2, bin2E, un1, callK, callE, cp, up, upB, asB, tst, tstE, consG, consE, tupG, lstG, tupE, lstE, andB, orB, notB, andV, orV, notV, ifV, andT, orT, notT, ifE, movN, frzN, ixNE, ixE, lendE, back, lenG, borG, maskF, seqV, seqE, rngV, rngE, enumV, enumE, zipV, zipE, wipeE, restE, yesB, yesT, kAdd, kAddI, kSub, kMul_c, kDiv_c, kMod_c, kPow_c, kLt, kLe, kGt, kGe, kIsN, kNotN, kNeg, kLen, kAbs, kInt, kids, kidsN, isiD, tyD, noOwn, noOwns, noShr, noShrs, fz, fzs, scV, optI, noI, slG, isTupD, chV, noOwns_nt, noShrs_nt, fzs_nt, noOwns_tups, noShrs_tups, fzs_tups, noOwns_append, kTup_ints, -List.map_map]) (by rw [List.length_range]; exact under (by omega)) (fun i m => ?_)]
    · simp [kAll_true, Wp_some, asgS, ftN, ftTup, ftCons, ftNil, retS, expS, ifS, augS, subS, setK, isLst, getK, augSubS, appE, popE, rd, nj_int, nj_tup, nj_lst, nj_frl, nj_bl, nj_non, nj_str, bin2, bin2E, un1, callK, callE, cp, up, upB, asB, tst, tstE, consG, consE, tupG, lstG, tupE, lstE, andB, orB, notB, andV, orV, notV, ifV, andT, orT, notT, ifE, movN, frzN, ixNE, ixE, lendE, back, lenG, borG, maskF, seqV, seqE, rngV, rngE, enumV, enumE, zipV, zipE, wipeE, restE, yesB, yesT, kAdd, kAddI, kSub, kMul_c, kDiv_c, kMod_c, kPow_c, kLt, kLe, kGt, kGe, kIsN, kNotN, kNeg, kLen, kAbs, kInt, kids, kidsN, isiD, tyD, noOwn, noOwns, noShr, noShrs, fz, fzs, scV, optI, noI, slG, isTupD, chV, noOwns_nt, noShrs_nt, fzs_nt, noOwns_tups, noShrs_tups, fzs_tups, noOwns_append, kTup_ints, -List.map_map]
    · have m : i < L.length := List.mem_range.mp m
      exact ⟨_, rfl, by simp [kIx_tnt m, kIx_nt m, number_val, Wp_some, asgS, ftN, ftTup, ftCons, ftNil, retS, expS, ifS, augS, subS, setK, isLst, getK, augSubS, appE, popE, rd, nj_int, nj_tup, nj_lst, nj_frl, nj_bl, nj_non, nj_str, bin2, bin2E, un1, callK, callE, cp, up, upB, asB, tst, tstE, consG, consE, tupG, lstG, tupE, lstE, andB, orB, notB, andV, orV, notV, ifV, andT, orT, notT, ifE, movN, frzN, ixNE, ixE, lendE, back, lenG, borG, maskF, seqV, seqE, rngV, rngE, enumV, enumE, zipV, zipE, wipeE, restE, yesB, yesT, kAdd, kAddI, kSub, kMul_c, kDiv_c, kMod_c, kPow_c, kLt, kLe, kGt, kGe, kIsN, kNotN, kNeg, kLen, kAbs, kInt, kids, kidsN, isiD, tyD, noOwn, noOwns, noShr, noShrs, fz, fzs, scV, optI, noI, slG, isTupD, chV, noOwns_nt, noShrs_nt, fzs_nt, noOwns_tups, noShrs_tups, fzs_tups, noOwns_append, kTup_ints, -List.map_map]⟩
theorem whole_val (L : List Int) (hl : L.length ≤ 100000) : G__law_whole [.tup (L.map D.int), .int (L.length : Int)] = some (.bl true, [.tup (L.map D.int), .int (L.length : Int)]) := by
  have ho := rngK_n (n := L.length) (by omega)
  simp [G__law_whole, D__law_whole, kNe_int, mkG, seqS, forS, Wp_some, asgS, ftN, ftTup, ftCons, ftNil, retS, expS, ifS, augS, subS, setK, isLst, getK, augSubS, appE, popE, rd, nj_int, nj_tup, nj_lst, nj_frl, nj_bl, nj_non, nj_str, bin2, bin2E, un1, callK, callE, cp, up, upB, asB, tst, tstE, consG, consE, tupG, lstG, tupE, lstE, andB, orB, notB, andV, orV, notV, ifV, andT, orT, notT, ifE, movN, frzN, ixNE, ixE, lendE, back, lenG, borG, maskF, seqV, seqE, rngV, rngE, enumV, enumE, zipV, zipE, wipeE, restE, yesB, yesT, kAdd, kAddI, kSub, kMul_c, kDiv_c, kMod_c, kPow_c, kLt, kLe, kGt, kGe, kIsN, kNotN, kNeg, kLen, kAbs, kInt, kids, kidsN, isiD, tyD, noOwn, noOwns, noShr, noShrs, fz, fzs, scV, optI, noI, slG, isTupD, chV, noOwns_nt, noShrs_nt, fzs_nt, noOwns_tups, noShrs_tups, fzs_tups, noOwns_append, kTup_ints, -List.map_map]
  rw [lcV_map (List.range L.length) (fun i => D.int (i : Int)) (fun _ => .bl true) (by simp [ho, rgD_nat, Wp_some, asgS, ftN, ftTup, ftCons, ftNil, retS, expS, ifS, augS, subS, setK, isLst, getK, augSubS, appE, popE, rd, nj_int, nj_tup, nj_lst, nj_frl, nj_bl, nj_non, nj_str, bin2, bin2E, un1, callK, callE, cp, up, upB, asB, tst, tstE, consG, consE, tupG, lstG, tupE, lstE, andB, orB, notB, andV, orV, notV, ifV, andT, orT, notT, ifE, movN, frzN, ixNE, ixE, lendE, back, lenG, borG, maskF, seqV, seqE, rngV, rngE, enumV, enumE, zipV, zipE, wipeE, restE, yesB, yesT, kAdd, kAddI, kSub, kMul_c, kDiv_c, kMod_c, kPow_c, kLt, kLe, kGt, kGe, kIsN, kNotN, kNeg, kLen, kAbs, kInt, kids, kidsN, isiD, tyD, noOwn, noOwns, noShr, noShrs, fz, fzs, scV, optI, noI, slG, isTupD, chV, noOwns_nt, noShrs_nt, fzs_nt, noOwns_tups, noShrs_tups, fzs_tups, noOwns_append, kTup_ints, -List.map_map]) (by rw [List.length_range]; exact under (by omega)) (fun i m => ?_)]
  · simp [kAll_true, Wp_some, asgS, ftN, ftTup, ftCons, ftNil, retS, expS, ifS, augS, subS, setK, isLst, getK, augSubS, appE, popE, rd, nj_int, nj_tup, nj_lst, nj_frl, nj_bl, nj_non, nj_str, bin2, bin2E, un1, callK, callE, cp, up, upB, asB, tst, tstE, consG, consE, tupG, lstG, tupE, lstE, andB, orB, notB, andV, orV, notV, ifV, andT, orT, notT, ifE, movN, frzN, ixNE, ixE, lendE, back, lenG, borG, maskF, seqV, seqE, rngV, rngE, enumV, enumE, zipV, zipE, wipeE, restE, yesB, yesT, kAdd, kAddI, kSub, kMul_c, kDiv_c, kMod_c, kPow_c, kLt, kLe, kGt, kGe, kIsN, kNotN, kNeg, kLen, kAbs, kInt, kids, kidsN, isiD, tyD, noOwn, noOwns, noShr, noShrs, fz, fzs, scV, optI, noI, slG, isTupD, chV, noOwns_nt, noShrs_nt, fzs_nt, noOwns_tups, noShrs_tups, fzs_tups, noOwns_append, kTup_ints, -List.map_map]
  · have m : i < L.length := List.mem_range.mp m
    exact ⟨_, rfl, by simp [kIx_tnt m, Wp_some, asgS, ftN, ftTup, ftCons, ftNil, retS, expS, ifS, augS, subS, setK, isLst, getK, augSubS, appE, popE, rd, nj_int, nj_tup, nj_lst, nj_frl, nj_bl, nj_non, nj_str, bin2, bin2E, un1, callK, callE, cp, up, upB, asB, tst, tstE, consG, consE, tupG, lstG, tupE, lstE, andB, orB, notB, andV, orV, notV, ifV, andT, orT, notT, ifE, movN, frzN, ixNE, ixE, lendE, back, lenG, borG, maskF, seqV, seqE, rngV, rngE, enumV, enumE, zipV, zipE, wipeE, restE, yesB, yesT, kAdd, kAddI, kSub, kMul_c, kDiv_c, kMod_c, kPow_c, kLt, kLe, kGt, kGe, kIsN, kNotN, kNeg, kLen, kAbs, kInt, kids, kidsN, isiD, tyD, noOwn, noOwns, noShr, noShrs, fz, fzs, scV, optI, noI, slG, isTupD, chV, noOwns_nt, noShrs_nt, fzs_nt, noOwns_tups, noShrs_tups, fzs_tups, noOwns_append, kTup_ints, -List.map_map]⟩
end LT

set_option Elab.async false
set_option linter.all false
set_option maxRecDepth 100000
set_option maxHeartbeats 2000000
namespace LT
open PySem PySem.Spec PyProof.Rows L2
theorem kIx_i {L : List Int} {o : Bool} {k : Int} (h0 : 0 ≤ k) (h : k < L.length) : kIx (.lst o (L.map D.int)) (.int k) = some (.int (L.getD k.toNat 0)) := by
  have hk : k.toNat < L.length := by omega
  exact kIx_at rfl h0 (by rw [List.getElem?_map, List.getElem?_eq_getElem hk]; simp [List.getD, List.getElem?_eq_getElem hk])
def GoodT (d : D) : Prop := noOwn d = true ∧ fz d = d ∧ noShr d = true
theorem goodT_pair (a b : Int) : GoodT (.tup [.int a, .int b]) := by simp [GoodT, noOwn, noOwns, fz, fzs, noShr, noShrs]
def TWI (L : List Int) (m : Int) (k : Nat) (e : En) : Prop := ∃ (n : Nat) (zs : List Int) (ls : List D) (a b c d : D), e = [bx L n, .int m, .int 3, .lst true (zs.map D.int), .lst true ls, a, b, c, d] ∧ (zs.length : Int) = m ∧ (∀ d ∈ ls, GoodT d) ∧ ls.length ≤ k
theorem town_val (L : List Int) (n : Nat) (m : Int) (h1 : 1 ≤ m) (h7 : m ≤ 100) :
    Wp (G__law_town [bx L n, .int m, .int 3]) fun q => ∃ (T : List D) (n' : Nat), (∀ d ∈ T, GoodT d) ∧ q = (.tup [.int m, .tup T], [bx L n', .int m, .int 3]) := by
  refine Wp.mkG rfl ?_
  simp only [D__law_town]
  refine Wp.then (fun e => ∃ (n' : Nat) (zs : List Int), e = [bx L n', .int m, .int 3, .lst true (zs.map D.int), .jnk, .jnk, .jnk, .jnk, .jnk] ∧ (zs.length : Int) = m) ?_ ?_
  · refine Wp.asg (Wp.lenG ?_)
    simp [nj_bx, Wp_some, asgS, ftN, ftTup, ftCons, ftNil, retS, expS, ifS, augS, subS, setK, isLst, getK, augSubS, appE, popE, rd, nj_int, nj_tup, nj_lst, nj_frl, nj_bl, nj_non, nj_str, bin2, bin2E, un1, callK, callE, cp, up, upB, asB, tst, tstE, consG, consE, tupG, lstG, tupE, lstE, andB, orB, notB, andV, orV, notV, ifV, andT, orT, notT, ifE, movN, frzN, ixNE, ixE, lendE, back, lenG, borG, maskF, seqV, seqE, rngV, rngE, enumV, enumE, zipV, zipE, wipeE, restE, yesB, yesT, kAdd, kAddI, kSub, kMul_c, kDiv_c, kMod_c, kPow_c, kLt, kLe, kGt, kGe, kIsN, kNotN, kNeg, kLen, kAbs, kInt, kids, kidsN, isiD, tyD, noOwn, noOwns, noShr, noShrs, fz, fzs, scV, optI, noI, slG, isTupD, chV, noOwns_nt, noShrs_nt, fzs_nt, noOwns_tups, noShrs_tups, fzs_tups, noOwns_append, kTup_ints, -List.map_map]
    rw [lcV_map (List.range m.toNat) (fun i => D.int (i : Int)) (fun i => D.int (i : Int)) ?_ ?_ (fun i m => ⟨_, rfl, ?_⟩)]
    · simp [Wp_some, asgS, ftN, ftTup, ftCons, ftNil, retS, expS, ifS, augS, subS, setK, isLst, getK, augSubS, appE, popE, rd, nj_int, nj_tup, nj_lst, nj_frl, nj_bl, nj_non, nj_str, bin2, bin2E, un1, callK, callE, cp, up, upB, asB, tst, tstE, consG, consE, tupG, lstG, tupE, lstE, andB, orB, notB, andV, orV, notV, ifV, andT, orT, notT, ifE, movN, frzN, ixNE, ixE, lendE, back, lenG, borG, maskF, seqV, seqE, rngV, rngE, enumV, enumE, zipV, zipE, wipeE, restE, yesB, yesT, kAdd, kAddI, kSub, kMul_c, kDiv_c, kMod_c, kPow_c, kLt, kLe, kGt, kGe, kIsN, kNotN, kNeg, kLen, kAbs, kInt, kids, kidsN, isiD, tyD, noOwn, noOwns, noShr, noShrs, fz, fzs, scV, optI, noI, slG, isTupD, chV, noOwns_nt, noShrs_nt, fzs_nt, noOwns_tups, noShrs_tups, fzs_tups, noOwns_append, kTup_ints, -List.map_map]
      refine (mixed_val L n _ (noOwns_map (fun _ => by rw [noOwn]) _) (by simp; omega)).mono ?_
      rintro q ⟨ys, hp, rfl⟩
      obtain ⟨zs, rfl⟩ := ints_of (l := ys) fun d hd => by
        obtain ⟨i, _, e⟩ := List.mem_map.mp (hp.mem_iff.mp hd)
        exact ⟨i, e.symm⟩
      have := hp.length_eq
      simp at this
      simp [Wp_some, asgS, ftN, ftTup, ftCons, ftNil, retS, expS, ifS, augS, subS, setK, isLst, getK, augSubS, appE, popE, rd, nj_int, nj_tup, nj_lst, nj_frl, nj_bl, nj_non, nj_str, bin2, bin2E, un1, callK, callE, cp, up, upB, asB, tst, tstE, consG, consE, tupG, lstG, tupE, lstE, andB, orB, notB, andV, orV, notV, ifV, andT, orT, notT, ifE, movN, frzN, ixNE, ixE, lendE, back, lenG, borG, maskF, seqV, seqE, rngV, rngE, enumV, enumE, zipV, zipE, wipeE, restE, yesB, yesT, kAdd, kAddI, kSub, kMul_c, kDiv_c, kMod_c, kPow_c, kLt, kLe, kGt, kGe, kIsN, kNotN, kNeg, kLen, kAbs, kInt, kids, kidsN, isiD, tyD, noOwn, noOwns, noShr, noShrs, fz, fzs, scV, optI, noI, slG, isTupD, chV, noOwns_nt, noShrs_nt, fzs_nt, noOwns_tups, noShrs_tups, fzs_tups, noOwns_append, kTup_ints, -List.map_map]
      exact ⟨_, zs, ⟨rfl, rfl⟩, by omega⟩
    · simp [rngK_i (m := m) (by omega) (by omega), rgD_nat, Wp_some, asgS, ftN, ftTup, ftCons, ftNil, retS, expS, ifS, augS, subS, setK, isLst, getK, augSubS, appE, popE, rd, nj_int, nj_tup, nj_lst, nj_frl, nj_bl, nj_non, nj_str, bin2, bin2E, un1, callK, callE, cp, up, upB, asB, tst, tstE, consG, consE, tupG, lstG, tupE, lstE, andB, orB, notB, andV, orV, notV, ifV, andT, orT, notT, ifE, movN, frzN, ixNE, ixE, lendE, back, lenG, borG, maskF, seqV, seqE, rngV, rngE, enumV, enumE, zipV, zipE, wipeE, restE, yesB, yesT, kAdd, kAddI, kSub, kMul_c, kDiv_c, kMod_c, kPow_c, kLt, kLe, kGt, kGe, kIsN, kNotN, kNeg, kLen, kAbs, kInt, kids, kidsN, isiD, tyD, noOwn, noOwns, noShr, noShrs, fz, fzs, scV, optI, noI, slG, isTupD, chV, noOwns_nt, noShrs_nt, fzs_nt, noOwns_tups, noShrs_tups, fzs_tups, noOwns_append, kTup_ints, -List.map_map]
    · rw [List.length_range]; exact under (by omega)
    · simp [Wp_some, asgS, ftN, ftTup, ftCons, ftNil, retS, expS, ifS, augS, subS, setK, isLst, getK, augSubS, appE, popE, rd, nj_int, nj_tup, nj_lst, nj_frl, nj_bl, nj_non, nj_str, bin2, bin2E, un1, callK, callE, cp, up, upB, asB, tst, tstE, consG, consE, tupG, lstG, tupE, lstE, andB, orB, notB, andV, orV, notV, ifV, andT, orT, notT, ifE, movN, frzN, ixNE, ixE, lendE, back, lenG, borG, maskF, seqV, seqE, rngV, rngE, enumV, enumE, zipV, zipE, wipeE, restE, yesB, yesT, kAdd, kAddI, kSub, kMul_c, kDiv_c, kMod_c, kPow_c, kLt, kLe, kGt, kGe, kIsN, kNotN, kNeg, kLen, kAbs, kInt, kids, kidsN, isiD, tyD, noOwn, noOwns, noShr, noShrs, fz, fzs, scV, optI, noI, slG, isTupD, chV, noOwns_nt, noShrs_nt, fzs_nt, noOwns_tups, noShrs_tups, fzs_tups, noOwns_append, kTup_ints, -List.map_map]
  rintro e ⟨n', zs, rfl, hz⟩
  refine Wp.seq ?_
  simp [Wp_some, asgS, ftN, ftTup, ftCons, ftNil, retS, expS, ifS, augS, subS, setK, isLst, getK, augSubS, appE, popE, rd, nj_int, nj_tup, nj_lst, nj_frl, nj_bl, nj_non, nj_str, bin2, bin2E, un1, callK, callE, cp, up, upB, asB, tst, tstE, consG, consE, tupG, lstG, tupE, lstE, andB, orB, notB, andV, orV, notV, ifV, andT, orT, notT, ifE, movN, frzN, ixNE, ixE, lendE, back, lenG, borG, maskF, seqV, seqE, rngV, rngE, enumV, enumE, zipV, zipE, wipeE, restE, yesB, yesT, kAdd, kAddI, kSub, kMul_c, kDiv_c, kMod_c, kPow_c, kLt, kLe, kGt, kGe, kIsN, kNotN, kNeg, kLen, kAbs, kInt, kids, kidsN, isiD, tyD, noOwn, noOwns, noShr, noShrs, fz, fzs, scV, optI, noI, slG, isTupD, chV, noOwns_nt, noShrs_nt, fzs_nt, noOwns_tups, noShrs_tups, fzs_tups, noOwns_append, kTup_ints, -List.map_map]
  refine Wp.then (TWI L m 1000) ?_ ?_
  · refine Wp.forR2 (lo := 1) (n := (m - 1).toNat) (e0 := [bx L n', .int m, .int 3, .lst true (zs.map D.int), .lst true [], .jnk, .jnk, .jnk, .jnk]) ?_ (fun i e => TWI L m i e) ⟨n', zs, [], _, _, _, _, rfl, hz, fun d m => (nomatch m), Nat.le_refl _⟩ (fun i e hi hI => ?_) fun e h => ?_
    · simp [rngK_2 (l := 1) (m := m) (by omega) (by omega) (by omega) (by omega), Wp_some, asgS, ftN, ftTup, ftCons, ftNil, retS, expS, ifS, augS, subS, setK, isLst, getK, augSubS, appE, popE, rd, nj_int, nj_tup, nj_lst, nj_frl, nj_bl, nj_non, nj_str, bin2, bin2E, un1, callK, callE, cp, up, upB, asB, tst, tstE, consG, consE, tupG, lstG, tupE, lstE, andB, orB, notB, andV, orV, notV, ifV, andT, orT, notT, ifE, movN, frzN, ixNE, ixE, lendE, back, lenG, borG, maskF, seqV, seqE, rngV, rngE, enumV, enumE, zipV, zipE, wipeE, restE, yesB, yesT, kAdd, kAddI, kSub, kMul_c, kDiv_c, kMod_c, kPow_c, kLt, kLe, kGt, kGe, kIsN, kNotN, kNeg, kLen, kAbs, kInt, kids, kidsN, isiD, tyD, noOwn, noOwns, noShr, noShrs, fz, fzs, scV, optI, noI, slG, isTupD, chV, noOwns_nt, noShrs_nt, fzs_nt, noOwns_tups, noShrs_tups, fzs_tups, noOwns_append, kTup_ints, -List.map_map]
    · obtain ⟨n', zs, ls, a, b, c, d, rfl, hz, hg, hl⟩ := hI
      obtain ⟨k, hk⟩ : ∃ k : Int, k = 1 + (i : Int) := ⟨_, rfl⟩
      rw [← hk]
      have hs : ls.length < sizeLine := below (m := 2000) (by omega) (by omega)
      obtain ⟨r0, r1⟩ := dr_range (L := L) (n := n') (m := k) (by omega)
      obtain ⟨x, y, hl2⟩ := lane_val (zs.getD k.toNat 0) (zs.getD (dr L n' k).toNat 0)
      have e1 := kIx_i (L := zs) (o := true) (k := k) (by omega) (by omega)
      have e2 := kIx_i (L := zs) (o := true) (k := dr L n' k) (by omega) (by omega)
      simp only [List.getD_eq_getElem?_getD] at hl2 e1 e2
      simp [nj_bx, draw_val L n' (m := k) (by omega), hl2, e1, e2, hs, expS, appE, Wp_some, asgS, ftN, ftTup, ftCons, ftNil, retS, expS, ifS, augS, subS, setK, isLst, getK, augSubS, appE, popE, rd, nj_int, nj_tup, nj_lst, nj_frl, nj_bl, nj_non, nj_str, bin2, bin2E, un1, callK, callE, cp, up, upB, asB, tst, tstE, consG, consE, tupG, lstG, tupE, lstE, andB, orB, notB, andV, orV, notV, ifV, andT, orT, notT, ifE, movN, frzN, ixNE, ixE, lendE, back, lenG, borG, maskF, seqV, seqE, rngV, rngE, enumV, enumE, zipV, zipE, wipeE, restE, yesB, yesT, kAdd, kAddI, kSub, kMul_c, kDiv_c, kMod_c, kPow_c, kLt, kLe, kGt, kGe, kIsN, kNotN, kNeg, kLen, kAbs, kInt, kids, kidsN, isiD, tyD, noOwn, noOwns, noShr, noShrs, fz, fzs, scV, optI, noI, slG, isTupD, chV, noOwns_nt, noShrs_nt, fzs_nt, noOwns_tups, noShrs_tups, fzs_tups, noOwns_append, kTup_ints, -List.map_map]
      refine ⟨_, zs, _, _, _, _, _, rfl, hz, fun d m => ?_, by simp; omega⟩
      rcases List.mem_append.mp m with m | m
      · exact hg d m
      · rw [List.mem_singleton.mp m]; exact goodT_pair _ _
    · obtain ⟨n', zs, ls, a, b, c, d, rfl, hz, hg, hl⟩ := h
      exact ⟨rfl, n', zs, ls, a, b, c, d, rfl, hz, hg, by omega⟩
  rintro e ⟨n', zs, ls, a, b, c, d, rfl, hz, hg, hl⟩
  refine Wp.then (TWI L m 2000) ?_ ?_
  · by_cases hm : 1 < m
    · simp [hm, Wp_some, asgS, ftN, ftTup, ftCons, ftNil, retS, expS, ifS, augS, subS, setK, isLst, getK, augSubS, appE, popE, rd, nj_int, nj_tup, nj_lst, nj_frl, nj_bl, nj_non, nj_str, bin2, bin2E, un1, callK, callE, cp, up, upB, asB, tst, tstE, consG, consE, tupG, lstG, tupE, lstE, andB, orB, notB, andV, orV, notV, ifV, andT, orT, notT, ifE, movN, frzN, ixNE, ixE, lendE, back, lenG, borG, maskF, seqV, seqE, rngV, rngE, enumV, enumE, zipV, zipE, wipeE, restE, yesB, yesT, kAdd, kAddI, kSub, kMul_c, kDiv_c, kMod_c, kPow_c, kLt, kLe, kGt, kGe, kIsN, kNotN, kNeg, kLen, kAbs, kInt, kids, kidsN, isiD, tyD, noOwn, noOwns, noShr, noShrs, fz, fzs, scV, optI, noI, slG, isTupD, chV, noOwns_nt, noShrs_nt, fzs_nt, noOwns_tups, noShrs_tups, fzs_tups, noOwns_append, kTup_ints, -List.map_map]
      obtain ⟨r0, r1⟩ := dr_range (L := L) (n := n') (m := 4) (by omega)
      refine Wp.forR (n := (dr L n' 4).toNat) (e0 := [bx L (n' + 1), .int m, .int 3, .lst true (zs.map D.int), .lst true ls, a, b, c, d]) ?_ (fun i e => TWI L m (1000 + i) e) ⟨_, zs, ls, _, _, _, _, rfl, hz, hg, by omega⟩ (fun i e hi hI => ?_) fun e h => ?_
      · simp [nj_bx, draw_val L n' (m := 4) (by omega), rngK_i (m := dr L n' 4) (by omega) (by omega), Wp_some, asgS, ftN, ftTup, ftCons, ftNil, retS, expS, ifS, augS, subS, setK, isLst, getK, augSubS, appE, popE, rd, nj_int, nj_tup, nj_lst, nj_frl, nj_bl, nj_non, nj_str, bin2, bin2E, un1, callK, callE, cp, up, upB, asB, tst, tstE, consG, consE, tupG, lstG, tupE, lstE, andB, orB, notB, andV, orV, notV, ifV, andT, orT, notT, ifE, movN, frzN, ixNE, ixE, lendE, back, lenG, borG, maskF, seqV, seqE, rngV, rngE, enumV, enumE, zipV, zipE, wipeE, restE, yesB, yesT, kAdd, kAddI, kSub, kMul_c, kDiv_c, kMod_c, kPow_c, kLt, kLe, kGt, kGe, kIsN, kNotN, kNeg, kLen, kAbs, kInt, kids, kidsN, isiD, tyD, noOwn, noOwns, noShr, noShrs, fz, fzs, scV, optI, noI, slG, isTupD, chV, noOwns_nt, noShrs_nt, fzs_nt, noOwns_tups, noShrs_tups, fzs_tups, noOwns_append, kTup_ints, -List.map_map]
      · obtain ⟨n', zs, ls, a, b, c, d, rfl, hz, hg, hl⟩ := hI
        generalize ((i : Nat) : Int) = w
        have hs : ls.length < sizeLine := below (m := 3000) (by omega) (by omega)
        obtain ⟨r0, r1⟩ := dr_range (L := L) (n := n') (m := m) (by omega)
        obtain ⟨x, y, hl2⟩ := lane_val (zs.getD (dr L n' m).toNat 0) (zs.getD ((dr L n' m + 1 + dr L (n' + 1) (m - 1)) % m).toNat 0)
        have e1 := kIx_i (L := zs) (o := true) (k := dr L n' m) (by omega) (by omega)
        have e2 := kIx_i (L := zs) (o := true) (k := (dr L n' m + 1 + dr L (n' + 1) (m - 1)) % m) (Int.emod_nonneg _ (by omega)) (by rw [hz]; exact Int.emod_lt_of_pos _ (by omega))
        have e3 := kMod_c (i := dr L n' m + 1 + dr L (n' + 1) (m - 1)) (j := m) (by omega)
        simp only [List.getD_eq_getElem?_getD] at hl2 e1 e2
        refine Wp.bind ?_
        simp [Wp_some, asgS, ftN, ftTup, ftCons, ftNil, retS, expS, ifS, augS, subS, setK, isLst, getK, augSubS, appE, popE, rd, nj_int, nj_tup, nj_lst, nj_frl, nj_bl, nj_non, nj_str, bin2, bin2E, un1, callK, callE, cp, up, upB, asB, tst, tstE, consG, consE, tupG, lstG, tupE, lstE, andB, orB, notB, andV, orV, notV, ifV, andT, orT, notT, ifE, movN, frzN, ixNE, ixE, lendE, back, lenG, borG, maskF, seqV, seqE, rngV, rngE, enumV, enumE, zipV, zipE, wipeE, restE, yesB, yesT, kAdd, kAddI, kSub, kMul_c, kDiv_c, kMod_c, kPow_c, kLt, kLe, kGt, kGe, kIsN, kNotN, kNeg, kLen, kAbs, kInt, kids, kidsN, isiD, tyD, noOwn, noOwns, noShr, noShrs, fz, fzs, scV, optI, noI, slG, isTupD, chV, noOwns_nt, noShrs_nt, fzs_nt, noOwns_tups, noShrs_tups, fzs_tups, noOwns_append, kTup_ints, -List.map_map]
        refine Wp.seq ?_
        simp [nj_bx, draw_val L n' (m := m) (by omega), Wp_some, asgS, ftN, ftTup, ftCons, ftNil, retS, expS, ifS, augS, subS, setK, isLst, getK, augSubS, appE, popE, rd, nj_int, nj_tup, nj_lst, nj_frl, nj_bl, nj_non, nj_str, bin2, bin2E, un1, callK, callE, cp, up, upB, asB, tst, tstE, consG, consE, tupG, lstG, tupE, lstE, andB, orB, notB, andV, orV, notV, ifV, andT, orT, notT, ifE, movN, frzN, ixNE, ixE, lendE, back, lenG, borG, maskF, seqV, seqE, rngV, rngE, enumV, enumE, zipV, zipE, wipeE, restE, yesB, yesT, kAdd, kAddI, kSub, kMul_c, kDiv_c, kMod_c, kPow_c, kLt, kLe, kGt, kGe, kIsN, kNotN, kNeg, kLen, kAbs, kInt, kids, kidsN, isiD, tyD, noOwn, noOwns, noShr, noShrs, fz, fzs, scV, optI, noI, slG, isTupD, chV, noOwns_nt, noShrs_nt, fzs_nt, noOwns_tups, noShrs_tups, fzs_tups, noOwns_append, kTup_ints, -List.map_map]
        refine Wp.seq ?_
        simp [nj_bx, draw_val L (n' + 1) (m := m - 1) (by omega), e3, Wp_some, asgS, ftN, ftTup, ftCons, ftNil, retS, expS, ifS, augS, subS, setK, isLst, getK, augSubS, appE, popE, rd, nj_int, nj_tup, nj_lst, nj_frl, nj_bl, nj_non, nj_str, bin2, bin2E, un1, callK, callE, cp, up, upB, asB, tst, tstE, consG, consE, tupG, lstG, tupE, lstE, andB, orB, notB, andV, orV, notV, ifV, andT, orT, notT, ifE, movN, frzN, ixNE, ixE, lendE, back, lenG, borG, maskF, seqV, seqE, rngV, rngE, enumV, enumE, zipV, zipE, wipeE, restE, yesB, yesT, kAdd, kAddI, kSub, kMul_c, kDiv_c, kMod_c, kPow_c, kLt, kLe, kGt, kGe, kIsN, kNotN, kNeg, kLen, kAbs, kInt, kids, kidsN, isiD, tyD, noOwn, noOwns, noShr, noShrs, fz, fzs, scV, optI, noI, slG, isTupD, chV, noOwns_nt, noShrs_nt, fzs_nt, noOwns_tups, noShrs_tups, fzs_tups, noOwns_append, kTup_ints, -List.map_map]
        simp [hl2, e1, e2, hs, expS, appE, Wp_some, asgS, ftN, ftTup, ftCons, ftNil, retS, expS, ifS, augS, subS, setK, isLst, getK, augSubS, appE, popE, rd, nj_int, nj_tup, nj_lst, nj_frl, nj_bl, nj_non, nj_str, bin2, bin2E, un1, callK, callE, cp, up, upB, asB, tst, tstE, consG, consE, tupG, lstG, tupE, lstE, andB, orB, notB, andV, orV, notV, ifV, andT, orT, notT, ifE, movN, frzN, ixNE, ixE, lendE, back, lenG, borG, maskF, seqV, seqE, rngV, rngE, enumV, enumE, zipV, zipE, wipeE, restE, yesB, yesT, kAdd, kAddI, kSub, kMul_c, kDiv_c, kMod_c, kPow_c, kLt, kLe, kGt, kGe, kIsN, kNotN, kNeg, kLen, kAbs, kInt, kids, kidsN, isiD, tyD, noOwn, noOwns, noShr, noShrs, fz, fzs, scV, optI, noI, slG, isTupD, chV, noOwns_nt, noShrs_nt, fzs_nt, noOwns_tups, noShrs_tups, fzs_tups, noOwns_append, kTup_ints, -List.map_map]
        refine ⟨_, zs, _, _, _, _, _, rfl, hz, fun d m => ?_, by simp; omega⟩
        rcases List.mem_append.mp m with m | m
        · exact hg d m
        · rw [List.mem_singleton.mp m]; exact goodT_pair _ _
      · obtain ⟨n', zs, ls, a, b, c, d, rfl, hz, hg, hl⟩ := h
        exact ⟨rfl, n', zs, ls, a, b, c, d, rfl, hz, hg, by omega⟩
    · simp [hm, Wp_some, asgS, ftN, ftTup, ftCons, ftNil, retS, expS, ifS, augS, subS, setK, isLst, getK, augSubS, appE, popE, rd, nj_int, nj_tup, nj_lst, nj_frl, nj_bl, nj_non, nj_str, bin2, bin2E, un1, callK, callE, cp, up, upB, asB, tst, tstE, consG, consE, tupG, lstG, tupE, lstE, andB, orB, notB, andV, orV, notV, ifV, andT, orT, notT, ifE, movN, frzN, ixNE, ixE, lendE, back, lenG, borG, maskF, seqV, seqE, rngV, rngE, enumV, enumE, zipV, zipE, wipeE, restE, yesB, yesT, kAdd, kAddI, kSub, kMul_c, kDiv_c, kMod_c, kPow_c, kLt, kLe, kGt, kGe, kIsN, kNotN, kNeg, kLen, kAbs, kInt, kids, kidsN, isiD, tyD, noOwn, noOwns, noShr, noShrs, fz, fzs, scV, optI, noI, slG, isTupD, chV, noOwns_nt, noShrs_nt, fzs_nt, noOwns_tups, noShrs_tups, fzs_tups, noOwns_append, kTup_ints, -List.map_map]
      exact ⟨n', zs, ls, a, b, c, d, rfl, hz, hg, by omega⟩
  rintro e ⟨n', zs, ls, a, b, c, d, rfl, hz, hg, hl⟩
  have hn : noOwns ls = true := noOwns_all fun d m => (hg d m).1
  have h2 : (2 : Nat) ≤ sizeLine := under (by omega)
  obtain ⟨q, hq, ys, hp, rfl⟩ := mixed_val L n' ls hn (by omega)
  have hy : noOwns ys = true := noOwns_all fun d m => (hg d (hp.mem_iff.mp m)).1
  simp [nj_bx, hn, hq, hy, h2, kTup, Wp_some, asgS, ftN, ftTup, ftCons, ftNil, retS, expS, ifS, augS, subS, setK, isLst, getK, augSubS, appE, popE, rd, nj_int, nj_tup, nj_lst, nj_frl, nj_bl, nj_non, nj_str, bin2, bin2E, un1, callK, callE, cp, up, upB, asB, tst, tstE, consG, consE, tupG, lstG, tupE, lstE, andB, orB, notB, andV, orV, notV, ifV, andT, orT, notT, ifE, movN, frzN, ixNE, ixE, lendE, back, lenG, borG, maskF, seqV, seqE, rngV, rngE, enumV, enumE, zipV, zipE, wipeE, restE, yesB, yesT, kAdd, kAddI, kSub, kMul_c, kDiv_c, kMod_c, kPow_c, kLt, kLe, kGt, kGe, kIsN, kNotN, kNeg, kLen, kAbs, kInt, kids, kidsN, isiD, tyD, noOwn, noOwns, noShr, noShrs, fz, fzs, scV, optI, noI, slG, isTupD, chV, noOwns_nt, noShrs_nt, fzs_nt, noOwns_tups, noShrs_tups, fzs_tups, noOwns_append, kTup_ints, -List.map_map]
  exact ⟨ys, fun d m => hg d (hp.mem_iff.mp m), rfl, _, rfl⟩
theorem script_val (L : List Int) (n : Nat) (m lo hi : Int) (h1 : 0 ≤ m) (h7 : m ≤ 100) (hlo : lo ≤ hi) :
    Wp (G__law_script [bx L n, .int m, .int lo, .int hi]) fun q => ∃ (S : List Int) (n' : Nat), (S.length : Int) = m ∧ (∀ x ∈ S, lo ≤ x ∧ x ≤ hi) ∧ q = (.tup (S.map D.int), [bx L n', .int m, .int lo, .int hi]) := by
  refine Wp.mkG rfl ?_
  simp only [D__law_script]
  refine Wp.ret (Wp.callE (Wp.one ?_))
  refine Wp.lcE (items := rgD 0 1 m.toNat) (e0 := [bx L n, .int m, .int lo, .int hi, .jnk]) ?_ (fun i ac e => ∃ (S : List Int) (n' : Nat), ac = S.map D.int ∧ S.length = i ∧ i ≤ 1000 ∧ (∀ x ∈ S, lo ≤ x ∧ x ≤ hi) ∧ e = [bx L n', .int m, .int lo, .int hi, .jnk]) ?_ (fun i d ac e hd hI => ?_) fun ac e hI => ?_
  · simp [rngK_i (m := m) (by omega) (by omega), Wp_some, asgS, ftN, ftTup, ftCons, ftNil, retS, expS, ifS, augS, subS, setK, isLst, getK, augSubS, appE, popE, rd, nj_int, nj_tup, nj_lst, nj_frl, nj_bl, nj_non, nj_str, bin2, bin2E, un1, callK, callE, cp, up, upB, asB, tst, tstE, consG, consE, tupG, lstG, tupE, lstE, andB, orB, notB, andV, orV, notV, ifV, andT, orT, notT, ifE, movN, frzN, ixNE, ixE, lendE, back, lenG, borG, maskF, seqV, seqE, rngV, rngE, enumV, enumE, zipV, zipE, wipeE, restE, yesB, yesT, kAdd, kAddI, kSub, kMul_c, kDiv_c, kMod_c, kPow_c, kLt, kLe, kGt, kGe, kIsN, kNotN, kNeg, kLen, kAbs, kInt, kids, kidsN, isiD, tyD, noOwn, noOwns, noShr, noShrs, fz, fzs, scV, optI, noI, slG, isTupD, chV, noOwns_nt, noShrs_nt, fzs_nt, noOwns_tups, noShrs_tups, fzs_tups, noOwns_append, kTup_ints, -List.map_map]
  · exact ⟨[], n, rfl, rfl, by omega, fun x m => (nomatch m), by simp [Wp_some, asgS, ftN, ftTup, ftCons, ftNil, retS, expS, ifS, augS, subS, setK, isLst, getK, augSubS, appE, popE, rd, nj_int, nj_tup, nj_lst, nj_frl, nj_bl, nj_non, nj_str, bin2, bin2E, un1, callK, callE, cp, up, upB, asB, tst, tstE, consG, consE, tupG, lstG, tupE, lstE, andB, orB, notB, andV, orV, notV, ifV, andT, orT, notT, ifE, movN, frzN, ixNE, ixE, lendE, back, lenG, borG, maskF, seqV, seqE, rngV, rngE, enumV, enumE, zipV, zipE, wipeE, restE, yesB, yesT, kAdd, kAddI, kSub, kMul_c, kDiv_c, kMod_c, kPow_c, kLt, kLe, kGt, kGe, kIsN, kNotN, kNeg, kLen, kAbs, kInt, kids, kidsN, isiD, tyD, noOwn, noOwns, noShr, noShrs, fz, fzs, scV, optI, noI, slG, isTupD, chV, noOwns_nt, noShrs_nt, fzs_nt, noOwns_tups, noShrs_tups, fzs_tups, noOwns_append, kTup_ints, -List.map_map]⟩
  · obtain ⟨S, n', rfl, hl, hi2, hr, rfl⟩ := hI
    have hlt := (List.getElem?_eq_some_iff.mp hd).1
    rw [rgD_len] at hlt
    have hs : S.length < sizeLine := below (m := 2000) (by omega) (by omega)
    obtain ⟨r0, r1⟩ := dr_range (L := L) (n := n') (m := hi - lo + 1) (by omega)
    simp [nj_bx, draw_val L n' (m := hi - lo + 1) (by omega), hs, Wp_some, asgS, ftN, ftTup, ftCons, ftNil, retS, expS, ifS, augS, subS, setK, isLst, getK, augSubS, appE, popE, rd, nj_int, nj_tup, nj_lst, nj_frl, nj_bl, nj_non, nj_str, bin2, bin2E, un1, callK, callE, cp, up, upB, asB, tst, tstE, consG, consE, tupG, lstG, tupE, lstE, andB, orB, notB, andV, orV, notV, ifV, andT, orT, notT, ifE, movN, frzN, ixNE, ixE, lendE, back, lenG, borG, maskF, seqV, seqE, rngV, rngE, enumV, enumE, zipV, zipE, wipeE, restE, yesB, yesT, kAdd, kAddI, kSub, kMul_c, kDiv_c, kMod_c, kPow_c, kLt, kLe, kGt, kGe, kIsN, kNotN, kNeg, kLen, kAbs, kInt, kids, kidsN, isiD, tyD, noOwn, noOwns, noShr, noShrs, fz, fzs, scV, optI, noI, slG, isTupD, chV, noOwns_nt, noShrs_nt, fzs_nt, noOwns_tups, noShrs_tups, fzs_tups, noOwns_append, kTup_ints, -List.map_map]
    refine ⟨S ++ [lo + dr L n' (hi - lo + 1)], nt_snoc _ _, by simp [hl], by omega, fun x hx => ?_, n' + 1, rfl⟩
    rcases List.mem_append.mp hx with hx | hx
    · exact hr x hx
    · rw [List.mem_singleton.mp hx]
      omega
  · obtain ⟨S, n', rfl, hl, hi2, hr, rfl⟩ := hI
    rw [rgD_len] at hl
    simp [kTup, Wp_some, asgS, ftN, ftTup, ftCons, ftNil, retS, expS, ifS, augS, subS, setK, isLst, getK, augSubS, appE, popE, rd, nj_int, nj_tup, nj_lst, nj_frl, nj_bl, nj_non, nj_str, bin2, bin2E, un1, callK, callE, cp, up, upB, asB, tst, tstE, consG, consE, tupG, lstG, tupE, lstE, andB, orB, notB, andV, orV, notV, ifV, andT, orT, notT, ifE, movN, frzN, ixNE, ixE, lendE, back, lenG, borG, maskF, seqV, seqE, rngV, rngE, enumV, enumE, zipV, zipE, wipeE, restE, yesB, yesT, kAdd, kAddI, kSub, kMul_c, kDiv_c, kMod_c, kPow_c, kLt, kLe, kGt, kGe, kIsN, kNotN, kNeg, kLen, kAbs, kInt, kids, kidsN, isiD, tyD, noOwn, noOwns, noShr, noShrs, fz, fzs, scV, optI, noI, slG, isTupD, chV, noOwns_nt, noShrs_nt, fzs_nt, noOwns_tups, noShrs_tups, fzs_tups, noOwns_append, kTup_ints, -List.map_map]
    exact ⟨S, by omega, hr, rfl, n', rfl⟩
theorem zipD_nt : ∀ xs ys : List Int, zipD (xs.map D.int) (ys.map D.int) = (xs.zip ys).map fun p => D.tup [.int p.1, .int p.2]
  | [], _ => rfl
  | _ :: _, [] => rfl
  | x :: r, y :: s => by
    have := zipD_nt r s
    unfold zipD at this ⊢
    simp only [List.map_cons, List.zipWith_cons_cons, List.zip_cons_cons, this]
theorem plus_val (xs ys : List Int) (h : xs.length ≤ 1000) : G_plus [.tup (xs.map D.int), .tup (ys.map D.int)] = some (.tup (((xs.zip ys).map fun p => p.1 + p.2).map D.int), [.tup (xs.map D.int), .tup (ys.map D.int)]) := by
  simp [G_plus, D_plus, mkG, seqS, forS, Wp_some, asgS, ftN, ftTup, ftCons, ftNil, retS, expS, ifS, augS, subS, setK, isLst, getK, augSubS, appE, popE, rd, nj_int, nj_tup, nj_lst, nj_frl, nj_bl, nj_non, nj_str, bin2, bin2E, un1, callK, callE, cp, up, upB, asB, tst, tstE, consG, consE, tupG, lstG, tupE, lstE, andB, orB, notB, andV, orV, notV, ifV, andT, orT, notT, ifE, movN, frzN, ixNE, ixE, lendE, back, lenG, borG, maskF, seqV, seqE, rngV, rngE, enumV, enumE, zipV, zipE, wipeE, restE, yesB, yesT, kAdd, kAddI, kSub, kMul_c, kDiv_c, kMod_c, kPow_c, kLt, kLe, kGt, kGe, kIsN, kNotN, kNeg, kLen, kAbs, kInt, kids, kidsN, isiD, tyD, noOwn, noOwns, noShr, noShrs, fz, fzs, scV, optI, noI, slG, isTupD, chV, noOwns_nt, noShrs_nt, fzs_nt, noOwns_tups, noShrs_tups, fzs_tups, noOwns_append, kTup_ints, -List.map_map]
  rw [lcV_map (xs.zip ys) (fun p => D.tup [.int p.1, .int p.2]) (fun p => .int (p.1 + p.2)) (by simp [zipD_nt, Wp_some, asgS, ftN, ftTup, ftCons, ftNil, retS, expS, ifS, augS, subS, setK, isLst, getK, augSubS, appE, popE, rd, nj_int, nj_tup, nj_lst, nj_frl, nj_bl, nj_non, nj_str, bin2, bin2E, un1, callK, callE, cp, up, upB, asB, tst, tstE, consG, consE, tupG, lstG, tupE, lstE, andB, orB, notB, andV, orV, notV, ifV, andT, orT, notT, ifE, movN, frzN, ixNE, ixE, lendE, back, lenG, borG, maskF, seqV, seqE, rngV, rngE, enumV, enumE, zipV, zipE, wipeE, restE, yesB, yesT, kAdd, kAddI, kSub, kMul_c, kDiv_c, kMod_c, kPow_c, kLt, kLe, kGt, kGe, kIsN, kNotN, kNeg, kLen, kAbs, kInt, kids, kidsN, isiD, tyD, noOwn, noOwns, noShr, noShrs, fz, fzs, scV, optI, noI, slG, isTupD, chV, noOwns_nt, noShrs_nt, fzs_nt, noOwns_tups, noShrs_tups, fzs_tups, noOwns_append, kTup_ints, -List.map_map]) (by rw [List.length_zip]; exact under (by omega)) (fun p hp => ⟨_, rfl, by simp [Wp_some, asgS, ftN, ftTup, ftCons, ftNil, retS, expS, ifS, augS, subS, setK, isLst, getK, augSubS, appE, popE, rd, nj_int, nj_tup, nj_lst, nj_frl, nj_bl, nj_non, nj_str, bin2, bin2E, un1, callK, callE, cp, up, upB, asB, tst, tstE, consG, consE, tupG, lstG, tupE, lstE, andB, orB, notB, andV, orV, notV, ifV, andT, orT, notT, ifE, movN, frzN, ixNE, ixE, lendE, back, lenG, borG, maskF, seqV, seqE, rngV, rngE, enumV, enumE, zipV, zipE, wipeE, restE, yesB, yesT, kAdd, kAddI, kSub, kMul_c, kDiv_c, kMod_c, kPow_c, kLt, kLe, kGt, kGe, kIsN, kNotN, kNeg, kLen, kAbs, kInt, kids, kidsN, isiD, tyD, noOwn, noOwns, noShr, noShrs, fz, fzs, scV, optI, noI, slG, isTupD, chV, noOwns_nt, noShrs_nt, fzs_nt, noOwns_tups, noShrs_tups, fzs_tups, noOwns_append, kTup_ints, -List.map_map]⟩)]
  have e : ((xs.zip ys).map fun p => D.int (p.1 + p.2)) = ((xs.zip ys).map fun p => p.1 + p.2).map D.int := by rw [List.map_map]; rfl
  rw [e]
  simp only [Option.bind_some, kTup_ints]
  simp [Function.comp_def, Wp_some, asgS, ftN, ftTup, ftCons, ftNil, retS, expS, ifS, augS, subS, setK, isLst, getK, augSubS, appE, popE, rd, nj_int, nj_tup, nj_lst, nj_frl, nj_bl, nj_non, nj_str, bin2, bin2E, un1, callK, callE, cp, up, upB, asB, tst, tstE, consG, consE, tupG, lstG, tupE, lstE, andB, orB, notB, andV, orV, notV, ifV, andT, orT, notT, ifE, movN, frzN, ixNE, ixE, lendE, back, lenG, borG, maskF, seqV, seqE, rngV, rngE, enumV, enumE, zipV, zipE, wipeE, restE, yesB, yesT, kAdd, kAddI, kSub, kMul_c, kDiv_c, kMod_c, kPow_c, kLt, kLe, kGt, kGe, kIsN, kNotN, kNeg, kLen, kAbs, kInt, kids, kidsN, isiD, tyD, noOwn, noOwns, noShr, noShrs, fz, fzs, scV, optI, noI, slG, isTupD, chV, noOwns_nt, noShrs_nt, fzs_nt, noOwns_tups, noShrs_tups, fzs_tups, noOwns_append, kTup_ints, -List.map_map]
theorem minus_val (xs ys : List Int) (h : xs.length ≤ 1000) : G_minus [.tup (xs.map D.int), .tup (ys.map D.int)] = some (.tup (((xs.zip ys).map fun p => p.1 - p.2).map D.int), [.tup (xs.map D.int), .tup (ys.map D.int)]) := by
  simp [G_minus, D_minus, mkG, seqS, forS, Wp_some, asgS, ftN, ftTup, ftCons, ftNil, retS, expS, ifS, augS, subS, setK, isLst, getK, augSubS, appE, popE, rd, nj_int, nj_tup, nj_lst, nj_frl, nj_bl, nj_non, nj_str, bin2, bin2E, un1, callK, callE, cp, up, upB, asB, tst, tstE, consG, consE, tupG, lstG, tupE, lstE, andB, orB, notB, andV, orV, notV, ifV, andT, orT, notT, ifE, movN, frzN, ixNE, ixE, lendE, back, lenG, borG, maskF, seqV, seqE, rngV, rngE, enumV, enumE, zipV, zipE, wipeE, restE, yesB, yesT, kAdd, kAddI, kSub, kMul_c, kDiv_c, kMod_c, kPow_c, kLt, kLe, kGt, kGe, kIsN, kNotN, kNeg, kLen, kAbs, kInt, kids, kidsN, isiD, tyD, noOwn, noOwns, noShr, noShrs, fz, fzs, scV, optI, noI, slG, isTupD, chV, noOwns_nt, noShrs_nt, fzs_nt, noOwns_tups, noShrs_tups, fzs_tups, noOwns_append, kTup_ints, -List.map_map]
  rw [lcV_map (xs.zip ys) (fun p => D.tup [.int p.1, .int p.2]) (fun p => .int (p.1 - p.2)) (by simp [zipD_nt, Wp_some, asgS, ftN, ftTup, ftCons, ftNil, retS, expS, ifS, augS, subS, setK, isLst, getK, augSubS, appE, popE, rd, nj_int, nj_tup, nj_lst, nj_frl, nj_bl, nj_non, nj_str, bin2, bin2E, un1, callK, callE, cp, up, upB, asB, tst, tstE, consG, consE, tupG, lstG, tupE, lstE, andB, orB, notB, andV, orV, notV, ifV, andT, orT, notT, ifE, movN, frzN, ixNE, ixE, lendE, back, lenG, borG, maskF, seqV, seqE, rngV, rngE, enumV, enumE, zipV, zipE, wipeE, restE, yesB, yesT, kAdd, kAddI, kSub, kMul_c, kDiv_c, kMod_c, kPow_c, kLt, kLe, kGt, kGe, kIsN, kNotN, kNeg, kLen, kAbs, kInt, kids, kidsN, isiD, tyD, noOwn, noOwns, noShr, noShrs, fz, fzs, scV, optI, noI, slG, isTupD, chV, noOwns_nt, noShrs_nt, fzs_nt, noOwns_tups, noShrs_tups, fzs_tups, noOwns_append, kTup_ints, -List.map_map]) (by rw [List.length_zip]; exact under (by omega)) (fun p hp => ⟨_, rfl, by simp [Wp_some, asgS, ftN, ftTup, ftCons, ftNil, retS, expS, ifS, augS, subS, setK, isLst, getK, augSubS, appE, popE, rd, nj_int, nj_tup, nj_lst, nj_frl, nj_bl, nj_non, nj_str, bin2, bin2E, un1, callK, callE, cp, up, upB, asB, tst, tstE, consG, consE, tupG, lstG, tupE, lstE, andB, orB, notB, andV, orV, notV, ifV, andT, orT, notT, ifE, movN, frzN, ixNE, ixE, lendE, back, lenG, borG, maskF, seqV, seqE, rngV, rngE, enumV, enumE, zipV, zipE, wipeE, restE, yesB, yesT, kAdd, kAddI, kSub, kMul_c, kDiv_c, kMod_c, kPow_c, kLt, kLe, kGt, kGe, kIsN, kNotN, kNeg, kLen, kAbs, kInt, kids, kidsN, isiD, tyD, noOwn, noOwns, noShr, noShrs, fz, fzs, scV, optI, noI, slG, isTupD, chV, noOwns_nt, noShrs_nt, fzs_nt, noOwns_tups, noShrs_tups, fzs_tups, noOwns_append, kTup_ints, -List.map_map]⟩)]
  have e : ((xs.zip ys).map fun p => D.int (p.1 - p.2)) = ((xs.zip ys).map fun p => p.1 - p.2).map D.int := by rw [List.map_map]; rfl
  rw [e]
  simp only [Option.bind_some, kTup_ints]
  simp [Function.comp_def, Wp_some, asgS, ftN, ftTup, ftCons, ftNil, retS, expS, ifS, augS, subS, setK, isLst, getK, augSubS, appE, popE, rd, nj_int, nj_tup, nj_lst, nj_frl, nj_bl, nj_non, nj_str, bin2, bin2E, un1, callK, callE, cp, up, upB, asB, tst, tstE, consG, consE, tupG, lstG, tupE, lstE, andB, orB, notB, andV, orV, notV, ifV, andT, orT, notT, ifE, movN, frzN, ixNE, ixE, lendE, back, lenG, borG, maskF, seqV, seqE, rngV, rngE, enumV, enumE, zipV, zipE, wipeE, restE, yesB, yesT, kAdd, kAddI, kSub, kMul_c, kDiv_c, kMod_c, kPow_c, kLt, kLe, kGt, kGe, kIsN, kNotN, kNeg, kLen, kAbs, kInt, kids, kidsN, isiD, tyD, noOwn, noOwns, noShr, noShrs, fz, fzs, scV, optI, noI, slG, isTupD, chV, noOwns_nt, noShrs_nt, fzs_nt, noOwns_tups, noShrs_tups, fzs_tups, noOwns_append, kTup_ints, -List.map_map]
theorem kMin_tup {S : List Int} {m : Int} (h : minD S = some m) : kMin [.tup (S.map D.int)] = some (.int m) := by
  show ((some (S.map D.int)).bind fun xs => (intsD xs).bind fun ns => (minD ns).map D.int) = _
  rw [Option.bind_some, intsD_map, Option.bind_some, h]; rfl
theorem kMin_lst {S : List Int} {o : Bool} {m : Int} (h : minD S = some m) : kMin [.lst o (S.map D.int)] = some (.int m) := by
  show ((some (S.map D.int)).bind fun xs => (intsD xs).bind fun ns => (minD ns).map D.int) = _
  rw [Option.bind_some, intsD_map, Option.bind_some, h]; rfl
theorem kMax_tup {S : List Int} {m : Int} (h : maxD S = some m) : kMax [.tup (S.map D.int)] = some (.int m) := by
  show ((some (S.map D.int)).bind fun xs => (intsD xs).bind fun ns => (maxD ns).map D.int) = _
  rw [Option.bind_some, intsD_map, Option.bind_some, h]; rfl
def lowL (S : List Int) (m : Int) : List Int := S.map (· - m)
theorem zip_const (S : List Int) (m : Int) : ((S.zip (S.map fun _ => m)).map fun p => p.1 - p.2) = lowL S m := by
  unfold lowL
  induction S with
  | nil => rfl
  | cons x r ih => simp only [List.map_cons, List.zip_cons_cons, ih]
theorem map_nt {α : Type} (f : α → Int) (xs : List α) : (xs.map fun x => D.int (f x)) = (xs.map f).map D.int := by rw [List.map_map]; rfl
theorem lowered_val (S : List Int) (m : Int) (h : S.length ≤ 1000) (hm : minD S = some m) : G_lowered [.tup (S.map D.int)] = some (.tup ((lowL S m).map D.int), [.tup (S.map D.int)]) := by
  simp [G_lowered, D_lowered, mkG, seqS, forS, Wp_some, asgS, ftN, ftTup, ftCons, ftNil, retS, expS, ifS, augS, subS, setK, isLst, getK, augSubS, appE, popE, rd, nj_int, nj_tup, nj_lst, nj_frl, nj_bl, nj_non, nj_str, bin2, bin2E, un1, callK, callE, cp, up, upB, asB, tst, tstE, consG, consE, tupG, lstG, tupE, lstE, andB, orB, notB, andV, orV, notV, ifV, andT, orT, notT, ifE, movN, frzN, ixNE, ixE, lendE, back, lenG, borG, maskF, seqV, seqE, rngV, rngE, enumV, enumE, zipV, zipE, wipeE, restE, yesB, yesT, kAdd, kAddI, kSub, kMul_c, kDiv_c, kMod_c, kPow_c, kLt, kLe, kGt, kGe, kIsN, kNotN, kNeg, kLen, kAbs, kInt, kids, kidsN, isiD, tyD, noOwn, noOwns, noShr, noShrs, fz, fzs, scV, optI, noI, slG, isTupD, chV, noOwns_nt, noShrs_nt, fzs_nt, noOwns_tups, noShrs_tups, fzs_tups, noOwns_append, kTup_ints, -List.map_map]
  rw [lcV_map S D.int (fun _ => .int m) (by simp [Wp_some, asgS, ftN, ftTup, ftCons, ftNil, retS, expS, ifS, augS, subS, setK, isLst, getK, augSubS, appE, popE, rd, nj_int, nj_tup, nj_lst, nj_frl, nj_bl, nj_non, nj_str, bin2, bin2E, un1, callK, callE, cp, up, upB, asB, tst, tstE, consG, consE, tupG, lstG, tupE, lstE, andB, orB, notB, andV, orV, notV, ifV, andT, orT, notT, ifE, movN, frzN, ixNE, ixE, lendE, back, lenG, borG, maskF, seqV, seqE, rngV, rngE, enumV, enumE, zipV, zipE, wipeE, restE, yesB, yesT, kAdd, kAddI, kSub, kMul_c, kDiv_c, kMod_c, kPow_c, kLt, kLe, kGt, kGe, kIsN, kNotN, kNeg, kLen, kAbs, kInt, kids, kidsN, isiD, tyD, noOwn, noOwns, noShr, noShrs, fz, fzs, scV, optI, noI, slG, isTupD, chV, noOwns_nt, noShrs_nt, fzs_nt, noOwns_tups, noShrs_tups, fzs_tups, noOwns_append, kTup_ints, -List.map_map]) (under (by omega)) (fun p hp => ⟨_, rfl, by simp [kMin_tup hm, Wp_some, asgS, ftN, ftTup, ftCons, ftNil, retS, expS, ifS, augS, subS, setK, isLst, getK, augSubS, appE, popE, rd, nj_int, nj_tup, nj_lst, nj_frl, nj_bl, nj_non, nj_str, bin2, bin2E, un1, callK, callE, cp, up, upB, asB, tst, tstE, consG, consE, tupG, lstG, tupE, lstE, andB, orB, notB, andV, orV, notV, ifV, andT, orT, notT, ifE, movN, frzN, ixNE, ixE, lendE, back, lenG, borG, maskF, seqV, seqE, rngV, rngE, enumV, enumE, zipV, zipE, wipeE, restE, yesB, yesT, kAdd, kAddI, kSub, kMul_c, kDiv_c, kMod_c, kPow_c, kLt, kLe, kGt, kGe, kIsN, kNotN, kNeg, kLen, kAbs, kInt, kids, kidsN, isiD, tyD, noOwn, noOwns, noShr, noShrs, fz, fzs, scV, optI, noI, slG, isTupD, chV, noOwns_nt, noShrs_nt, fzs_nt, noOwns_tups, noShrs_tups, fzs_tups, noOwns_append, kTup_ints, -List.map_map]⟩), map_nt (fun _ : Int => m) S]
  have := minus_val S (S.map fun _ => m) h
  rw [zip_const] at this
  simp only [Option.bind_some, kTup_ints]
  simp [this, Wp_some, asgS, ftN, ftTup, ftCons, ftNil, retS, expS, ifS, augS, subS, setK, isLst, getK, augSubS, appE, popE, rd, nj_int, nj_tup, nj_lst, nj_frl, nj_bl, nj_non, nj_str, bin2, bin2E, un1, callK, callE, cp, up, upB, asB, tst, tstE, consG, consE, tupG, lstG, tupE, lstE, andB, orB, notB, andV, orV, notV, ifV, andT, orT, notT, ifE, movN, frzN, ixNE, ixE, lendE, back, lenG, borG, maskF, seqV, seqE, rngV, rngE, enumV, enumE, zipV, zipE, wipeE, restE, yesB, yesT, kAdd, kAddI, kSub, kMul_c, kDiv_c, kMod_c, kPow_c, kLt, kLe, kGt, kGe, kIsN, kNotN, kNeg, kLen, kAbs, kInt, kids, kidsN, isiD, tyD, noOwn, noOwns, noShr, noShrs, fz, fzs, scV, optI, noI, slG, isTupD, chV, noOwns_nt, noShrs_nt, fzs_nt, noOwns_tups, noShrs_tups, fzs_tups, noOwns_append, kTup_ints, -List.map_map]
def dayR (low : List Int) (M d : Int) : List Nat := (List.range low.length).filter fun i => decide (M - d ≤ low.getD i 0)
def daysL (low : List Int) (M : Int) (k : Nat) : List (List Int) := (List.range k).map fun (d : Nat) => (dayR low M d).map fun (i : Nat) => (i : Int)
theorem enumD_nt (low : List Int) : enumD (low.map D.int) = (List.range low.length).map fun (i : Nat) => D.tup [.int i, .int (low.getD i 0)] := by
  unfold enumD
  apply List.ext_getElem
  · simp
  · intro i h1 h2
    have : i < low.length := by simpa using h2
    simp [List.getD, List.getElem?_eq_getElem this]
theorem days_of_val (S : List Int) (m M : Int) (h : S.length ≤ 1000) (hm : minD S = some m) (hM : maxD (lowL S m) = some M) (h0 : 0 ≤ M) (h1 : M ≤ 1000) :
    G_days_of [.tup (S.map D.int)] = some (.lst true ((daysL (lowL S m) M M.toNat).map fun x => D.tup (x.map D.int)), [.tup (S.map D.int)]) := by
  have hl : (lowL S m).length ≤ 1000 := by unfold lowL; simpa using h
  generalize hlow : lowL S m = low at hM hl
  have key : Wp (G_days_of [.tup (S.map D.int)]) fun q => q = (.lst true ((daysL low M M.toNat).map fun x => D.tup (x.map D.int)), [.tup (S.map D.int)]) := by
    refine Wp.mkG rfl ?_
    simp only [D_days_of]
    refine Wp.seq ?_
    simp [lowered_val S m h hm, hlow, Wp_some, asgS, ftN, ftTup, ftCons, ftNil, retS, expS, ifS, augS, subS, setK, isLst, getK, augSubS, appE, popE, rd, nj_int, nj_tup, nj_lst, nj_frl, nj_bl, nj_non, nj_str, bin2, bin2E, un1, callK, callE, cp, up, upB, asB, tst, tstE, consG, consE, tupG, lstG, tupE, lstE, andB, orB, notB, andV, orV, notV, ifV, andT, orT, notT, ifE, movN, frzN, ixNE, ixE, lendE, back, lenG, borG, maskF, seqV, seqE, rngV, rngE, enumV, enumE, zipV, zipE, wipeE, restE, yesB, yesT, kAdd, kAddI, kSub, kMul_c, kDiv_c, kMod_c, kPow_c, kLt, kLe, kGt, kGe, kIsN, kNotN, kNeg, kLen, kAbs, kInt, kids, kidsN, isiD, tyD, noOwn, noOwns, noShr, noShrs, fz, fzs, scV, optI, noI, slG, isTupD, chV, noOwns_nt, noShrs_nt, fzs_nt, noOwns_tups, noShrs_tups, fzs_tups, noOwns_append, kTup_ints, -List.map_map]
    refine Wp.seq ?_
    simp [kMax_tup hM, Wp_some, asgS, ftN, ftTup, ftCons, ftNil, retS, expS, ifS, augS, subS, setK, isLst, getK, augSubS, appE, popE, rd, nj_int, nj_tup, nj_lst, nj_frl, nj_bl, nj_non, nj_str, bin2, bin2E, un1, callK, callE, cp, up, upB, asB, tst, tstE, consG, consE, tupG, lstG, tupE, lstE, andB, orB, notB, andV, orV, notV, ifV, andT, orT, notT, ifE, movN, frzN, ixNE, ixE, lendE, back, lenG, borG, maskF, seqV, seqE, rngV, rngE, enumV, enumE, zipV, zipE, wipeE, restE, yesB, yesT, kAdd, kAddI, kSub, kMul_c, kDiv_c, kMod_c, kPow_c, kLt, kLe, kGt, kGe, kIsN, kNotN, kNeg, kLen, kAbs, kInt, kids, kidsN, isiD, tyD, noOwn, noOwns, noShr, noShrs, fz, fzs, scV, optI, noI, slG, isTupD, chV, noOwns_nt, noShrs_nt, fzs_nt, noOwns_tups, noShrs_tups, fzs_tups, noOwns_append, kTup_ints, -List.map_map]
    refine Wp.seq ?_
    simp [Wp_some, asgS, ftN, ftTup, ftCons, ftNil, retS, expS, ifS, augS, subS, setK, isLst, getK, augSubS, appE, popE, rd, nj_int, nj_tup, nj_lst, nj_frl, nj_bl, nj_non, nj_str, bin2, bin2E, un1, callK, callE, cp, up, upB, asB, tst, tstE, consG, consE, tupG, lstG, tupE, lstE, andB, orB, notB, andV, orV, notV, ifV, andT, orT, notT, ifE, movN, frzN, ixNE, ixE, lendE, back, lenG, borG, maskF, seqV, seqE, rngV, rngE, enumV, enumE, zipV, zipE, wipeE, restE, yesB, yesT, kAdd, kAddI, kSub, kMul_c, kDiv_c, kMod_c, kPow_c, kLt, kLe, kGt, kGe, kIsN, kNotN, kNeg, kLen, kAbs, kInt, kids, kidsN, isiD, tyD, noOwn, noOwns, noShr, noShrs, fz, fzs, scV, optI, noI, slG, isTupD, chV, noOwns_nt, noShrs_nt, fzs_nt, noOwns_tups, noShrs_tups, fzs_tups, noOwns_append, kTup_ints, -List.map_map]
    refine Wp.then (fun e => ∃ (a b c : D), e = [.tup (S.map D.int), .tup (low.map D.int), .int M, .lst true ((daysL low M M.toNat).map fun x => D.tup (x.map D.int)), a, b, c]) ?_ ?_
    · refine Wp.forR (n := M.toNat) (e0 := [.tup (S.map D.int), .tup (low.map D.int), .int M, .lst true [], .jnk, .jnk, .jnk]) ?_ (fun k e => ∃ (a b c : D), e = [.tup (S.map D.int), .tup (low.map D.int), .int M, .lst true ((daysL low M k).map fun x => D.tup (x.map D.int)), a, b, c]) ⟨_, _, _, rfl⟩ (fun i e hi hI => ?_) fun e h => ⟨rfl, h⟩
      · simp [rngK_i (m := M) (by omega) (by omega), Wp_some, asgS, ftN, ftTup, ftCons, ftNil, retS, expS, ifS, augS, subS, setK, isLst, getK, augSubS, appE, popE, rd, nj_int, nj_tup, nj_lst, nj_frl, nj_bl, nj_non, nj_str, bin2, bin2E, un1, callK, callE, cp, up, upB, asB, tst, tstE, consG, consE, tupG, lstG, tupE, lstE, andB, orB, notB, andV, orV, notV, ifV, andT, orT, notT, ifE, movN, frzN, ixNE, ixE, lendE, back, lenG, borG, maskF, seqV, seqE, rngV, rngE, enumV, enumE, zipV, zipE, wipeE, restE, yesB, yesT, kAdd, kAddI, kSub, kMul_c, kDiv_c, kMod_c, kPow_c, kLt, kLe, kGt, kGe, kIsN, kNotN, kNeg, kLen, kAbs, kInt, kids, kidsN, isiD, tyD, noOwn, noOwns, noShr, noShrs, fz, fzs, scV, optI, noI, slG, isTupD, chV, noOwns_nt, noShrs_nt, fzs_nt, noOwns_tups, noShrs_tups, fzs_tups, noOwns_append, kTup_ints, -List.map_map]
      · obtain ⟨a, b, c, rfl⟩ := hI
        have hs : (daysL low M i).length < sizeLine := below (m := 2000) (by simp [daysL]; omega) (by omega)
        refine Wp.bind ?_
        simp [ftN, Wp_some]
        simp only [expS, appE, up, callK, consG, isLst, rd, List.getElem?_cons_zero, List.getElem?_cons_succ, Option.bind_some, nj_lst]
        rw [lcV_filter (List.range low.length) (fun (i : Nat) => D.tup [.int i, .int (low.getD i 0)]) (fun j => decide (M - (i : Int) ≤ low.getD j 0)) (fun (i : Nat) => .int i) (by simp [enumD_nt, Wp_some, asgS, ftN, ftTup, ftCons, ftNil, retS, expS, ifS, augS, subS, setK, isLst, getK, augSubS, appE, popE, rd, nj_int, nj_tup, nj_lst, nj_frl, nj_bl, nj_non, nj_str, bin2, bin2E, un1, callK, callE, cp, up, upB, asB, tst, tstE, consG, consE, tupG, lstG, tupE, lstE, andB, orB, notB, andV, orV, notV, ifV, andT, orT, notT, ifE, movN, frzN, ixNE, ixE, lendE, back, lenG, borG, maskF, seqV, seqE, rngV, rngE, enumV, enumE, zipV, zipE, wipeE, restE, yesB, yesT, kAdd, kAddI, kSub, kMul_c, kDiv_c, kMod_c, kPow_c, kLt, kLe, kGt, kGe, kIsN, kNotN, kNeg, kLen, kAbs, kInt, kids, kidsN, isiD, tyD, noOwn, noOwns, noShr, noShrs, fz, fzs, scV, optI, noI, slG, isTupD, chV, noOwns_nt, noShrs_nt, fzs_nt, noOwns_tups, noShrs_tups, fzs_tups, noOwns_append, kTup_ints, -List.map_map]) (by rw [List.length_range]; exact under (by omega)) (fun p hp => ⟨_, rfl, by simp [Wp_some, asgS, ftN, ftTup, ftCons, ftNil, retS, expS, ifS, augS, subS, setK, isLst, getK, augSubS, appE, popE, rd, nj_int, nj_tup, nj_lst, nj_frl, nj_bl, nj_non, nj_str, bin2, bin2E, un1, callK, callE, cp, up, upB, asB, tst, tstE, consG, consE, tupG, lstG, tupE, lstE, andB, orB, notB, andV, orV, notV, ifV, andT, orT, notT, ifE, movN, frzN, ixNE, ixE, lendE, back, lenG, borG, maskF, seqV, seqE, rngV, rngE, enumV, enumE, zipV, zipE, wipeE, restE, yesB, yesT, kAdd, kAddI, kSub, kMul_c, kDiv_c, kMod_c, kPow_c, kLt, kLe, kGt, kGe, kIsN, kNotN, kNeg, kLen, kAbs, kInt, kids, kidsN, isiD, tyD, noOwn, noOwns, noShr, noShrs, fz, fzs, scV, optI, noI, slG, isTupD, chV, noOwns_nt, noShrs_nt, fzs_nt, noOwns_tups, noShrs_tups, fzs_tups, noOwns_append, kTup_ints, -List.map_map], fun _ => by simp [Wp_some, asgS, ftN, ftTup, ftCons, ftNil, retS, expS, ifS, augS, subS, setK, isLst, getK, augSubS, appE, popE, rd, nj_int, nj_tup, nj_lst, nj_frl, nj_bl, nj_non, nj_str, bin2, bin2E, un1, callK, callE, cp, up, upB, asB, tst, tstE, consG, consE, tupG, lstG, tupE, lstE, andB, orB, notB, andV, orV, notV, ifV, andT, orT, notT, ifE, movN, frzN, ixNE, ixE, lendE, back, lenG, borG, maskF, seqV, seqE, rngV, rngE, enumV, enumE, zipV, zipE, wipeE, restE, yesB, yesT, kAdd, kAddI, kSub, kMul_c, kDiv_c, kMod_c, kPow_c, kLt, kLe, kGt, kGe, kIsN, kNotN, kNeg, kLen, kAbs, kInt, kids, kidsN, isiD, tyD, noOwn, noOwns, noShr, noShrs, fz, fzs, scV, optI, noI, slG, isTupD, chV, noOwns_nt, noShrs_nt, fzs_nt, noOwns_tups, noShrs_tups, fzs_tups, noOwns_append, kTup_ints, -List.map_map]⟩)]
        rw [map_nt (fun (i : Nat) => (i : Int))]
        simp only [Option.bind_some, Option.map_some, kTup_ints]
        simp [hs, Wp_some, asgS, ftN, ftTup, ftCons, ftNil, retS, expS, ifS, augS, subS, setK, isLst, getK, augSubS, appE, popE, rd, nj_int, nj_tup, nj_lst, nj_frl, nj_bl, nj_non, nj_str, bin2, bin2E, un1, callK, callE, cp, up, upB, asB, tst, tstE, consG, consE, tupG, lstG, tupE, lstE, andB, orB, notB, andV, orV, notV, ifV, andT, orT, notT, ifE, movN, frzN, ixNE, ixE, lendE, back, lenG, borG, maskF, seqV, seqE, rngV, rngE, enumV, enumE, zipV, zipE, wipeE, restE, yesB, yesT, kAdd, kAddI, kSub, kMul_c, kDiv_c, kMod_c, kPow_c, kLt, kLe, kGt, kGe, kIsN, kNotN, kNeg, kLen, kAbs, kInt, kids, kidsN, isiD, tyD, noOwn, noOwns, noShr, noShrs, fz, fzs, scV, optI, noI, slG, isTupD, chV, noOwns_nt, noShrs_nt, fzs_nt, noOwns_tups, noShrs_tups, fzs_tups, noOwns_append, kTup_ints, -List.map_map]
        unfold daysL
        rw [List.range_succ, List.map_append, List.map_append]
        simp [dayR, Function.comp_def]
    rintro e ⟨a, b, c, rfl⟩
    simp [Wp_some, asgS, ftN, ftTup, ftCons, ftNil, retS, expS, ifS, augS, subS, setK, isLst, getK, augSubS, appE, popE, rd, nj_int, nj_tup, nj_lst, nj_frl, nj_bl, nj_non, nj_str, bin2, bin2E, un1, callK, callE, cp, up, upB, asB, tst, tstE, consG, consE, tupG, lstG, tupE, lstE, andB, orB, notB, andV, orV, notV, ifV, andT, orT, notT, ifE, movN, frzN, ixNE, ixE, lendE, back, lenG, borG, maskF, seqV, seqE, rngV, rngE, enumV, enumE, zipV, zipE, wipeE, restE, yesB, yesT, kAdd, kAddI, kSub, kMul_c, kDiv_c, kMod_c, kPow_c, kLt, kLe, kGt, kGe, kIsN, kNotN, kNeg, kLen, kAbs, kInt, kids, kidsN, isiD, tyD, noOwn, noOwns, noShr, noShrs, fz, fzs, scV, optI, noI, slG, isTupD, chV, noOwns_nt, noShrs_nt, fzs_nt, noOwns_tups, noShrs_tups, fzs_tups, noOwns_append, kTup_ints, -List.map_map]
  obtain ⟨q, e, rfl⟩ := key
  exact e
end LT

set_option Elab.async false
set_option linter.all false
set_option maxRecDepth 100000
set_option maxHeartbeats 2000000
namespace LT
open PySem PySem.Spec PyProof.Rows L2
def absI (i : Int) : Int := if i < 0 then -i else i
def costAt (S : List Int) (c : Int) : Int := (S.map fun x => absI (x - c)).sum
theorem kSum_lst {o : Bool} {S : List Int} : kSum [.lst o (S.map D.int)] = some (.int S.sum) := by simp [kSum, kids, intsD_map]
theorem kSorted_tup {S : List Int} : kSorted [.tup (S.map D.int)] = some (.lst true ((sortI S).map D.int)) := by simp [kSorted, kids, intsD_map]
theorem sortI_len (S : List Int) : (sortI S).length = S.length := (sortI_perm S).length_eq
theorem kAbs_int {i : Int} : kAbs [.int i] = some (.int (absI i)) := rfl
theorem cost_of_val (S : List Int) (h : S.length ≤ 1000) (h0 : 1 ≤ S.length) : G_cost_of [.tup (S.map D.int)] = some (.int (costAt S ((sortI S).getD (S.length / 2) 0)), [.tup (S.map D.int)]) := by
  obtain ⟨k, hk⟩ : ∃ k : Int, k = (S.length : Int) / 2 := ⟨_, rfl⟩
  have hk2 : k.toNat = S.length / 2 := by omega
  have e1 := kIx_i (L := sortI S) (o := true) (k := k) (by omega) (by rw [sortI_len]; omega)
  have e2 := kDiv_c (i := (S.length : Int)) (j := 2) (by omega) (by omega)
  rw [← hk] at e2
  rw [hk2] at e1
  generalize hmid : (sortI S).getD (S.length / 2) 0 = mid at e1 ⊢
  have key : Wp (G_cost_of [.tup (S.map D.int)]) fun q => q = (.int (costAt S mid), [.tup (S.map D.int)]) := by
    refine Wp.mkG rfl ?_
    simp only [D_cost_of]
    refine Wp.then (fun e => e = [.tup (S.map D.int), .int mid, .jnk]) ?_ ?_
    · refine Wp.asg ?_
      simp only [up, cp, bin2, callK, consG, rd, List.cons_append, List.nil_append, List.getElem?_cons_zero, Option.bind_some, nj_tup, Option.map_some, kSorted_tup, kLen, kids, List.length_map, e2, e1]
      simp [Wp_some, asgS, ftN, ftTup, ftCons, ftNil, retS, expS, ifS, augS, subS, setK, isLst, getK, augSubS, appE, popE, rd, nj_int, nj_tup, nj_lst, nj_frl, nj_bl, nj_non, nj_str, bin2, bin2E, un1, callK, callE, cp, up, upB, asB, tst, tstE, consG, consE, tupG, lstG, tupE, lstE, andB, orB, notB, andV, orV, notV, ifV, andT, orT, notT, ifE, movN, frzN, ixNE, ixE, lendE, back, lenG, borG, maskF, seqV, seqE, rngV, rngE, enumV, enumE, zipV, zipE, wipeE, restE, yesB, yesT, kAdd, kAddI, kSub, kMul_c, kDiv_c, kMod_c, kPow_c, kLt, kLe, kGt, kGe, kIsN, kNotN, kNeg, kLen, kAbs, kInt, kids, kidsN, isiD, tyD, noOwn, noOwns, noShr, noShrs, fz, fzs, scV, optI, noI, slG, isTupD, chV, noOwns_nt, noShrs_nt, fzs_nt, noOwns_tups, noShrs_tups, fzs_tups, noOwns_append, kTup_ints, -List.map_map]
    rintro e rfl
    refine Wp.ret ?_
    simp only [up, callK, consG]
    rw [lcV_map S D.int (fun x => .int (absI (x - mid))) (by simp [Wp_some, asgS, ftN, ftTup, ftCons, ftNil, retS, expS, ifS, augS, subS, setK, isLst, getK, augSubS, appE, popE, rd, nj_int, nj_tup, nj_lst, nj_frl, nj_bl, nj_non, nj_str, bin2, bin2E, un1, callK, callE, cp, up, upB, asB, tst, tstE, consG, consE, tupG, lstG, tupE, lstE, andB, orB, notB, andV, orV, notV, ifV, andT, orT, notT, ifE, movN, frzN, ixNE, ixE, lendE, back, lenG, borG, maskF, seqV, seqE, rngV, rngE, enumV, enumE, zipV, zipE, wipeE, restE, yesB, yesT, kAdd, kAddI, kSub, kMul_c, kDiv_c, kMod_c, kPow_c, kLt, kLe, kGt, kGe, kIsN, kNotN, kNeg, kLen, kAbs, kInt, kids, kidsN, isiD, tyD, noOwn, noOwns, noShr, noShrs, fz, fzs, scV, optI, noI, slG, isTupD, chV, noOwns_nt, noShrs_nt, fzs_nt, noOwns_tups, noShrs_tups, fzs_tups, noOwns_append, kTup_ints, -List.map_map]) (under (by omega)) (fun x hx => ⟨_, rfl, by simp [absI, Wp_some, asgS, ftN, ftTup, ftCons, ftNil, retS, expS, ifS, augS, subS, setK, isLst, getK, augSubS, appE, popE, rd, nj_int, nj_tup, nj_lst, nj_frl, nj_bl, nj_non, nj_str, bin2, bin2E, un1, callK, callE, cp, up, upB, asB, tst, tstE, consG, consE, tupG, lstG, tupE, lstE, andB, orB, notB, andV, orV, notV, ifV, andT, orT, notT, ifE, movN, frzN, ixNE, ixE, lendE, back, lenG, borG, maskF, seqV, seqE, rngV, rngE, enumV, enumE, zipV, zipE, wipeE, restE, yesB, yesT, kAdd, kAddI, kSub, kMul_c, kDiv_c, kMod_c, kPow_c, kLt, kLe, kGt, kGe, kIsN, kNotN, kNeg, kLen, kAbs, kInt, kids, kidsN, isiD, tyD, noOwn, noOwns, noShr, noShrs, fz, fzs, scV, optI, noI, slG, isTupD, chV, noOwns_nt, noShrs_nt, fzs_nt, noOwns_tups, noShrs_tups, fzs_tups, noOwns_append, kTup_ints, -List.map_map]⟩), map_nt (fun x => absI (x - mid))]
    simp [kSum_lst, costAt, Wp_some, asgS, ftN, ftTup, ftCons, ftNil, retS, expS, ifS, augS, subS, setK, isLst, getK, augSubS, appE, popE, rd, nj_int, nj_tup, nj_lst, nj_frl, nj_bl, nj_non, nj_str, bin2, bin2E, un1, callK, callE, cp, up, upB, asB, tst, tstE, consG, consE, tupG, lstG, tupE, lstE, andB, orB, notB, andV, orV, notV, ifV, andT, orT, notT, ifE, movN, frzN, ixNE, ixE, lendE, back, lenG, borG, maskF, seqV, seqE, rngV, rngE, enumV, enumE, zipV, zipE, wipeE, restE, yesB, yesT, kAdd, kAddI, kSub, kMul_c, kDiv_c, kMod_c, kPow_c, kLt, kLe, kGt, kGe, kIsN, kNotN, kNeg, kLen, kAbs, kInt, kids, kidsN, isiD, tyD, noOwn, noOwns, noShr, noShrs, fz, fzs, scV, optI, noI, slG, isTupD, chV, noOwns_nt, noShrs_nt, fzs_nt, noOwns_tups, noShrs_tups, fzs_tups, noOwns_append, kTup_ints, -List.map_map]
  obtain ⟨q, e, rfl⟩ := key
  exact e
def sumOf (N : Nat) (ds : List (List Int)) : List Int := (List.range N).map fun (h : Nat) => ((ds.filter fun x => decide ((h : Int) ∈ x)).length : Int)
theorem kIn_tup {i : Int} {x : List Int} : kIn (.int i) (.tup (x.map D.int)) = some (.bl (decide (i ∈ x))) := by simp [kIn, scV, kids, scVs_map, inV_ints]
theorem kNotIn_lst {i : Int} {o : Bool} {x : List Int} : kNotIn (.int i) (.lst o (x.map D.int)) = some (.bl (!decide (i ∈ x))) := by simp [kNotIn, scV, kids, scVs_map, inV_ints]
theorem sumOf_snoc (N : Nat) (ds : List (List Int)) (x : List Int) : (((sumOf N ds).zip ((List.range N).map fun (h : Nat) => if (h : Int) ∈ x then (1 : Int) else 0)).map fun p => p.1 + p.2) = sumOf N (ds ++ [x]) := by
  unfold sumOf
  apply List.ext_getElem
  · simp
  · intro i h1 h2
    by_cases hx : (i : Int) ∈ x
    · simp [hx, List.filter_append]
    · simp [hx, List.filter_append]
theorem kIx_0 {d : D} {r : List D} : kIx (.tup (d :: r)) (.int 0) = some d := kIx_at (i := 0) rfl (by omega) rfl
theorem summed_val (m : Int) (T : List D) (ds : List (List Int)) (hT : ∀ d ∈ T, GoodT d) (h0 : 0 ≤ m) (h1 : m ≤ 1000) (hd : ds.length ≤ 100000) :
    G_summed [.tup [.int m, .tup T], .lst false (ds.map fun x => D.tup (x.map D.int))] = some (.tup ((sumOf m.toNat ds).map D.int), [.tup [.int m, .tup T], .lst false (ds.map fun x => D.tup (x.map D.int))]) := by
  have hn : noOwns T = true := noOwns_all fun d m => (hT d m).1
  have hf : fzs T = T := fzs_all fun d m => (hT d m).2.1
  have key : Wp (G_summed [.tup [.int m, .tup T], .lst false (ds.map fun x => D.tup (x.map D.int))]) fun q => q = (.tup ((sumOf m.toNat ds).map D.int), [.tup [.int m, .tup T], .lst false (ds.map fun x => D.tup (x.map D.int))]) := by
    refine Wp.mkG rfl ?_
    simp only [D_summed]
    refine Wp.then (fun e => e = [.tup [.int m, .tup T], .lst false (ds.map fun x => D.tup (x.map D.int)), .tup ((sumOf m.toNat []).map D.int), .jnk, .jnk]) ?_ ?_
    · refine Wp.asg ?_
      simp only [up, callK, consG]
      rw [lcV_map (List.range m.toNat) (fun i => D.int (i : Int)) (fun _ => .int 0) ?_ ?_ (fun i m => ⟨_, rfl, rfl⟩), map_nt (fun _ : Nat => (0 : Int))]
      · simp [sumOf, Wp_some, asgS, ftN, ftTup, ftCons, ftNil, retS, expS, ifS, augS, subS, setK, isLst, getK, augSubS, appE, popE, rd, nj_int, nj_tup, nj_lst, nj_frl, nj_bl, nj_non, nj_str, bin2, bin2E, un1, callK, callE, cp, up, upB, asB, tst, tstE, consG, consE, tupG, lstG, tupE, lstE, andB, orB, notB, andV, orV, notV, ifV, andT, orT, notT, ifE, movN, frzN, ixNE, ixE, lendE, back, lenG, borG, maskF, seqV, seqE, rngV, rngE, enumV, enumE, zipV, zipE, wipeE, restE, yesB, yesT, kAdd, kAddI, kSub, kMul_c, kDiv_c, kMod_c, kPow_c, kLt, kLe, kGt, kGe, kIsN, kNotN, kNeg, kLen, kAbs, kInt, kids, kidsN, isiD, tyD, noOwn, noOwns, noShr, noShrs, fz, fzs, scV, optI, noI, slG, isTupD, chV, noOwns_nt, noShrs_nt, fzs_nt, noOwns_tups, noShrs_tups, fzs_tups, noOwns_append, kTup_ints, -List.map_map]
      · simp [kIx_0, rngK_i (m := m) (by omega) (by omega), rgD_nat, Wp_some, asgS, ftN, ftTup, ftCons, ftNil, retS, expS, ifS, augS, subS, setK, isLst, getK, augSubS, appE, popE, rd, nj_int, nj_tup, nj_lst, nj_frl, nj_bl, nj_non, nj_str, bin2, bin2E, un1, callK, callE, cp, up, upB, asB, tst, tstE, consG, consE, tupG, lstG, tupE, lstE, andB, orB, notB, andV, orV, notV, ifV, andT, orT, notT, ifE, movN, frzN, ixNE, ixE, lendE, back, lenG, borG, maskF, seqV, seqE, rngV, rngE, enumV, enumE, zipV, zipE, wipeE, restE, yesB, yesT, kAdd, kAddI, kSub, kMul_c, kDiv_c, kMod_c, kPow_c, kLt, kLe, kGt, kGe, kIsN, kNotN, kNeg, kLen, kAbs, kInt, kids, kidsN, isiD, tyD, noOwn, noOwns, noShr, noShrs, fz, fzs, scV, optI, noI, slG, isTupD, chV, noOwns_nt, noShrs_nt, fzs_nt, noOwns_tups, noShrs_tups, fzs_tups, noOwns_append, kTup_ints, -List.map_map]
      · rw [List.length_range]; exact under (by omega)
    rintro e rfl
    refine Wp.then (fun e => ∃ a b, e = [.tup [.int m, .tup T], .lst false (ds.map fun x => D.tup (x.map D.int)), .tup ((sumOf m.toNat ds).map D.int), a, b]) ?_ ?_
    · refine Wp.forL ds (fun x => D.tup (x.map D.int)) (e0 := [.tup [.int m, .tup T], .lst false (ds.map fun x => D.tup (x.map D.int)), .tup ((sumOf m.toNat []).map D.int), .jnk, .jnk]) ?_ (fun pre e => ∃ a b, e = [.tup [.int m, .tup T], .lst false (ds.map fun x => D.tup (x.map D.int)), .tup ((sumOf m.toNat pre).map D.int), a, b]) ⟨_, _, rfl⟩ (fun pre x post e he hI => ?_) fun e h => ⟨rfl, h⟩
      · simp [Wp_some, asgS, ftN, ftTup, ftCons, ftNil, retS, expS, ifS, augS, subS, setK, isLst, getK, augSubS, appE, popE, rd, nj_int, nj_tup, nj_lst, nj_frl, nj_bl, nj_non, nj_str, bin2, bin2E, un1, callK, callE, cp, up, upB, asB, tst, tstE, consG, consE, tupG, lstG, tupE, lstE, andB, orB, notB, andV, orV, notV, ifV, andT, orT, notT, ifE, movN, frzN, ixNE, ixE, lendE, back, lenG, borG, maskF, seqV, seqE, rngV, rngE, enumV, enumE, zipV, zipE, wipeE, restE, yesB, yesT, kAdd, kAddI, kSub, kMul_c, kDiv_c, kMod_c, kPow_c, kLt, kLe, kGt, kGe, kIsN, kNotN, kNeg, kLen, kAbs, kInt, kids, kidsN, isiD, tyD, noOwn, noOwns, noShr, noShrs, fz, fzs, scV, optI, noI, slG, isTupD, chV, noOwns_nt, noShrs_nt, fzs_nt, noOwns_tups, noShrs_tups, fzs_tups, noOwns_append, kTup_ints, -List.map_map]
      · obtain ⟨a, b, rfl⟩ := hI
        refine Wp.bind ?_
        simp only [Wp_some, ftN]
        refine Wp.asg ?_
        simp only [up, borG, consG, callK, List.set_cons_succ, List.set_cons_zero]
        rw [lcV_map (List.range m.toNat) (fun i => D.int (i : Int)) (fun (i : Nat) => .int (if (i : Int) ∈ x then (1 : Int) else 0)) ?_ ?_ (fun i m => ⟨_, rfl, ?_⟩), map_nt (fun (i : Nat) => if (i : Int) ∈ x then (1 : Int) else 0)]
        · have hp := plus_val (sumOf m.toNat pre) ((List.range m.toNat).map fun (i : Nat) => if (i : Int) ∈ x then (1 : Int) else 0) (by simp [sumOf]; omega)
          rw [sumOf_snoc] at hp
          simp [hp, Wp_some, asgS, ftN, ftTup, ftCons, ftNil, retS, expS, ifS, augS, subS, setK, isLst, getK, augSubS, appE, popE, rd, nj_int, nj_tup, nj_lst, nj_frl, nj_bl, nj_non, nj_str, bin2, bin2E, un1, callK, callE, cp, up, upB, asB, tst, tstE, consG, consE, tupG, lstG, tupE, lstE, andB, orB, notB, andV, orV, notV, ifV, andT, orT, notT, ifE, movN, frzN, ixNE, ixE, lendE, back, lenG, borG, maskF, seqV, seqE, rngV, rngE, enumV, enumE, zipV, zipE, wipeE, restE, yesB, yesT, kAdd, kAddI, kSub, kMul_c, kDiv_c, kMod_c, kPow_c, kLt, kLe, kGt, kGe, kIsN, kNotN, kNeg, kLen, kAbs, kInt, kids, kidsN, isiD, tyD, noOwn, noOwns, noShr, noShrs, fz, fzs, scV, optI, noI, slG, isTupD, chV, noOwns_nt, noShrs_nt, fzs_nt, noOwns_tups, noShrs_tups, fzs_tups, noOwns_append, kTup_ints, -List.map_map]
        · simp [kIx_0, rngK_i (m := m) (by omega) (by omega), rgD_nat, Wp_some, asgS, ftN, ftTup, ftCons, ftNil, retS, expS, ifS, augS, subS, setK, isLst, getK, augSubS, appE, popE, rd, nj_int, nj_tup, nj_lst, nj_frl, nj_bl, nj_non, nj_str, bin2, bin2E, un1, callK, callE, cp, up, upB, asB, tst, tstE, consG, consE, tupG, lstG, tupE, lstE, andB, orB, notB, andV, orV, notV, ifV, andT, orT, notT, ifE, movN, frzN, ixNE, ixE, lendE, back, lenG, borG, maskF, seqV, seqE, rngV, rngE, enumV, enumE, zipV, zipE, wipeE, restE, yesB, yesT, kAdd, kAddI, kSub, kMul_c, kDiv_c, kMod_c, kPow_c, kLt, kLe, kGt, kGe, kIsN, kNotN, kNeg, kLen, kAbs, kInt, kids, kidsN, isiD, tyD, noOwn, noOwns, noShr, noShrs, fz, fzs, scV, optI, noI, slG, isTupD, chV, noOwns_nt, noShrs_nt, fzs_nt, noOwns_tups, noShrs_tups, fzs_tups, noOwns_append, kTup_ints, -List.map_map]
        · rw [List.length_range]; exact under (by omega)
        · by_cases hx : (i : Int) ∈ x
          · simp [kIn_tup, hx, Wp_some, asgS, ftN, ftTup, ftCons, ftNil, retS, expS, ifS, augS, subS, setK, isLst, getK, augSubS, appE, popE, rd, nj_int, nj_tup, nj_lst, nj_frl, nj_bl, nj_non, nj_str, bin2, bin2E, un1, callK, callE, cp, up, upB, asB, tst, tstE, consG, consE, tupG, lstG, tupE, lstE, andB, orB, notB, andV, orV, notV, ifV, andT, orT, notT, ifE, movN, frzN, ixNE, ixE, lendE, back, lenG, borG, maskF, seqV, seqE, rngV, rngE, enumV, enumE, zipV, zipE, wipeE, restE, yesB, yesT, kAdd, kAddI, kSub, kMul_c, kDiv_c, kMod_c, kPow_c, kLt, kLe, kGt, kGe, kIsN, kNotN, kNeg, kLen, kAbs, kInt, kids, kidsN, isiD, tyD, noOwn, noOwns, noShr, noShrs, fz, fzs, scV, optI, noI, slG, isTupD, chV, noOwns_nt, noShrs_nt, fzs_nt, noOwns_tups, noShrs_tups, fzs_tups, noOwns_append, kTup_ints, -List.map_map]
          · simp [kIn_tup, hx, Wp_some, asgS, ftN, ftTup, ftCons, ftNil, retS, expS, ifS, augS, subS, setK, isLst, getK, augSubS, appE, popE, rd, nj_int, nj_tup, nj_lst, nj_frl, nj_bl, nj_non, nj_str, bin2, bin2E, un1, callK, callE, cp, up, upB, asB, tst, tstE, consG, consE, tupG, lstG, tupE, lstE, andB, orB, notB, andV, orV, notV, ifV, andT, orT, notT, ifE, movN, frzN, ixNE, ixE, lendE, back, lenG, borG, maskF, seqV, seqE, rngV, rngE, enumV, enumE, zipV, zipE, wipeE, restE, yesB, yesT, kAdd, kAddI, kSub, kMul_c, kDiv_c, kMod_c, kPow_c, kLt, kLe, kGt, kGe, kIsN, kNotN, kNeg, kLen, kAbs, kInt, kids, kidsN, isiD, tyD, noOwn, noOwns, noShr, noShrs, fz, fzs, scV, optI, noI, slG, isTupD, chV, noOwns_nt, noShrs_nt, fzs_nt, noOwns_tups, noShrs_tups, fzs_tups, noOwns_append, kTup_ints, -List.map_map]
    rintro e ⟨a, b, rfl⟩
    simp [Wp_some, asgS, ftN, ftTup, ftCons, ftNil, retS, expS, ifS, augS, subS, setK, isLst, getK, augSubS, appE, popE, rd, nj_int, nj_tup, nj_lst, nj_frl, nj_bl, nj_non, nj_str, bin2, bin2E, un1, callK, callE, cp, up, upB, asB, tst, tstE, consG, consE, tupG, lstG, tupE, lstE, andB, orB, notB, andV, orV, notV, ifV, andT, orT, notT, ifE, movN, frzN, ixNE, ixE, lendE, back, lenG, borG, maskF, seqV, seqE, rngV, rngE, enumV, enumE, zipV, zipE, wipeE, restE, yesB, yesT, kAdd, kAddI, kSub, kMul_c, kDiv_c, kMod_c, kPow_c, kLt, kLe, kGt, kGe, kIsN, kNotN, kNeg, kLen, kAbs, kInt, kids, kidsN, isiD, tyD, noOwn, noOwns, noShr, noShrs, fz, fzs, scV, optI, noI, slG, isTupD, chV, noOwns_nt, noShrs_nt, fzs_nt, noOwns_tups, noShrs_tups, fzs_tups, noOwns_append, kTup_ints, -List.map_map]
  obtain ⟨q, e, rfl⟩ := key
  exact e
theorem Wp.forN {F : En → Option (Fl × En)} {env : En} {P : Fl × En → Prop} {fi : En → Option (List D × En)} {ft : D → En → Option En} (n : Nat) (f : Nat → D) {e0 : En} (hi : fi env = some ((List.range n).map f, e0)) (I : Nat → En → Prop) (h0 : I 0 e0)
    (step : ∀ i e, i < n → I i e → Wp ((ft (f i) e).bind F) fun p => (p.1 = .nx ∨ p.1 = .ct) ∧ I (i + 1) p.2) (fin : ∀ e, I n e → P (.nx, e)) : Wp (LT.forS fi ft F env) P := by
  refine Wp.forS hi I h0 (fun i d e hd hI => ?_) fun e h => fin e (by simpa using h)
  rw [List.getElem?_map] at hd
  obtain ⟨j, h1, h2⟩ := Option.map_eq_some_iff.mp hd
  obtain ⟨h3, h4⟩ := List.getElem?_eq_some_iff.mp h1
  rw [List.length_range] at h3
  rw [List.getElem_range] at h4
  subst h4 h2
  exact step _ e h3 hI
theorem ixN_n {n x : Nat} (h : x < n) : ixN n (x : Int) = some x := by
  unfold ixN
  rw [if_pos (by omega), if_pos (by omega), Int.toNat_natCast]
theorem atI_n {L : List Int} {x : Nat} (h : x < L.length) : atI (L.map D.int) (x : Int) = some (.int (L.getD x 0)) := by
  unfold atI
  rw [List.length_map, ixN_n h, Option.bind_some, List.getElem?_map, List.getElem?_eq_getElem h]
  simp [List.getD, List.getElem?_eq_getElem h]
def cntL (low : List Int) (M : Int) (j : Int) : List Int := (List.range low.length).map fun h => if M - low.getD h 0 ≤ j then j - (M - low.getD h 0) else 0
abbrev up1 (R : List Nat) : List Int := R.map fun (i : Nat) => (i : Int)
theorem mem_up1 {R : List Nat} {h : Nat} : (h : Int) ∈ up1 R ↔ h ∈ R := by
  unfold up1
  rw [List.mem_map]
  constructor
  · rintro ⟨a, m, e⟩
    have : a = h := by omega
    exact this ▸ m
  · exact fun m => ⟨h, m, rfl⟩
theorem mem_dayR {low : List Int} {M d : Int} {h : Nat} : h ∈ dayR low M d ↔ h < low.length ∧ M - d ≤ low.getD h 0 := by
  unfold dayR
  rw [List.mem_filter, List.mem_range, decide_eq_true_eq]
theorem found_eq (low : List Int) (M d : Int) : ((List.range low.length).filter fun (h : Nat) => decide ((h : Int) ∈ up1 (dayR low M d))) = dayR low M d := by
  unfold dayR
  apply List.filter_congr
  intro h hm
  have := List.mem_range.mp hm
  have e := mem_up1 (R := dayR low M d) (h := h)
  rw [mem_dayR] at e
  unfold dayR at e
  simp only [decide_eq_decide]
  rw [e]
  simp only [this, true_and]
def cnt1 (C : List Int) (n : Nat) (pre : List Nat) : List Int := (List.range n).map fun h => C.getD h 0 + if h ∈ pre then 1 else 0
theorem cnt1_nil {C : List Int} {n : Nat} (h : C.length = n) : cnt1 C n [] = C := by
  unfold cnt1
  apply List.ext_getElem
  · simp [h]
  · intro i h1 h2
    simp [List.getElem?_eq_getElem h2]
theorem cnt1_step {C : List Int} {n x : Nat} {pre : List Nat} (hx : x < n) (hp : x ∉ pre) : ((cnt1 C n pre).map D.int).set x (.int ((cnt1 C n pre).getD x 0 + 1)) = (cnt1 C n (pre ++ [x])).map D.int := by
  have hl : x < (cnt1 C n pre).length := by simp [cnt1, hx]
  apply List.ext_getElem
  · simp [cnt1]
  · intro i h1 h2
    have hi : i < n := by simpa [cnt1] using h2
    rw [List.getElem_set]
    by_cases e : x = i
    · subst e
      simp [cnt1, hx, hp]
    · rw [if_neg e]
      have : ¬ i = x := fun z => e z.symm
      simp [cnt1, this]
theorem cnt1_all {low : List Int} {M : Int} {j : Int} (hlow : ∀ h, h < low.length → 0 ≤ low.getD h 0 ∧ low.getD h 0 ≤ M) (hj : 0 ≤ j) (hj2 : j < M) : cnt1 (cntL low M j) low.length (dayR low M j) = cntL low M (j + 1) := by
  unfold cnt1
  apply List.ext_getElem
  · simp [cntL]
  · intro i h1 h2
    have hi : i < low.length := by simpa [cntL] using h2
    have := hlow i hi
    have e : (cntL low M j).getD i 0 = if M - low.getD i 0 ≤ j then j - (M - low.getD i 0) else 0 := by simp [cntL, List.getD, hi]
    have e2 : (cntL low M (j + 1))[i] = if M - low.getD i 0 ≤ j + 1 then j + 1 - (M - low.getD i 0) else 0 := by simp [cntL]
    rw [e2]
    simp only [List.getElem_map, List.getElem_range]
    rw [e]
    simp only [mem_dayR, hi, true_and]
    generalize low.getD i 0 = l at this ⊢
    split <;> split <;> split <;> omega
theorem dayR_nodup (low : List Int) (M d : Int) : (dayR low M d).Nodup := List.Nodup.sublist List.filter_sublist List.nodup_range
theorem days_ok (low : List Int) (M : Int) (hM : maxD low = some M) (hp : ∀ x ∈ low, 0 ≤ x ∧ x ≤ M) (hmem : M ∈ low) (h0 : 0 ≤ M) (h1 : M ≤ 1000) (hl : low.length ≤ 100) :
    ∃ r, G__law_days [.lst false ((daysL low M M.toNat).map fun x => D.tup (x.map D.int)), .tup (low.map D.int)] = some (.bl true, r) := by
  have eD : ((daysL low M M.toNat).map fun x => D.tup (x.map D.int)) = (List.range M.toNat).map fun (d : Nat) => D.tup ((up1 (dayR low M d)).map D.int) := by
    unfold daysL
    rw [List.map_map]
    rfl
  rw [eD]
  generalize hDD : ((List.range M.toNat).map fun (d : Nat) => D.tup ((up1 (dayR low M d)).map D.int)) = DD
  have hDn : noOwns DD = true := by rw [← hDD]; exact noOwns_map (fun d => by rw [noOwn, noOwns_nt]) _
  have hDf : fzs DD = DD := by rw [← hDD]; exact fzs_map (fun d => by rw [fz, fzs_nt]) _
  have hDl : DD.length = M.toNat := by rw [← hDD]; simp
  have hMM : decide (M ≠ M) = false := by simp
  have hlow : ∀ h, h < low.length → 0 ≤ low.getD h 0 ∧ low.getD h 0 ≤ M := fun h hh => hp _ (by simp [List.getD, List.getElem?_eq_getElem hh])
  have key : Wp (G__law_days [.lst false DD, .tup (low.map D.int)]) fun q => ∃ r, q = (.bl true, r) := by
    refine Wp.mkG rfl ?_
    simp only [D__law_days]
    refine Wp.seq ?_
    have hm0 : max M 0 = M := by omega
    simp [kMax_tup hM, kNe_int, hDl, h0, hm0, Wp_some, asgS, ftN, ftTup, ftCons, ftNil, retS, expS, ifS, augS, subS, setK, isLst, getK, augSubS, appE, popE, rd, nj_int, nj_tup, nj_lst, nj_frl, nj_bl, nj_non, nj_str, bin2, bin2E, un1, callK, callE, cp, up, upB, asB, tst, tstE, consG, consE, tupG, lstG, tupE, lstE, andB, orB, notB, andV, orV, notV, ifV, andT, orT, notT, ifE, movN, frzN, ixNE, ixE, lendE, back, lenG, borG, maskF, seqV, seqE, rngV, rngE, enumV, enumE, zipV, zipE, wipeE, restE, yesB, yesT, kAdd, kAddI, kSub, kMul_c, kDiv_c, kMod_c, kPow_c, kLt, kLe, kGt, kGe, kIsN, kNotN, kNeg, kLen, kAbs, kInt, kids, kidsN, isiD, tyD, noOwn, noOwns, noShr, noShrs, fz, fzs, scV, optI, noI, slG, isTupD, chV, noOwns_nt, noShrs_nt, fzs_nt, noOwns_tups, noShrs_tups, fzs_tups, noOwns_append, kTup_ints, -List.map_map]
    refine Wp.then (fun e => e = [.lst false DD, .tup (low.map D.int), .lst true ((cntL low M 0).map D.int), .jnk, .jnk, .jnk, .jnk]) ?_ ?_
    · refine Wp.asg ?_
      simp only [up]
      rw [lcV_map low D.int (fun _ => .int 0) (by simp [Wp_some, asgS, ftN, ftTup, ftCons, ftNil, retS, expS, ifS, augS, subS, setK, isLst, getK, augSubS, appE, popE, rd, nj_int, nj_tup, nj_lst, nj_frl, nj_bl, nj_non, nj_str, bin2, bin2E, un1, callK, callE, cp, up, upB, asB, tst, tstE, consG, consE, tupG, lstG, tupE, lstE, andB, orB, notB, andV, orV, notV, ifV, andT, orT, notT, ifE, movN, frzN, ixNE, ixE, lendE, back, lenG, borG, maskF, seqV, seqE, rngV, rngE, enumV, enumE, zipV, zipE, wipeE, restE, yesB, yesT, kAdd, kAddI, kSub, kMul_c, kDiv_c, kMod_c, kPow_c, kLt, kLe, kGt, kGe, kIsN, kNotN, kNeg, kLen, kAbs, kInt, kids, kidsN, isiD, tyD, noOwn, noOwns, noShr, noShrs, fz, fzs, scV, optI, noI, slG, isTupD, chV, noOwns_nt, noShrs_nt, fzs_nt, noOwns_tups, noShrs_tups, fzs_tups, noOwns_append, kTup_ints, -List.map_map]) (under (by omega)) (fun i m => ⟨_, rfl, rfl⟩), map_nt (fun _ : Int => (0 : Int))]
      have : low.map (fun _ => (0 : Int)) = cntL low M 0 := by
        unfold cntL
        apply List.ext_getElem
        · simp
        · intro i h2 h3
          have hi : i < low.length := by simpa using h2
          have := hlow i hi
          simp only [List.getElem_map, List.getElem_range]
          split <;> omega
      rw [this]
      simp [Wp_some, asgS, ftN, ftTup, ftCons, ftNil, retS, expS, ifS, augS, subS, setK, isLst, getK, augSubS, appE, popE, rd, nj_int, nj_tup, nj_lst, nj_frl, nj_bl, nj_non, nj_str, bin2, bin2E, un1, callK, callE, cp, up, upB, asB, tst, tstE, consG, consE, tupG, lstG, tupE, lstE, andB, orB, notB, andV, orV, notV, ifV, andT, orT, notT, ifE, movN, frzN, ixNE, ixE, lendE, back, lenG, borG, maskF, seqV, seqE, rngV, rngE, enumV, enumE, zipV, zipE, wipeE, restE, yesB, yesT, kAdd, kAddI, kSub, kMul_c, kDiv_c, kMod_c, kPow_c, kLt, kLe, kGt, kGe, kIsN, kNotN, kNeg, kLen, kAbs, kInt, kids, kidsN, isiD, tyD, noOwn, noOwns, noShr, noShrs, fz, fzs, scV, optI, noI, slG, isTupD, chV, noOwns_nt, noShrs_nt, fzs_nt, noOwns_tups, noShrs_tups, fzs_tups, noOwns_append, kTup_ints, -List.map_map]
    rintro e rfl
    refine Wp.seq ?_
    simp [Wp_some, asgS, ftN, ftTup, ftCons, ftNil, retS, expS, ifS, augS, subS, setK, isLst, getK, augSubS, appE, popE, rd, nj_int, nj_tup, nj_lst, nj_frl, nj_bl, nj_non, nj_str, bin2, bin2E, un1, callK, callE, cp, up, upB, asB, tst, tstE, consG, consE, tupG, lstG, tupE, lstE, andB, orB, notB, andV, orV, notV, ifV, andT, orT, notT, ifE, movN, frzN, ixNE, ixE, lendE, back, lenG, borG, maskF, seqV, seqE, rngV, rngE, enumV, enumE, zipV, zipE, wipeE, restE, yesB, yesT, kAdd, kAddI, kSub, kMul_c, kDiv_c, kMod_c, kPow_c, kLt, kLe, kGt, kGe, kIsN, kNotN, kNeg, kLen, kAbs, kInt, kids, kidsN, isiD, tyD, noOwn, noOwns, noShr, noShrs, fz, fzs, scV, optI, noI, slG, isTupD, chV, noOwns_nt, noShrs_nt, fzs_nt, noOwns_tups, noShrs_tups, fzs_tups, noOwns_append, kTup_ints, -List.map_map]
    refine Wp.then (fun e => ∃ (B : List Int) (o : Bool) (a b c : D), e = [.lst false DD, .tup (low.map D.int), .lst true ((cntL low M M.toNat).map D.int), .lst o (B.map D.int), a, b, c]) ?_ ?_
    · refine Wp.forN M.toNat (fun (d : Nat) => D.tup ((up1 (dayR low M d)).map D.int)) (e0 := [.lst false DD, .tup (low.map D.int), .lst true ((cntL low M 0).map D.int), .lst true [], .jnk, .jnk, .jnk]) ?_ (fun j e => ∃ (B : List Int) (o : Bool) (a b c : D), e = [.lst false DD, .tup (low.map D.int), .lst true ((cntL low M j).map D.int), .lst o (B.map D.int), a, b, c] ∧ B.length ≤ 100 ∧ ∀ y ∈ B, y ∈ up1 (dayR low M j)) ⟨[], true, _, _, _, rfl, by simp, fun y m => (nomatch m)⟩ (fun j e hj hI => ?_) fun e h => ?_
      · rw [hDD]
        simp [hDf, Wp_some, asgS, ftN, ftTup, ftCons, ftNil, retS, expS, ifS, augS, subS, setK, isLst, getK, augSubS, appE, popE, rd, nj_int, nj_tup, nj_lst, nj_frl, nj_bl, nj_non, nj_str, bin2, bin2E, un1, callK, callE, cp, up, upB, asB, tst, tstE, consG, consE, tupG, lstG, tupE, lstE, andB, orB, notB, andV, orV, notV, ifV, andT, orT, notT, ifE, movN, frzN, ixNE, ixE, lendE, back, lenG, borG, maskF, seqV, seqE, rngV, rngE, enumV, enumE, zipV, zipE, wipeE, restE, yesB, yesT, kAdd, kAddI, kSub, kMul_c, kDiv_c, kMod_c, kPow_c, kLt, kLe, kGt, kGe, kIsN, kNotN, kNeg, kLen, kAbs, kInt, kids, kidsN, isiD, tyD, noOwn, noOwns, noShr, noShrs, fz, fzs, scV, optI, noI, slG, isTupD, chV, noOwns_nt, noShrs_nt, fzs_nt, noOwns_tups, noShrs_tups, fzs_tups, noOwns_append, kTup_ints, -List.map_map]
      · obtain ⟨B, o, a, b, c, rfl, hBl, hB⟩ := hI
        generalize hX : up1 (dayR low M j) = X at hB
        have hXl : X.length ≤ 100 := by
          rw [← hX]
          have := List.length_filter_le (fun i => decide (M - (j : Int) ≤ low.getD i 0)) (List.range low.length)
          rw [List.length_range] at this
          simp only [up1, dayR, List.length_map]
          omega
        have hXne : X ≠ [] := by
          obtain ⟨i, hi, e⟩ := List.mem_iff_getElem.mp hmem
          have : (i : Int) ∈ X := by
            rw [← hX, mem_up1, mem_dayR]
            refine ⟨hi, ?_⟩
            rw [List.getD_eq_getElem?_getD, List.getElem?_eq_getElem hi, Option.getD_some, e]
            omega
          exact List.ne_nil_of_mem this
        refine Wp.bind ?_
        simp only [Wp_some, ftN]
        refine Wp.seq ?_
        simp [whole_val X (by omega), Wp_some, asgS, ftN, ftTup, ftCons, ftNil, retS, expS, ifS, augS, subS, setK, isLst, getK, augSubS, appE, popE, rd, nj_int, nj_tup, nj_lst, nj_frl, nj_bl, nj_non, nj_str, bin2, bin2E, un1, callK, callE, cp, up, upB, asB, tst, tstE, consG, consE, tupG, lstG, tupE, lstE, andB, orB, notB, andV, orV, notV, ifV, andT, orT, notT, ifE, movN, frzN, ixNE, ixE, lendE, back, lenG, borG, maskF, seqV, seqE, rngV, rngE, enumV, enumE, zipV, zipE, wipeE, restE, yesB, yesT, kAdd, kAddI, kSub, kMul_c, kDiv_c, kMod_c, kPow_c, kLt, kLe, kGt, kGe, kIsN, kNotN, kNeg, kLen, kAbs, kInt, kids, kidsN, isiD, tyD, noOwn, noOwns, noShr, noShrs, fz, fzs, scV, optI, noI, slG, isTupD, chV, noOwns_nt, noShrs_nt, fzs_nt, noOwns_tups, noShrs_tups, fzs_tups, noOwns_append, kTup_ints, -List.map_map]
        refine Wp.then (fun e => e = [.lst false DD, .tup (low.map D.int), .lst true ((cntL low M j).map D.int), .lst o (B.map D.int), .tup (X.map D.int), .lst true (X.map D.int), c]) ?_ ?_
        · refine Wp.asg ?_
          simp only [up]
          rw [lcV_filter (List.range low.length) (fun i => D.int (i : Int)) (fun (h : Nat) => decide ((h : Int) ∈ X)) (fun (h : Nat) => .int (h : Int)) ?_ ?_ (fun i m => ⟨_, rfl, ?_, fun _ => ?_⟩), map_nt (fun (h : Nat) => (h : Int))]
          · have e := found_eq low M j
            rw [hX] at e
            rw [e]
            simp only [up1] at hX
            rw [hX]
            simp [Wp_some, asgS, ftN, ftTup, ftCons, ftNil, retS, expS, ifS, augS, subS, setK, isLst, getK, augSubS, appE, popE, rd, nj_int, nj_tup, nj_lst, nj_frl, nj_bl, nj_non, nj_str, bin2, bin2E, un1, callK, callE, cp, up, upB, asB, tst, tstE, consG, consE, tupG, lstG, tupE, lstE, andB, orB, notB, andV, orV, notV, ifV, andT, orT, notT, ifE, movN, frzN, ixNE, ixE, lendE, back, lenG, borG, maskF, seqV, seqE, rngV, rngE, enumV, enumE, zipV, zipE, wipeE, restE, yesB, yesT, kAdd, kAddI, kSub, kMul_c, kDiv_c, kMod_c, kPow_c, kLt, kLe, kGt, kGe, kIsN, kNotN, kNeg, kLen, kAbs, kInt, kids, kidsN, isiD, tyD, noOwn, noOwns, noShr, noShrs, fz, fzs, scV, optI, noI, slG, isTupD, chV, noOwns_nt, noShrs_nt, fzs_nt, noOwns_tups, noShrs_tups, fzs_tups, noOwns_append, kTup_ints, -List.map_map]
          · simp [rngK_n (n := low.length) (by omega), rgD_nat, Wp_some, asgS, ftN, ftTup, ftCons, ftNil, retS, expS, ifS, augS, subS, setK, isLst, getK, augSubS, appE, popE, rd, nj_int, nj_tup, nj_lst, nj_frl, nj_bl, nj_non, nj_str, bin2, bin2E, un1, callK, callE, cp, up, upB, asB, tst, tstE, consG, consE, tupG, lstG, tupE, lstE, andB, orB, notB, andV, orV, notV, ifV, andT, orT, notT, ifE, movN, frzN, ixNE, ixE, lendE, back, lenG, borG, maskF, seqV, seqE, rngV, rngE, enumV, enumE, zipV, zipE, wipeE, restE, yesB, yesT, kAdd, kAddI, kSub, kMul_c, kDiv_c, kMod_c, kPow_c, kLt, kLe, kGt, kGe, kIsN, kNotN, kNeg, kLen, kAbs, kInt, kids, kidsN, isiD, tyD, noOwn, noOwns, noShr, noShrs, fz, fzs, scV, optI, noI, slG, isTupD, chV, noOwns_nt, noShrs_nt, fzs_nt, noOwns_tups, noShrs_tups, fzs_tups, noOwns_append, kTup_ints, -List.map_map]
          · rw [List.length_range]; exact under (by omega)
          · simp [kIn_tup, Wp_some, asgS, ftN, ftTup, ftCons, ftNil, retS, expS, ifS, augS, subS, setK, isLst, getK, augSubS, appE, popE, rd, nj_int, nj_tup, nj_lst, nj_frl, nj_bl, nj_non, nj_str, bin2, bin2E, un1, callK, callE, cp, up, upB, asB, tst, tstE, consG, consE, tupG, lstG, tupE, lstE, andB, orB, notB, andV, orV, notV, ifV, andT, orT, notT, ifE, movN, frzN, ixNE, ixE, lendE, back, lenG, borG, maskF, seqV, seqE, rngV, rngE, enumV, enumE, zipV, zipE, wipeE, restE, yesB, yesT, kAdd, kAddI, kSub, kMul_c, kDiv_c, kMod_c, kPow_c, kLt, kLe, kGt, kGe, kIsN, kNotN, kNeg, kLen, kAbs, kInt, kids, kidsN, isiD, tyD, noOwn, noOwns, noShr, noShrs, fz, fzs, scV, optI, noI, slG, isTupD, chV, noOwns_nt, noShrs_nt, fzs_nt, noOwns_tups, noShrs_tups, fzs_tups, noOwns_append, kTup_ints, -List.map_map]
          · simp [Wp_some, asgS, ftN, ftTup, ftCons, ftNil, retS, expS, ifS, augS, subS, setK, isLst, getK, augSubS, appE, popE, rd, nj_int, nj_tup, nj_lst, nj_frl, nj_bl, nj_non, nj_str, bin2, bin2E, un1, callK, callE, cp, up, upB, asB, tst, tstE, consG, consE, tupG, lstG, tupE, lstE, andB, orB, notB, andV, orV, notV, ifV, andT, orT, notT, ifE, movN, frzN, ixNE, ixE, lendE, back, lenG, borG, maskF, seqV, seqE, rngV, rngE, enumV, enumE, zipV, zipE, wipeE, restE, yesB, yesT, kAdd, kAddI, kSub, kMul_c, kDiv_c, kMod_c, kPow_c, kLt, kLe, kGt, kGe, kIsN, kNotN, kNeg, kLen, kAbs, kInt, kids, kidsN, isiD, tyD, noOwn, noOwns, noShr, noShrs, fz, fzs, scV, optI, noI, slG, isTupD, chV, noOwns_nt, noShrs_nt, fzs_nt, noOwns_tups, noShrs_tups, fzs_tups, noOwns_append, kTup_ints, -List.map_map]
        rintro e rfl
        refine Wp.seq ?_
        have e1 := kEq_nil X true true
        have e2 := row_val X (by omega) (.lst false (X.map D.int)) (.inr rfl)
        simp [e1, hXne, e2, Wp_some, asgS, ftN, ftTup, ftCons, ftNil, retS, expS, ifS, augS, subS, setK, isLst, getK, augSubS, appE, popE, rd, nj_int, nj_tup, nj_lst, nj_frl, nj_bl, nj_non, nj_str, bin2, bin2E, un1, callK, callE, cp, up, upB, asB, tst, tstE, consG, consE, tupG, lstG, tupE, lstE, andB, orB, notB, andV, orV, notV, ifV, andT, orT, notT, ifE, movN, frzN, ixNE, ixE, lendE, back, lenG, borG, maskF, seqV, seqE, rngV, rngE, enumV, enumE, zipV, zipE, wipeE, restE, yesB, yesT, kAdd, kAddI, kSub, kMul_c, kDiv_c, kMod_c, kPow_c, kLt, kLe, kGt, kGe, kIsN, kNotN, kNeg, kLen, kAbs, kInt, kids, kidsN, isiD, tyD, noOwn, noOwns, noShr, noShrs, fz, fzs, scV, optI, noI, slG, isTupD, chV, noOwns_nt, noShrs_nt, fzs_nt, noOwns_tups, noShrs_tups, fzs_tups, noOwns_append, kTup_ints, -List.map_map]
        rw [lcV_filter B D.int (fun y => !decide (y ∈ X)) D.int ?_ ?_ (fun i m => ⟨_, rfl, ?_, fun _ => ?_⟩)]
        · have : B.filter (fun y => !decide (y ∈ X)) = [] := by
            rw [List.filter_eq_nil_iff]
            intro y hy
            simpa using hB y hy
          rw [this]
          have e3 := kNe_nil [] true true
          simp only [List.map_nil] at e3
          simp [e3, Wp_some, asgS, ftN, ftTup, ftCons, ftNil, retS, expS, ifS, augS, subS, setK, isLst, getK, augSubS, appE, popE, rd, nj_int, nj_tup, nj_lst, nj_frl, nj_bl, nj_non, nj_str, bin2, bin2E, un1, callK, callE, cp, up, upB, asB, tst, tstE, consG, consE, tupG, lstG, tupE, lstE, andB, orB, notB, andV, orV, notV, ifV, andT, orT, notT, ifE, movN, frzN, ixNE, ixE, lendE, back, lenG, borG, maskF, seqV, seqE, rngV, rngE, enumV, enumE, zipV, zipE, wipeE, restE, yesB, yesT, kAdd, kAddI, kSub, kMul_c, kDiv_c, kMod_c, kPow_c, kLt, kLe, kGt, kGe, kIsN, kNotN, kNeg, kLen, kAbs, kInt, kids, kidsN, isiD, tyD, noOwn, noOwns, noShr, noShrs, fz, fzs, scV, optI, noI, slG, isTupD, chV, noOwns_nt, noShrs_nt, fzs_nt, noOwns_tups, noShrs_tups, fzs_tups, noOwns_append, kTup_ints, -List.map_map]
          have hXm : X.map D.int = (dayR low M j).map fun (h : Nat) => D.int (h : Int) := by
            rw [← hX, up1, List.map_map]
            rfl
          have hCl : (cntL low M j).length = low.length := by simp [cntL]
          refine Wp.then (fun e => ∃ a, e = [.lst false DD, .tup (low.map D.int), .lst true ((cntL low M ((j : Int) + 1)).map D.int), .lst o (B.map D.int), .tup (X.map D.int), .lst false (X.map D.int), a]) ?_ ?_
          · refine Wp.forL (dayR low M j) (fun (h : Nat) => D.int (h : Int)) (e0 := [.lst false DD, .tup (low.map D.int), .lst true ((cntL low M j).map D.int), .lst o (B.map D.int), .tup (X.map D.int), .lst false (X.map D.int), c]) ?_ (fun pre e => ∃ a, e = [.lst false DD, .tup (low.map D.int), .lst true ((cnt1 (cntL low M j) low.length pre).map D.int), .lst o (B.map D.int), .tup (X.map D.int), .lst false (X.map D.int), a]) ⟨c, by rw [cnt1_nil hCl]⟩ (fun pre x post e he hI => ?_) fun e h => ?_
            · rw [← hXm]
              simp [Wp_some, asgS, ftN, ftTup, ftCons, ftNil, retS, expS, ifS, augS, subS, setK, isLst, getK, augSubS, appE, popE, rd, nj_int, nj_tup, nj_lst, nj_frl, nj_bl, nj_non, nj_str, bin2, bin2E, un1, callK, callE, cp, up, upB, asB, tst, tstE, consG, consE, tupG, lstG, tupE, lstE, andB, orB, notB, andV, orV, notV, ifV, andT, orT, notT, ifE, movN, frzN, ixNE, ixE, lendE, back, lenG, borG, maskF, seqV, seqE, rngV, rngE, enumV, enumE, zipV, zipE, wipeE, restE, yesB, yesT, kAdd, kAddI, kSub, kMul_c, kDiv_c, kMod_c, kPow_c, kLt, kLe, kGt, kGe, kIsN, kNotN, kNeg, kLen, kAbs, kInt, kids, kidsN, isiD, tyD, noOwn, noOwns, noShr, noShrs, fz, fzs, scV, optI, noI, slG, isTupD, chV, noOwns_nt, noShrs_nt, fzs_nt, noOwns_tups, noShrs_tups, fzs_tups, noOwns_append, kTup_ints, -List.map_map]
            · obtain ⟨a, rfl⟩ := hI
              have hnd := dayR_nodup low M j
              rw [← he] at hnd
              have hx : x ∈ dayR low M j := by rw [← he]; simp
              have hxl := (mem_dayR.mp hx).1
              have hxp : x ∉ pre := fun m => by
                have := (List.nodup_append.mp hnd).2.2 x m x (by simp)
                exact this rfl
              have e5 := cnt1_step (C := cntL low M j) (pre := pre) hxl hxp
              generalize hK : cnt1 (cntL low M j) low.length pre = Kp at e5 ⊢
              have hKl : Kp.length = low.length := by rw [← hK]; simp [cnt1]
              have e6 := atI_n (L := Kp) (x := x) (by omega)
              have e7 := ixN_n (n := Kp.length) (x := x) (by omega)
              generalize ((x : Nat) : Int) = z at e6 e7 ⊢
              rw [List.getD_eq_getElem?_getD] at e5 e6
              simp [e6, e7, Wp_some, asgS, ftN, ftTup, ftCons, ftNil, retS, expS, ifS, augS, subS, setK, isLst, getK, augSubS, appE, popE, rd, nj_int, nj_tup, nj_lst, nj_frl, nj_bl, nj_non, nj_str, bin2, bin2E, un1, callK, callE, cp, up, upB, asB, tst, tstE, consG, consE, tupG, lstG, tupE, lstE, andB, orB, notB, andV, orV, notV, ifV, andT, orT, notT, ifE, movN, frzN, ixNE, ixE, lendE, back, lenG, borG, maskF, seqV, seqE, rngV, rngE, enumV, enumE, zipV, zipE, wipeE, restE, yesB, yesT, kAdd, kAddI, kSub, kMul_c, kDiv_c, kMod_c, kPow_c, kLt, kLe, kGt, kGe, kIsN, kNotN, kNeg, kLen, kAbs, kInt, kids, kidsN, isiD, tyD, noOwn, noOwns, noShr, noShrs, fz, fzs, scV, optI, noI, slG, isTupD, chV, noOwns_nt, noShrs_nt, fzs_nt, noOwns_tups, noShrs_tups, fzs_tups, noOwns_append, kTup_ints, -List.map_map]
              rw [e5]
            · obtain ⟨a, rfl⟩ := h
              exact ⟨rfl, a, by rw [cnt1_all hlow (by omega) (by omega)]⟩
          rintro e ⟨a, rfl⟩
          simp [Wp_some, asgS, ftN, ftTup, ftCons, ftNil, retS, expS, ifS, augS, subS, setK, isLst, getK, augSubS, appE, popE, rd, nj_int, nj_tup, nj_lst, nj_frl, nj_bl, nj_non, nj_str, bin2, bin2E, un1, callK, callE, cp, up, upB, asB, tst, tstE, consG, consE, tupG, lstG, tupE, lstE, andB, orB, notB, andV, orV, notV, ifV, andT, orT, notT, ifE, movN, frzN, ixNE, ixE, lendE, back, lenG, borG, maskF, seqV, seqE, rngV, rngE, enumV, enumE, zipV, zipE, wipeE, restE, yesB, yesT, kAdd, kAddI, kSub, kMul_c, kDiv_c, kMod_c, kPow_c, kLt, kLe, kGt, kGe, kIsN, kNotN, kNeg, kLen, kAbs, kInt, kids, kidsN, isiD, tyD, noOwn, noOwns, noShr, noShrs, fz, fzs, scV, optI, noI, slG, isTupD, chV, noOwns_nt, noShrs_nt, fzs_nt, noOwns_tups, noShrs_tups, fzs_tups, noOwns_append, kTup_ints, -List.map_map]
          refine ⟨X, rfl, hXl, fun y hy => ?_⟩
          rw [← hX, up1, List.mem_map] at hy
          obtain ⟨h, hm, rfl⟩ := hy
          rw [mem_dayR] at hm
          exact ⟨h, mem_dayR.mpr ⟨hm.1, by omega⟩, rfl⟩
        · simp [Wp_some, asgS, ftN, ftTup, ftCons, ftNil, retS, expS, ifS, augS, subS, setK, isLst, getK, augSubS, appE, popE, rd, nj_int, nj_tup, nj_lst, nj_frl, nj_bl, nj_non, nj_str, bin2, bin2E, un1, callK, callE, cp, up, upB, asB, tst, tstE, consG, consE, tupG, lstG, tupE, lstE, andB, orB, notB, andV, orV, notV, ifV, andT, orT, notT, ifE, movN, frzN, ixNE, ixE, lendE, back, lenG, borG, maskF, seqV, seqE, rngV, rngE, enumV, enumE, zipV, zipE, wipeE, restE, yesB, yesT, kAdd, kAddI, kSub, kMul_c, kDiv_c, kMod_c, kPow_c, kLt, kLe, kGt, kGe, kIsN, kNotN, kNeg, kLen, kAbs, kInt, kids, kidsN, isiD, tyD, noOwn, noOwns, noShr, noShrs, fz, fzs, scV, optI, noI, slG, isTupD, chV, noOwns_nt, noShrs_nt, fzs_nt, noOwns_tups, noShrs_tups, fzs_tups, noOwns_append, kTup_ints, -List.map_map]
        · exact under (by omega)
        · simp [kNotIn_lst, Wp_some, asgS, ftN, ftTup, ftCons, ftNil, retS, expS, ifS, augS, subS, setK, isLst, getK, augSubS, appE, popE, rd, nj_int, nj_tup, nj_lst, nj_frl, nj_bl, nj_non, nj_str, bin2, bin2E, un1, callK, callE, cp, up, upB, asB, tst, tstE, consG, consE, tupG, lstG, tupE, lstE, andB, orB, notB, andV, orV, notV, ifV, andT, orT, notT, ifE, movN, frzN, ixNE, ixE, lendE, back, lenG, borG, maskF, seqV, seqE, rngV, rngE, enumV, enumE, zipV, zipE, wipeE, restE, yesB, yesT, kAdd, kAddI, kSub, kMul_c, kDiv_c, kMod_c, kPow_c, kLt, kLe, kGt, kGe, kIsN, kNotN, kNeg, kLen, kAbs, kInt, kids, kidsN, isiD, tyD, noOwn, noOwns, noShr, noShrs, fz, fzs, scV, optI, noI, slG, isTupD, chV, noOwns_nt, noShrs_nt, fzs_nt, noOwns_tups, noShrs_tups, fzs_tups, noOwns_append, kTup_ints, -List.map_map]
        · simp [Wp_some, asgS, ftN, ftTup, ftCons, ftNil, retS, expS, ifS, augS, subS, setK, isLst, getK, augSubS, appE, popE, rd, nj_int, nj_tup, nj_lst, nj_frl, nj_bl, nj_non, nj_str, bin2, bin2E, un1, callK, callE, cp, up, upB, asB, tst, tstE, consG, consE, tupG, lstG, tupE, lstE, andB, orB, notB, andV, orV, notV, ifV, andT, orT, notT, ifE, movN, frzN, ixNE, ixE, lendE, back, lenG, borG, maskF, seqV, seqE, rngV, rngE, enumV, enumE, zipV, zipE, wipeE, restE, yesB, yesT, kAdd, kAddI, kSub, kMul_c, kDiv_c, kMod_c, kPow_c, kLt, kLe, kGt, kGe, kIsN, kNotN, kNeg, kLen, kAbs, kInt, kids, kidsN, isiD, tyD, noOwn, noOwns, noShr, noShrs, fz, fzs, scV, optI, noI, slG, isTupD, chV, noOwns_nt, noShrs_nt, fzs_nt, noOwns_tups, noShrs_tups, fzs_tups, noOwns_append, kTup_ints, -List.map_map]
      · obtain ⟨B, o, a, b, c, rfl, _, hB⟩ := h
        exact ⟨rfl, B, o, a, b, c, rfl⟩
    rintro e ⟨B, o, a, b, c, rfl⟩
    have hc : cntL low M M.toNat = low := by
      unfold cntL
      apply List.ext_getElem
      · simp
      · intro i h2 h3
        have := hlow i h3
        simp only [List.getElem_map, List.getElem_range]
        have e : low.getD i 0 = low[i] := by simp [List.getD, List.getElem?_eq_getElem h3]
        rw [e] at this ⊢
        split <;> omega
    rw [hc]
    simp [kEq_tup, Wp_some, asgS, ftN, ftTup, ftCons, ftNil, retS, expS, ifS, augS, subS, setK, isLst, getK, augSubS, appE, popE, rd, nj_int, nj_tup, nj_lst, nj_frl, nj_bl, nj_non, nj_str, bin2, bin2E, un1, callK, callE, cp, up, upB, asB, tst, tstE, consG, consE, tupG, lstG, tupE, lstE, andB, orB, notB, andV, orV, notV, ifV, andT, orT, notT, ifE, movN, frzN, ixNE, ixE, lendE, back, lenG, borG, maskF, seqV, seqE, rngV, rngE, enumV, enumE, zipV, zipE, wipeE, restE, yesB, yesT, kAdd, kAddI, kSub, kMul_c, kDiv_c, kMod_c, kPow_c, kLt, kLe, kGt, kGe, kIsN, kNotN, kNeg, kLen, kAbs, kInt, kids, kidsN, isiD, tyD, noOwn, noOwns, noShr, noShrs, fz, fzs, scV, optI, noI, slG, isTupD, chV, noOwns_nt, noShrs_nt, fzs_nt, noOwns_tups, noShrs_tups, fzs_tups, noOwns_append, kTup_ints, -List.map_map]
  obtain ⟨q, e, r, rfl⟩ := key
  exact ⟨r, e⟩
end LT

set_option Elab.async false
set_option linter.all false
set_option maxRecDepth 100000
set_option maxHeartbeats 2000000
namespace LT
open PySem PySem.Spec PyProof.Rows L2
/-! the middle one costs least -/
theorem cost_up (S : List Int) (m c : Int) (h : m ≤ c) : costAt S m + (c - m) * (2 * ((S.filter fun x => decide (x ≤ m)).length : Int) - S.length) ≤ costAt S c := by
  induction S with
  | nil => simp [costAt]
  | cons x r ih =>
    have e1 : costAt (x :: r) m = absI (x - m) + costAt r m := by simp [costAt]
    have e2 : costAt (x :: r) c = absI (x - c) + costAt r c := by simp [costAt]
    rw [e1, e2, List.filter_cons]
    by_cases hx : x ≤ m
    · simp only [hx, decide_true, if_true, List.length_cons]
      have : absI (x - c) = absI (x - m) + (c - m) := by unfold absI; split <;> split <;> omega
      rw [this]
      have e3 : (c - m) * (2 * (((r.filter fun x => decide (x ≤ m)).length + 1 : Nat) : Int) - ((r.length + 1 : Nat) : Int)) = (c - m) * (2 * ((r.filter fun x => decide (x ≤ m)).length : Int) - r.length) + (c - m) := by
        rw [show (2 * (((r.filter fun x => decide (x ≤ m)).length + 1 : Nat) : Int) - ((r.length + 1 : Nat) : Int)) = (2 * ((r.filter fun x => decide (x ≤ m)).length : Int) - r.length) + 1 by omega, Int.mul_add, Int.mul_one]
      rw [e3]
      omega
    · simp only [hx, decide_false, List.length_cons]
      have : absI (x - m) - (c - m) ≤ absI (x - c) := by unfold absI; split <;> split <;> omega
      have e3 : (c - m) * (2 * ((r.filter fun x => decide (x ≤ m)).length : Int) - ((r.length + 1 : Nat) : Int)) = (c - m) * (2 * ((r.filter fun x => decide (x ≤ m)).length : Int) - r.length) - (c - m) := by
        rw [show (2 * ((r.filter fun x => decide (x ≤ m)).length : Int) - ((r.length + 1 : Nat) : Int)) = (2 * ((r.filter fun x => decide (x ≤ m)).length : Int) - r.length) - 1 by omega, Int.mul_sub, Int.mul_one]
      simp only [Bool.false_eq_true, if_false]
      rw [e3]
      omega
theorem cost_dn (S : List Int) (m c : Int) (h : c ≤ m) : costAt S m + (m - c) * (2 * ((S.filter fun x => decide (m ≤ x)).length : Int) - S.length) ≤ costAt S c := by
  induction S with
  | nil => simp [costAt]
  | cons x r ih =>
    have e1 : costAt (x :: r) m = absI (x - m) + costAt r m := by simp [costAt]
    have e2 : costAt (x :: r) c = absI (x - c) + costAt r c := by simp [costAt]
    rw [e1, e2, List.filter_cons]
    by_cases hx : m ≤ x
    · simp only [hx, decide_true, if_true, List.length_cons]
      have : absI (x - c) = absI (x - m) + (m - c) := by unfold absI; split <;> split <;> omega
      rw [this]
      have e3 : (m - c) * (2 * (((r.filter fun x => decide (m ≤ x)).length + 1 : Nat) : Int) - ((r.length + 1 : Nat) : Int)) = (m - c) * (2 * ((r.filter fun x => decide (m ≤ x)).length : Int) - r.length) + (m - c) := by
        rw [show (2 * (((r.filter fun x => decide (m ≤ x)).length + 1 : Nat) : Int) - ((r.length + 1 : Nat) : Int)) = (2 * ((r.filter fun x => decide (m ≤ x)).length : Int) - r.length) + 1 by omega, Int.mul_add, Int.mul_one]
      rw [e3]
      omega
    · simp only [hx, decide_false, List.length_cons]
      have : absI (x - m) - (m - c) ≤ absI (x - c) := by unfold absI; split <;> split <;> omega
      have e3 : (m - c) * (2 * ((r.filter fun x => decide (m ≤ x)).length : Int) - ((r.length + 1 : Nat) : Int)) = (m - c) * (2 * ((r.filter fun x => decide (m ≤ x)).length : Int) - r.length) - (m - c) := by
        rw [show (2 * ((r.filter fun x => decide (m ≤ x)).length : Int) - ((r.length + 1 : Nat) : Int)) = (2 * ((r.filter fun x => decide (m ≤ x)).length : Int) - r.length) - 1 by omega, Int.mul_sub, Int.mul_one]
      simp only [Bool.false_eq_true, if_false]
      rw [e3]
      omega
theorem sorted_le {l : List Int} (h : l.Pairwise (· ≤ ·)) {i : Nat} (hi : i < l.length) : i + 1 ≤ (l.filter fun x => decide (x ≤ l[i])).length := by
  have e : (l.take (i + 1)).filter (fun x => decide (x ≤ l[i])) = l.take (i + 1) := List.filter_eq_self.mpr fun x hx => by
    obtain ⟨j, hj, rfl⟩ := List.mem_iff_getElem.mp hx
    rw [List.length_take] at hj
    rw [List.getElem_take]
    rcases Nat.lt_or_ge j i with hji | hji
    · exact decide_eq_true (List.pairwise_iff_getElem.mp h j i (by omega) hi hji)
    · have : j = i := by omega
      subst this
      simp
  have h2 : ((l.take (i + 1)).filter (fun x => decide (x ≤ l[i]))).length ≤ (l.filter fun x => decide (x ≤ l[i])).length := ((List.take_sublist (i + 1) l).filter _).length_le
  rw [e, List.length_take] at h2
  omega
theorem sorted_ge {l : List Int} (h : l.Pairwise (· ≤ ·)) {i : Nat} (hi : i < l.length) : l.length - i ≤ (l.filter fun x => decide (l[i] ≤ x)).length := by
  have e : (l.drop i).filter (fun x => decide (l[i] ≤ x)) = l.drop i := List.filter_eq_self.mpr fun x hx => by
    obtain ⟨j, hj, rfl⟩ := List.mem_iff_getElem.mp hx
    rw [List.length_drop] at hj
    rw [List.getElem_drop]
    rcases Nat.eq_zero_or_pos j with hj0 | hj0
    · subst hj0
      simp
    · exact decide_eq_true (List.pairwise_iff_getElem.mp h i (i + j) hi (by omega) (by omega))
  have h2 : ((l.drop i).filter (fun x => decide (l[i] ≤ x))).length ≤ (l.filter fun x => decide (l[i] ≤ x)).length := ((List.drop_sublist i l).filter _).length_le
  rw [e, List.length_drop] at h2
  exact h2
theorem sortI_sorted (S : List Int) : (sortI S).Pairwise (· ≤ ·) := by
  have := List.pairwise_mergeSort (le := fun a b : Int => decide (a ≤ b)) (fun a b c h1 h2 => by simp at *; omega) (fun a b => by simp; omega) S
  exact this.imp fun h => by simpa using h
theorem median_min (S : List Int) (h : 1 ≤ S.length) (c : Int) : costAt S ((sortI S).getD (S.length / 2) 0) ≤ costAt S c := by
  have hs := sortI_sorted S
  have hp := sortI_perm S
  have hl := sortI_len S
  have hi : S.length / 2 < (sortI S).length := by omega
  have e : (sortI S).getD (S.length / 2) 0 = (sortI S)[S.length / 2] := by simp [List.getD, List.getElem?_eq_getElem hi]
  have a1 := sorted_le hs hi
  have a2 := sorted_ge hs hi
  rw [← e] at a1 a2
  generalize (sortI S).getD (S.length / 2) 0 = m at a1 a2 ⊢
  rw [(hp.filter _).length_eq] at a1 a2
  rcases Int.le_total m c with hc | hc
  · have := cost_up S m c hc
    have h2 : 0 ≤ (c - m) * (2 * ((S.filter fun x => decide (x ≤ m)).length : Int) - S.length) := Int.mul_nonneg (by omega) (by omega)
    omega
  · have := cost_dn S m c hc
    have h2 : 0 ≤ (m - c) * (2 * ((S.filter fun x => decide (m ≤ x)).length : Int) - S.length) := Int.mul_nonneg (by omega) (by omega)
    omega
theorem law_cost_val (S : List Int) (a b : Int) (h : S.length ≤ 1000) (h0 : 1 ≤ S.length) (ha : minD S = some a) (hb : maxD S = some b) (ha2 : -1000 ≤ a) (hb2 : b ≤ 1000) (hab : a ≤ b) (hmid : a ≤ (sortI S).getD (S.length / 2) 0 ∧ (sortI S).getD (S.length / 2) 0 ≤ b) :
    G__law_cost [.tup (S.map D.int)] = some (.int (costAt S ((sortI S).getD (S.length / 2) 0)), [.tup (S.map D.int)]) := by
  have hmin : minD ((List.range (b + 1 - a).toNat).map fun (i : Nat) => costAt S (a + (i : Int))) = some (costAt S ((sortI S).getD (S.length / 2) 0)) := by
    obtain ⟨v, e, hv, hle⟩ := minD_spec (ns := (List.range (b + 1 - a).toNat).map fun (i : Nat) => costAt S (a + (i : Int))) (by
      intro z
      have := congrArg List.length z
      simp at this
      omega)
    rw [e]
    obtain ⟨i, hi, rfl⟩ := List.mem_map.mp hv
    have h1 := median_min S h0 (a + (i : Int))
    have h2 := hle (costAt S ((sortI S).getD (S.length / 2) 0)) (List.mem_map.mpr ⟨((sortI S).getD (S.length / 2) 0 - a).toNat, by rw [List.mem_range]; omega, by rw [show a + ((((sortI S).getD (S.length / 2) 0 - a).toNat : Nat) : Int) = (sortI S).getD (S.length / 2) 0 by omega]⟩)
    congr 1
    omega
  simp [G__law_cost, D__law_cost, mkG, seqS, forS, Wp_some, asgS, ftN, ftTup, ftCons, ftNil, retS, expS, ifS, augS, subS, setK, isLst, getK, augSubS, appE, popE, rd, nj_int, nj_tup, nj_lst, nj_frl, nj_bl, nj_non, nj_str, bin2, bin2E, un1, callK, callE, cp, up, upB, asB, tst, tstE, consG, consE, tupG, lstG, tupE, lstE, andB, orB, notB, andV, orV, notV, ifV, andT, orT, notT, ifE, movN, frzN, ixNE, ixE, lendE, back, lenG, borG, maskF, seqV, seqE, rngV, rngE, enumV, enumE, zipV, zipE, wipeE, restE, yesB, yesT, kAdd, kAddI, kSub, kMul_c, kDiv_c, kMod_c, kPow_c, kLt, kLe, kGt, kGe, kIsN, kNotN, kNeg, kLen, kAbs, kInt, kids, kidsN, isiD, tyD, noOwn, noOwns, noShr, noShrs, fz, fzs, scV, optI, noI, slG, isTupD, chV, noOwns_nt, noShrs_nt, fzs_nt, noOwns_tups, noShrs_tups, fzs_tups, noOwns_append, kTup_ints, -List.map_map]
  rw [lcV_map (List.range (b + 1 - a).toNat) (fun (i : Nat) => D.int (a + (i : Int))) (fun (i : Nat) => .int (costAt S (a + (i : Int)))) ?_ ?_ (fun i m => ⟨_, rfl, ?_⟩), map_nt (fun (i : Nat) => costAt S (a + (i : Int)))]
  · simp [kMin_lst hmin, Wp_some, asgS, ftN, ftTup, ftCons, ftNil, retS, expS, ifS, augS, subS, setK, isLst, getK, augSubS, appE, popE, rd, nj_int, nj_tup, nj_lst, nj_frl, nj_bl, nj_non, nj_str, bin2, bin2E, un1, callK, callE, cp, up, upB, asB, tst, tstE, consG, consE, tupG, lstG, tupE, lstE, andB, orB, notB, andV, orV, notV, ifV, andT, orT, notT, ifE, movN, frzN, ixNE, ixE, lendE, back, lenG, borG, maskF, seqV, seqE, rngV, rngE, enumV, enumE, zipV, zipE, wipeE, restE, yesB, yesT, kAdd, kAddI, kSub, kMul_c, kDiv_c, kMod_c, kPow_c, kLt, kLe, kGt, kGe, kIsN, kNotN, kNeg, kLen, kAbs, kInt, kids, kidsN, isiD, tyD, noOwn, noOwns, noShr, noShrs, fz, fzs, scV, optI, noI, slG, isTupD, chV, noOwns_nt, noShrs_nt, fzs_nt, noOwns_tups, noShrs_tups, fzs_tups, noOwns_append, kTup_ints, -List.map_map]
  · simp [kMin_tup ha, kMax_tup hb, rngK_2 (l := a) (m := b + 1) (by omega) (by omega) (by omega) (by omega), rgD, Wp_some, asgS, ftN, ftTup, ftCons, ftNil, retS, expS, ifS, augS, subS, setK, isLst, getK, augSubS, appE, popE, rd, nj_int, nj_tup, nj_lst, nj_frl, nj_bl, nj_non, nj_str, bin2, bin2E, un1, callK, callE, cp, up, upB, asB, tst, tstE, consG, consE, tupG, lstG, tupE, lstE, andB, orB, notB, andV, orV, notV, ifV, andT, orT, notT, ifE, movN, frzN, ixNE, ixE, lendE, back, lenG, borG, maskF, seqV, seqE, rngV, rngE, enumV, enumE, zipV, zipE, wipeE, restE, yesB, yesT, kAdd, kAddI, kSub, kMul_c, kDiv_c, kMod_c, kPow_c, kLt, kLe, kGt, kGe, kIsN, kNotN, kNeg, kLen, kAbs, kInt, kids, kidsN, isiD, tyD, noOwn, noOwns, noShr, noShrs, fz, fzs, scV, optI, noI, slG, isTupD, chV, noOwns_nt, noShrs_nt, fzs_nt, noOwns_tups, noShrs_tups, fzs_tups, noOwns_append, kTup_ints, -List.map_map]
  · rw [List.length_range]; exact under (by omega)
  · generalize a + (i : Int) = c
    simp only [callK, consG]
    rw [lcV_map S D.int (fun x => .int (absI (x - c))) (by simp [Wp_some, asgS, ftN, ftTup, ftCons, ftNil, retS, expS, ifS, augS, subS, setK, isLst, getK, augSubS, appE, popE, rd, nj_int, nj_tup, nj_lst, nj_frl, nj_bl, nj_non, nj_str, bin2, bin2E, un1, callK, callE, cp, up, upB, asB, tst, tstE, consG, consE, tupG, lstG, tupE, lstE, andB, orB, notB, andV, orV, notV, ifV, andT, orT, notT, ifE, movN, frzN, ixNE, ixE, lendE, back, lenG, borG, maskF, seqV, seqE, rngV, rngE, enumV, enumE, zipV, zipE, wipeE, restE, yesB, yesT, kAdd, kAddI, kSub, kMul_c, kDiv_c, kMod_c, kPow_c, kLt, kLe, kGt, kGe, kIsN, kNotN, kNeg, kLen, kAbs, kInt, kids, kidsN, isiD, tyD, noOwn, noOwns, noShr, noShrs, fz, fzs, scV, optI, noI, slG, isTupD, chV, noOwns_nt, noShrs_nt, fzs_nt, noOwns_tups, noShrs_tups, fzs_tups, noOwns_append, kTup_ints, -List.map_map]) (under (by omega)) (fun x hx => ⟨_, rfl, by simp [absI, Wp_some, asgS, ftN, ftTup, ftCons, ftNil, retS, expS, ifS, augS, subS, setK, isLst, getK, augSubS, appE, popE, rd, nj_int, nj_tup, nj_lst, nj_frl, nj_bl, nj_non, nj_str, bin2, bin2E, un1, callK, callE, cp, up, upB, asB, tst, tstE, consG, consE, tupG, lstG, tupE, lstE, andB, orB, notB, andV, orV, notV, ifV, andT, orT, notT, ifE, movN, frzN, ixNE, ixE, lendE, back, lenG, borG, maskF, seqV, seqE, rngV, rngE, enumV, enumE, zipV, zipE, wipeE, restE, yesB, yesT, kAdd, kAddI, kSub, kMul_c, kDiv_c, kMod_c, kPow_c, kLt, kLe, kGt, kGe, kIsN, kNotN, kNeg, kLen, kAbs, kInt, kids, kidsN, isiD, tyD, noOwn, noOwns, noShr, noShrs, fz, fzs, scV, optI, noI, slG, isTupD, chV, noOwns_nt, noShrs_nt, fzs_nt, noOwns_tups, noShrs_tups, fzs_tups, noOwns_append, kTup_ints, -List.map_map]⟩), map_nt (fun x => absI (x - c))]
    simp [kSum_lst, costAt, Wp_some, asgS, ftN, ftTup, ftCons, ftNil, retS, expS, ifS, augS, subS, setK, isLst, getK, augSubS, appE, popE, rd, nj_int, nj_tup, nj_lst, nj_frl, nj_bl, nj_non, nj_str, bin2, bin2E, un1, callK, callE, cp, up, upB, asB, tst, tstE, consG, consE, tupG, lstG, tupE, lstE, andB, orB, notB, andV, orV, notV, ifV, andT, orT, notT, ifE, movN, frzN, ixNE, ixE, lendE, back, lenG, borG, maskF, seqV, seqE, rngV, rngE, enumV, enumE, zipV, zipE, wipeE, restE, yesB, yesT, kAdd, kAddI, kSub, kMul_c, kDiv_c, kMod_c, kPow_c, kLt, kLe, kGt, kGe, kIsN, kNotN, kNeg, kLen, kAbs, kInt, kids, kidsN, isiD, tyD, noOwn, noOwns, noShr, noShrs, fz, fzs, scV, optI, noI, slG, isTupD, chV, noOwns_nt, noShrs_nt, fzs_nt, noOwns_tups, noShrs_tups, fzs_tups, noOwns_append, kTup_ints, -List.map_map]
end LT

set_option Elab.async false
set_option linter.all false
set_option maxRecDepth 100000
set_option maxHeartbeats 4000000
namespace LT
open PySem PySem.Spec PyProof.Rows L2
theorem sumOf_up1 (N : Nat) (ds : List (List Int)) (R : List Nat) : sumOf N (ds ++ [up1 R]) = cnt1 (sumOf N ds) N R := by
  unfold sumOf cnt1
  apply List.ext_getElem
  · simp
  · intro i h1 h2
    have hi : i < N := by simpa using h2
    by_cases hx : i ∈ R
    · have := mem_up1.mpr hx
      simp [this, hx, List.filter_append, hi]
    · have : ¬ (i : Int) ∈ up1 R := fun z => hx (mem_up1.mp z)
      simp [this, hx, List.filter_append, hi]
theorem cntL_0 {low : List Int} {M : Int} (hlow : ∀ h, h < low.length → 0 ≤ low.getD h 0 ∧ low.getD h 0 ≤ M) : sumOf low.length [] = cntL low M 0 := by
  unfold cntL sumOf
  apply List.ext_getElem
  · simp
  · intro i h2 h3
    have hi : i < low.length := by simpa using h2
    have := hlow i hi
    simp only [List.getElem_map, List.getElem_range, List.filter_nil, List.length_nil]
    split <;> omega
theorem cntL_M {low : List Int} {M : Int} (hlow : ∀ h, h < low.length → 0 ≤ low.getD h 0 ∧ low.getD h 0 ≤ M) (h0 : 0 ≤ M) : cntL low M M.toNat = low := by
  unfold cntL
  apply List.ext_getElem
  · simp
  · intro i h2 h3
    have := hlow i h3
    simp only [List.getElem_map, List.getElem_range]
    have e : low.getD i 0 = low[i] := by simp [List.getD, List.getElem?_eq_getElem h3]
    rw [e] at this ⊢
    split <;> omega
theorem sum_days {low : List Int} {M : Int} (hlow : ∀ h, h < low.length → 0 ≤ low.getD h 0 ∧ low.getD h 0 ≤ M) (h0 : 0 ≤ M) : sumOf low.length (daysL low M M.toNat) = low := by
  have key : ∀ k : Nat, (k : Int) ≤ M → sumOf low.length (daysL low M k) = cntL low M k := by
    intro k
    induction k with
    | zero => intro _; exact cntL_0 hlow
    | succ k ih =>
      intro hk
      have e : daysL low M (k + 1) = daysL low M k ++ [up1 (dayR low M k)] := by
        unfold daysL
        rw [List.range_succ, List.map_append]
        rfl
      rw [e, sumOf_up1, ih (by omega), cnt1_all hlow (by omega) (by omega)]
      rfl
  rw [key M.toNat (by omega), cntL_M hlow h0]
theorem costAt_low (S : List Int) (m c : Int) : costAt (lowL S m) c = costAt S (c + m) := by
  unfold costAt lowL
  rw [List.map_map]
  congr 1
  apply List.map_congr_left
  intro x _
  show absI (x - m - c) = absI (x - (c + m))
  congr 1
  omega
theorem mid_low (S : List Int) (m : Int) (h : 1 ≤ S.length) : costAt (lowL S m) ((sortI (lowL S m)).getD ((lowL S m).length / 2) 0) = costAt S ((sortI S).getD (S.length / 2) 0) := by
  have h1 : 1 ≤ (lowL S m).length := by unfold lowL; simpa using h
  have a := median_min (lowL S m) h1 ((sortI S).getD (S.length / 2) 0 - m)
  have b := median_min S h ((sortI (lowL S m)).getD ((lowL S m).length / 2) 0 + m)
  rw [costAt_low S m ((sortI S).getD (S.length / 2) 0 - m)] at a
  rw [← costAt_low S m ((sortI (lowL S m)).getD ((lowL S m).length / 2) 0)] at b
  rw [show (sortI S).getD (S.length / 2) 0 - m + m = (sortI S).getD (S.length / 2) 0 by omega] at a
  omega
theorem mid_mem (S : List Int) (h : 1 ≤ S.length) : (sortI S).getD (S.length / 2) 0 ∈ S := by
  have hl := sortI_len S
  have hi : S.length / 2 < (sortI S).length := by omega
  have e : (sortI S).getD (S.length / 2) 0 = (sortI S)[S.length / 2] := by simp [List.getD, List.getElem?_eq_getElem hi]
  rw [e]
  exact (sortI_perm S).mem_iff.mp (List.getElem_mem hi)
theorem Wp.exp {f : En → Option (D × En)} {env : En} {P : Fl × En → Prop} (h : Wp (f env) fun p => P (.nx, p.2)) : Wp (expS f env) P := by
  obtain ⟨a, e, h⟩ := h
  exact ⟨_, by unfold expS; rw [e]; rfl, h⟩
theorem Wp.app {f : En → Option (D × En)} {env : En} {P : D × En → Prop} {j : Nat} {o : Bool} {ds0 : List D} (hj : env[j]? = some (.lst o ds0)) (h : Wp (f env) fun p => ∃ ds, p.2[j]? = some (.lst true ds) ∧ ds.length < sizeLine ∧ P (.non, p.2.set j (.lst true (ds ++ [p.1])))) : Wp (appE j f env) P := by
  obtain ⟨⟨a, e1⟩, e, ds, h1, h2, h3⟩ := h
  have h1 : e1[j]? = some (.lst true ds) := h1
  refine ⟨_, ?_, h3⟩
  simp [appE, isLst, rd, hj, e, h1, h2, nj_lst]
def lawN : Nat := 63
theorem law_true : ∀ ns : List Int, ns.length ≤ lawN → ∃ ds', G_law [.frl (ns.map D.int)] = some (.bl true, ds') := by
  intro ns _
  have key : Wp (G_law [.frl (ns.map D.int)]) fun q => ∃ ds', q = (.bl true, ds') := by
    refine Wp.mkG rfl ?_
    simp only [D_law]
    refine Wp.then (fun e => ∃ L : List Int, e = [.frl (ns.map D.int), bx L 0, .jnk, .jnk, .jnk, .jnk, .jnk, .jnk, .jnk, .jnk, .jnk, .jnk, .jnk, .jnk, .jnk]) ?_ ?_
    · obtain ⟨q, hq, L, hL, rfl⟩ := digits_val ns
      have h2 : (2 : Nat) ≤ sizeLine := under (by omega)
      simp [hq, h2, Wp_some, asgS, ftN, ftTup, ftCons, ftNil, retS, expS, ifS, augS, subS, setK, isLst, getK, augSubS, appE, popE, rd, nj_int, nj_tup, nj_lst, nj_frl, nj_bl, nj_non, nj_str, bin2, bin2E, un1, callK, callE, cp, up, upB, asB, tst, tstE, consG, consE, tupG, lstG, tupE, lstE, andB, orB, notB, andV, orV, notV, ifV, andT, orT, notT, ifE, movN, frzN, ixNE, ixE, lendE, back, lenG, borG, maskF, seqV, seqE, rngV, rngE, enumV, enumE, zipV, zipE, wipeE, restE, yesB, yesT, kAdd, kAddI, kSub, kMul_c, kDiv_c, kMod_c, kPow_c, kLt, kLe, kGt, kGe, kIsN, kNotN, kNeg, kLen, kAbs, kInt, kids, kidsN, isiD, tyD, noOwn, noOwns, noShr, noShrs, fz, fzs, scV, optI, noI, slG, isTupD, chV, noOwns_nt, noShrs_nt, fzs_nt, noOwns_tups, noShrs_tups, fzs_tups, noOwns_append, kTup_ints, -List.map_map]
      exact ⟨L, rfl⟩
    rintro e ⟨L, rfl⟩
    generalize D.frl (ns.map D.int) = X0
    refine Wp.then (fun e => ∃ (n : Nat) (m : Int), e = [X0, bx L n, .int m, .jnk, .jnk, .jnk, .jnk, .jnk, .jnk, .jnk, .jnk, .jnk, .jnk, .jnk, .jnk] ∧ 1 ≤ m ∧ m ≤ 7) ?_ ?_
    · obtain ⟨r0, r1⟩ := dr_range (L := L) (n := 0) (m := 7) (by omega)
      simp [nj_bx, draw_val L 0 (m := 7) (by omega), Wp_some, asgS, ftN, ftTup, ftCons, ftNil, retS, expS, ifS, augS, subS, setK, isLst, getK, augSubS, appE, popE, rd, nj_int, nj_tup, nj_lst, nj_frl, nj_bl, nj_non, nj_str, bin2, bin2E, un1, callK, callE, cp, up, upB, asB, tst, tstE, consG, consE, tupG, lstG, tupE, lstE, andB, orB, notB, andV, orV, notV, ifV, andT, orT, notT, ifE, movN, frzN, ixNE, ixE, lendE, back, lenG, borG, maskF, seqV, seqE, rngV, rngE, enumV, enumE, zipV, zipE, wipeE, restE, yesB, yesT, kAdd, kAddI, kSub, kMul_c, kDiv_c, kMod_c, kPow_c, kLt, kLe, kGt, kGe, kIsN, kNotN, kNeg, kLen, kAbs, kInt, kids, kidsN, isiD, tyD, noOwn, noOwns, noShr, noShrs, fz, fzs, scV, optI, noI, slG, isTupD, chV, noOwns_nt, noShrs_nt, fzs_nt, noOwns_tups, noShrs_tups, fzs_tups, noOwns_append, kTup_ints, -List.map_map]
      exact ⟨1, _, ⟨rfl, rfl⟩, by omega, by omega⟩
    rintro e ⟨n, m, rfl, hm1, hm7⟩
    refine Wp.then (fun e => ∃ (n : Nat) (T : List D), e = [X0, bx L n, .int m, .tup [.int m, .tup T], .jnk, .jnk, .jnk, .jnk, .jnk, .jnk, .jnk, .jnk, .jnk, .jnk, .jnk] ∧ ∀ d ∈ T, GoodT d) ?_ ?_
    · obtain ⟨q, hq, T, n', hT, rfl⟩ := town_val L n m (by omega) (by omega)
      simp [nj_bx, hq, Wp_some, asgS, ftN, ftTup, ftCons, ftNil, retS, expS, ifS, augS, subS, setK, isLst, getK, augSubS, appE, popE, rd, nj_int, nj_tup, nj_lst, nj_frl, nj_bl, nj_non, nj_str, bin2, bin2E, un1, callK, callE, cp, up, upB, asB, tst, tstE, consG, consE, tupG, lstG, tupE, lstE, andB, orB, notB, andV, orV, notV, ifV, andT, orT, notT, ifE, movN, frzN, ixNE, ixE, lendE, back, lenG, borG, maskF, seqV, seqE, rngV, rngE, enumV, enumE, zipV, zipE, wipeE, restE, yesB, yesT, kAdd, kAddI, kSub, kMul_c, kDiv_c, kMod_c, kPow_c, kLt, kLe, kGt, kGe, kIsN, kNotN, kNeg, kLen, kAbs, kInt, kids, kidsN, isiD, tyD, noOwn, noOwns, noShr, noShrs, fz, fzs, scV, optI, noI, slG, isTupD, chV, noOwns_nt, noShrs_nt, fzs_nt, noOwns_tups, noShrs_tups, fzs_tups, noOwns_append, kTup_ints, -List.map_map]
      exact ⟨n', T, ⟨rfl, rfl⟩, hT⟩
    rintro e ⟨n, T, rfl, hT⟩
    refine Wp.then (fun e => ∃ (n : Nat) (mo : Int), e = [X0, bx L n, .int m, .tup [.int m, .tup T], .int mo, .jnk, .jnk, .jnk, .jnk, .jnk, .jnk, .jnk, .jnk, .jnk, .jnk] ∧ 0 ≤ mo ∧ mo ≤ 200) ?_ ?_
    · obtain ⟨r0, r1⟩ := dr_range (L := L) (n := n) (m := 5) (by omega)
      have h5 : (5 : Nat) ≤ sizeLine := under (by omega)
      have e1 := kIx_i (L := [2, 5, 5, 30, 200]) (o := true) (k := dr L n 5) (by omega) (by simpa using r1)
      have hmo : 0 ≤ ([2, 5, 5, 30, 200] : List Int).getD (dr L n 5).toNat 0 ∧ ([2, 5, 5, 30, 200] : List Int).getD (dr L n 5).toNat 0 ≤ 200 := by
        have : (dr L n 5).toNat < 5 := by omega
        generalize (dr L n 5).toNat = k at this ⊢
        match k, this with
        | 0, _ => decide
        | 1, _ => decide
        | 2, _ => decide
        | 3, _ => decide
        | 4, _ => decide
      generalize ([2, 5, 5, 30, 200] : List Int).getD (dr L n 5).toNat 0 = mo at e1 hmo
      simp only [List.map_cons, List.map_nil] at e1
      simp [nj_bx, draw_val L n (m := 5) (by omega), h5, e1, Wp_some, asgS, ftN, ftTup, ftCons, ftNil, retS, expS, ifS, augS, subS, setK, isLst, getK, augSubS, appE, popE, rd, nj_int, nj_tup, nj_lst, nj_frl, nj_bl, nj_non, nj_str, bin2, bin2E, un1, callK, callE, cp, up, upB, asB, tst, tstE, consG, consE, tupG, lstG, tupE, lstE, andB, orB, notB, andV, orV, notV, ifV, andT, orT, notT, ifE, movN, frzN, ixNE, ixE, lendE, back, lenG, borG, maskF, seqV, seqE, rngV, rngE, enumV, enumE, zipV, zipE, wipeE, restE, yesB, yesT, kAdd, kAddI, kSub, kMul_c, kDiv_c, kMod_c, kPow_c, kLt, kLe, kGt, kGe, kIsN, kNotN, kNeg, kLen, kAbs, kInt, kids, kidsN, isiD, tyD, noOwn, noOwns, noShr, noShrs, fz, fzs, scV, optI, noI, slG, isTupD, chV, noOwns_nt, noShrs_nt, fzs_nt, noOwns_tups, noShrs_tups, fzs_tups, noOwns_append, kTup_ints, -List.map_map]
      exact ⟨n + 1, mo, ⟨rfl, rfl⟩, hmo.1, hmo.2⟩
    rintro e ⟨n, mo, rfl, hmo0, hmo1⟩
    refine Wp.then (fun e => ∃ (n : Nat) (S : List Int), e = [X0, bx L n, .int m, .tup [.int m, .tup T], .int mo, .tup (S.map D.int), .jnk, .jnk, .jnk, .jnk, .jnk, .jnk, .jnk, .jnk, .jnk] ∧ (S.length : Int) = m ∧ ∀ x ∈ S, -mo ≤ x ∧ x ≤ mo) ?_ ?_
    · obtain ⟨q, hq, S, n', hl, hS, rfl⟩ := script_val L n m (-mo) mo (by omega) (by omega) (by omega)
      simp [nj_bx, hq, Wp_some, asgS, ftN, ftTup, ftCons, ftNil, retS, expS, ifS, augS, subS, setK, isLst, getK, augSubS, appE, popE, rd, nj_int, nj_tup, nj_lst, nj_frl, nj_bl, nj_non, nj_str, bin2, bin2E, un1, callK, callE, cp, up, upB, asB, tst, tstE, consG, consE, tupG, lstG, tupE, lstE, andB, orB, notB, andV, orV, notV, ifV, andT, orT, notT, ifE, movN, frzN, ixNE, ixE, lendE, back, lenG, borG, maskF, seqV, seqE, rngV, rngE, enumV, enumE, zipV, zipE, wipeE, restE, yesB, yesT, kAdd, kAddI, kSub, kMul_c, kDiv_c, kMod_c, kPow_c, kLt, kLe, kGt, kGe, kIsN, kNotN, kNeg, kLen, kAbs, kInt, kids, kidsN, isiD, tyD, noOwn, noOwns, noShr, noShrs, fz, fzs, scV, optI, noI, slG, isTupD, chV, noOwns_nt, noShrs_nt, fzs_nt, noOwns_tups, noShrs_tups, fzs_tups, noOwns_append, kTup_ints, -List.map_map]
      exact ⟨n', S, ⟨rfl, rfl⟩, hl, hS⟩
    rintro e ⟨n, S, rfl, hSl, hS⟩
    have hn : noOwns T = true := noOwns_all fun d m => (hT d m).1
    have hf : fzs T = T := fzs_all fun d m => (hT d m).2.1
    have hS1 : 1 ≤ S.length := by omega
    have hSne : S ≠ [] := fun z => by rw [z] at hS1; simp at hS1
    obtain ⟨a, ha, ham, hale⟩ := minD_spec hSne
    obtain ⟨b, hb, hbm, hble⟩ := maxD_spec hSne
    have hlow1 : (lowL S a).length = S.length := by unfold lowL; simp
    have hlne : lowL S a ≠ [] := fun z => by rw [z] at hlow1; simp at hlow1; omega
    obtain ⟨M, hM, hMm, hMle⟩ := maxD_spec hlne
    have hlm : ∀ x ∈ lowL S a, 0 ≤ x ∧ x ≤ 400 := fun x hx => by
      obtain ⟨y, hy, rfl⟩ := List.mem_map.mp hx
      have := hale y hy
      have := hS y hy
      have := hS a ham
      omega
    have hm0 : minD (lowL S a) = some 0 := by
      obtain ⟨z, hz, hzm, hzle⟩ := minD_spec hlne
      have h1 := hzle 0 (List.mem_map.mpr ⟨a, ham, by omega⟩)
      have h2 := (hlm z hzm).1
      rw [hz, show z = 0 by omega]
    have hM0 := hlm M hMm
    have hlow2 : lowL (lowL S a) 0 = lowL S a := by unfold lowL; rw [List.map_map]; apply List.map_congr_left; intro x _; simp
    have hlg : ∀ h, h < (lowL S a).length → 0 ≤ (lowL S a).getD h 0 ∧ (lowL S a).getD h 0 ≤ M := fun h hh => by
      have hmem : (lowL S a).getD h 0 ∈ lowL S a := by
        rw [List.getD_eq_getElem?_getD, List.getElem?_eq_getElem hh, Option.getD_some]
        exact List.getElem_mem hh
      exact ⟨(hlm _ hmem).1, hMle _ hmem⟩
    have v1 := lowered_val S a (by omega) ha
    have v2 := lowered_val (lowL S a) 0 (by omega) hm0
    rw [hlow2] at v2
    have v3 := row_val (lowL S a) (by omega) (.tup ((lowL S a).map D.int)) (.inl rfl)
    have v4 := days_of_val S a M (by omega) ha hM hM0.1 (by omega)
    have v5 := days_of_val (lowL S a) 0 M (by omega) hm0 (by rw [hlow2]; exact hM) hM0.1 (by omega)
    rw [hlow2] at v5
    obtain ⟨r6, v6⟩ := days_ok (lowL S a) M hM (fun x hx => ⟨(hlm x hx).1, hMle x hx⟩) hMm hM0.1 (by omega) (by omega)
    have v7 := summed_val m T (daysL (lowL S a) M M.toNat) hT (by omega) (by omega) (by simp [daysL]; omega)
    rw [show m.toNat = (lowL S a).length by omega, sum_days hlg hM0.1] at v7
    have hmid := mid_mem S hS1
    have v8 := cost_of_val S (by omega) hS1
    have v9 := cost_of_val (lowL S a) (by omega) (by omega)
    rw [mid_low S a hS1] at v9
    have v10 := law_cost_val S a b (by omega) hS1 ha hb (by have := hS a ham; omega) (by have := hS b hbm; omega) (hale b hbm) ⟨hale _ hmid, hble _ hmid⟩
    generalize hcc : costAt S ((sortI S).getD (S.length / 2) 0) = cc at v8 v9 v10
    have v11 := number_val cc
    have hmin := kMin_tup ha
    have hmax := kMax_tup hM
    generalize hDD : ((daysL (lowL S a) M M.toNat).map fun x => D.tup (x.map D.int)) = DD at v4 v5 v6 v7
    have hDn : noOwns DD = true := by rw [← hDD]; exact noOwns_tups _
    have hDs : noShrs DD = true := by rw [← hDD]; exact noShrs_tups _
    have hDf : fzs DD = DD := by rw [← hDD]; exact fzs_tups _
    have hlowdef : S.map (fun x => x - a) = lowL S a := rfl
    generalize lowL S a = low at *
    refine Wp.then (fun e => e = [X0, bx L n, .int m, .tup [.int m, .tup T], .int mo, .tup (S.map D.int), .tup (low.map D.int), .jnk, .jnk, .jnk, .jnk, .jnk, .jnk, .jnk, .jnk]) ?_ ?_
    · refine Wp.asg ?_
      simp only [up, callK, consG]
      rw [lcV_map S D.int (fun x => .int (x - a)) (by simp [Wp_some, asgS, ftN, ftTup, ftCons, ftNil, retS, expS, ifS, augS, subS, setK, isLst, getK, augSubS, appE, popE, rd, nj_int, nj_tup, nj_lst, nj_frl, nj_bl, nj_non, nj_str, bin2, bin2E, un1, callK, callE, cp, up, upB, asB, tst, tstE, consG, consE, tupG, lstG, tupE, lstE, andB, orB, notB, andV, orV, notV, ifV, andT, orT, notT, ifE, movN, frzN, ixNE, ixE, lendE, back, lenG, borG, maskF, seqV, seqE, rngV, rngE, enumV, enumE, zipV, zipE, wipeE, restE, yesB, yesT, kAdd, kAddI, kSub, kMul_c, kDiv_c, kMod_c, kPow_c, kLt, kLe, kGt, kGe, kIsN, kNotN, kNeg, kLen, kAbs, kInt, kids, kidsN, isiD, tyD, noOwn, noOwns, noShr, noShrs, fz, fzs, scV, optI, noI, slG, isTupD, chV, noOwns_nt, noShrs_nt, fzs_nt, noOwns_tups, noShrs_tups, fzs_tups, noOwns_append, kTup_ints, -List.map_map]) (under (by omega)) (fun i m => ⟨_, rfl, by simp [hmin, Wp_some, asgS, ftN, ftTup, ftCons, ftNil, retS, expS, ifS, augS, subS, setK, isLst, getK, augSubS, appE, popE, rd, nj_int, nj_tup, nj_lst, nj_frl, nj_bl, nj_non, nj_str, bin2, bin2E, un1, callK, callE, cp, up, upB, asB, tst, tstE, consG, consE, tupG, lstG, tupE, lstE, andB, orB, notB, andV, orV, notV, ifV, andT, orT, notT, ifE, movN, frzN, ixNE, ixE, lendE, back, lenG, borG, maskF, seqV, seqE, rngV, rngE, enumV, enumE, zipV, zipE, wipeE, restE, yesB, yesT, kAdd, kAddI, kSub, kMul_c, kDiv_c, kMod_c, kPow_c, kLt, kLe, kGt, kGe, kIsN, kNotN, kNeg, kLen, kAbs, kInt, kids, kidsN, isiD, tyD, noOwn, noOwns, noShr, noShrs, fz, fzs, scV, optI, noI, slG, isTupD, chV, noOwns_nt, noShrs_nt, fzs_nt, noOwns_tups, noShrs_tups, fzs_tups, noOwns_append, kTup_ints, -List.map_map]⟩), map_nt (fun x : Int => x - a), hlowdef]
      simp [Wp_some, asgS, ftN, ftTup, ftCons, ftNil, retS, expS, ifS, augS, subS, setK, isLst, getK, augSubS, appE, popE, rd, nj_int, nj_tup, nj_lst, nj_frl, nj_bl, nj_non, nj_str, bin2, bin2E, un1, callK, callE, cp, up, upB, asB, tst, tstE, consG, consE, tupG, lstG, tupE, lstE, andB, orB, notB, andV, orV, notV, ifV, andT, orT, notT, ifE, movN, frzN, ixNE, ixE, lendE, back, lenG, borG, maskF, seqV, seqE, rngV, rngE, enumV, enumE, zipV, zipE, wipeE, restE, yesB, yesT, kAdd, kAddI, kSub, kMul_c, kDiv_c, kMod_c, kPow_c, kLt, kLe, kGt, kGe, kIsN, kNotN, kNeg, kLen, kAbs, kInt, kids, kidsN, isiD, tyD, noOwn, noOwns, noShr, noShrs, fz, fzs, scV, optI, noI, slG, isTupD, chV, noOwns_nt, noShrs_nt, fzs_nt, noOwns_tups, noShrs_tups, fzs_tups, noOwns_append, kTup_ints, -List.map_map]
    rintro e rfl
    refine Wp.seq ?_
    simp [v1, v2, v3, Wp_some, asgS, ftN, ftTup, ftCons, ftNil, retS, expS, ifS, augS, subS, setK, isLst, getK, augSubS, appE, popE, rd, nj_int, nj_tup, nj_lst, nj_frl, nj_bl, nj_non, nj_str, bin2, bin2E, un1, callK, callE, cp, up, upB, asB, tst, tstE, consG, consE, tupG, lstG, tupE, lstE, andB, orB, notB, andV, orV, notV, ifV, andT, orT, notT, ifE, movN, frzN, ixNE, ixE, lendE, back, lenG, borG, maskF, seqV, seqE, rngV, rngE, enumV, enumE, zipV, zipE, wipeE, restE, yesB, yesT, kAdd, kAddI, kSub, kMul_c, kDiv_c, kMod_c, kPow_c, kLt, kLe, kGt, kGe, kIsN, kNotN, kNeg, kLen, kAbs, kInt, kids, kidsN, isiD, tyD, noOwn, noOwns, noShr, noShrs, fz, fzs, scV, optI, noI, slG, isTupD, chV, noOwns_nt, noShrs_nt, fzs_nt, noOwns_tups, noShrs_tups, fzs_tups, noOwns_append, kTup_ints, -List.map_map]
    refine Wp.seq ?_
    simp [v4, hDs, Wp_some, asgS, ftN, ftTup, ftCons, ftNil, retS, expS, ifS, augS, subS, setK, isLst, getK, augSubS, appE, popE, rd, nj_int, nj_tup, nj_lst, nj_frl, nj_bl, nj_non, nj_str, bin2, bin2E, un1, callK, callE, cp, up, upB, asB, tst, tstE, consG, consE, tupG, lstG, tupE, lstE, andB, orB, notB, andV, orV, notV, ifV, andT, orT, notT, ifE, movN, frzN, ixNE, ixE, lendE, back, lenG, borG, maskF, seqV, seqE, rngV, rngE, enumV, enumE, zipV, zipE, wipeE, restE, yesB, yesT, kAdd, kAddI, kSub, kMul_c, kDiv_c, kMod_c, kPow_c, kLt, kLe, kGt, kGe, kIsN, kNotN, kNeg, kLen, kAbs, kInt, kids, kidsN, isiD, tyD, noOwn, noOwns, noShr, noShrs, fz, fzs, scV, optI, noI, slG, isTupD, chV, noOwns_nt, noShrs_nt, fzs_nt, noOwns_tups, noShrs_tups, fzs_tups, noOwns_append, kTup_ints, -List.map_map]
    refine Wp.seq ?_
    simp [v6, v7, v3, hDf, hf, hn, hDn, Wp_some, asgS, ftN, ftTup, ftCons, ftNil, retS, expS, ifS, augS, subS, setK, isLst, getK, augSubS, appE, popE, rd, nj_int, nj_tup, nj_lst, nj_frl, nj_bl, nj_non, nj_str, bin2, bin2E, un1, callK, callE, cp, up, upB, asB, tst, tstE, consG, consE, tupG, lstG, tupE, lstE, andB, orB, notB, andV, orV, notV, ifV, andT, orT, notT, ifE, movN, frzN, ixNE, ixE, lendE, back, lenG, borG, maskF, seqV, seqE, rngV, rngE, enumV, enumE, zipV, zipE, wipeE, restE, yesB, yesT, kAdd, kAddI, kSub, kMul_c, kDiv_c, kMod_c, kPow_c, kLt, kLe, kGt, kGe, kIsN, kNotN, kNeg, kLen, kAbs, kInt, kids, kidsN, isiD, tyD, noOwn, noOwns, noShr, noShrs, fz, fzs, scV, optI, noI, slG, isTupD, chV, noOwns_nt, noShrs_nt, fzs_nt, noOwns_tups, noShrs_tups, fzs_tups, noOwns_append, kTup_ints, -List.map_map]
    refine Wp.then (fun e => e = [X0, bx L n, .int m, .tup [.int m, .tup T], .int mo, .tup (S.map D.int), .tup (low.map D.int), .lst true DD, .jnk, .jnk, .jnk, .jnk, .jnk, .jnk, .jnk]) ?_ ?_
    · by_cases h200 : M ≤ 200
      · simp [hmax, h200, v5, hDs, hDf, v6, Wp_some, asgS, ftN, ftTup, ftCons, ftNil, retS, expS, ifS, augS, subS, setK, isLst, getK, augSubS, appE, popE, rd, nj_int, nj_tup, nj_lst, nj_frl, nj_bl, nj_non, nj_str, bin2, bin2E, un1, callK, callE, cp, up, upB, asB, tst, tstE, consG, consE, tupG, lstG, tupE, lstE, andB, orB, notB, andV, orV, notV, ifV, andT, orT, notT, ifE, movN, frzN, ixNE, ixE, lendE, back, lenG, borG, maskF, seqV, seqE, rngV, rngE, enumV, enumE, zipV, zipE, wipeE, restE, yesB, yesT, kAdd, kAddI, kSub, kMul_c, kDiv_c, kMod_c, kPow_c, kLt, kLe, kGt, kGe, kIsN, kNotN, kNeg, kLen, kAbs, kInt, kids, kidsN, isiD, tyD, noOwn, noOwns, noShr, noShrs, fz, fzs, scV, optI, noI, slG, isTupD, chV, noOwns_nt, noShrs_nt, fzs_nt, noOwns_tups, noShrs_tups, fzs_tups, noOwns_append, kTup_ints, -List.map_map]
      · simp [hmax, h200, Wp_some, asgS, ftN, ftTup, ftCons, ftNil, retS, expS, ifS, augS, subS, setK, isLst, getK, augSubS, appE, popE, rd, nj_int, nj_tup, nj_lst, nj_frl, nj_bl, nj_non, nj_str, bin2, bin2E, un1, callK, callE, cp, up, upB, asB, tst, tstE, consG, consE, tupG, lstG, tupE, lstE, andB, orB, notB, andV, orV, notV, ifV, andT, orT, notT, ifE, movN, frzN, ixNE, ixE, lendE, back, lenG, borG, maskF, seqV, seqE, rngV, rngE, enumV, enumE, zipV, zipE, wipeE, restE, yesB, yesT, kAdd, kAddI, kSub, kMul_c, kDiv_c, kMod_c, kPow_c, kLt, kLe, kGt, kGe, kIsN, kNotN, kNeg, kLen, kAbs, kInt, kids, kidsN, isiD, tyD, noOwn, noOwns, noShr, noShrs, fz, fzs, scV, optI, noI, slG, isTupD, chV, noOwns_nt, noShrs_nt, fzs_nt, noOwns_tups, noShrs_tups, fzs_tups, noOwns_append, kTup_ints, -List.map_map]
    rintro e rfl
    refine Wp.seq ?_
    simp [v8, v9, v10, v11, Wp_some, asgS, ftN, ftTup, ftCons, ftNil, retS, expS, ifS, augS, subS, setK, isLst, getK, augSubS, appE, popE, rd, nj_int, nj_tup, nj_lst, nj_frl, nj_bl, nj_non, nj_str, bin2, bin2E, un1, callK, callE, cp, up, upB, asB, tst, tstE, consG, consE, tupG, lstG, tupE, lstE, andB, orB, notB, andV, orV, notV, ifV, andT, orT, notT, ifE, movN, frzN, ixNE, ixE, lendE, back, lenG, borG, maskF, seqV, seqE, rngV, rngE, enumV, enumE, zipV, zipE, wipeE, restE, yesB, yesT, kAdd, kAddI, kSub, kMul_c, kDiv_c, kMod_c, kPow_c, kLt, kLe, kGt, kGe, kIsN, kNotN, kNeg, kLen, kAbs, kInt, kids, kidsN, isiD, tyD, noOwn, noOwns, noShr, noShrs, fz, fzs, scV, optI, noI, slG, isTupD, chV, noOwns_nt, noShrs_nt, fzs_nt, noOwns_tups, noShrs_tups, fzs_tups, noOwns_append, kTup_ints, -List.map_map]
    refine Wp.seq ?_
    simp [Wp_some, asgS, ftN, ftTup, ftCons, ftNil, retS, expS, ifS, augS, subS, setK, isLst, getK, augSubS, appE, popE, rd, nj_int, nj_tup, nj_lst, nj_frl, nj_bl, nj_non, nj_str, bin2, bin2E, un1, callK, callE, cp, up, upB, asB, tst, tstE, consG, consE, tupG, lstG, tupE, lstE, andB, orB, notB, andV, orV, notV, ifV, andT, orT, notT, ifE, movN, frzN, ixNE, ixE, lendE, back, lenG, borG, maskF, seqV, seqE, rngV, rngE, enumV, enumE, zipV, zipE, wipeE, restE, yesB, yesT, kAdd, kAddI, kSub, kMul_c, kDiv_c, kMod_c, kPow_c, kLt, kLe, kGt, kGe, kIsN, kNotN, kNeg, kLen, kAbs, kInt, kids, kidsN, isiD, tyD, noOwn, noOwns, noShr, noShrs, fz, fzs, scV, optI, noI, slG, isTupD, chV, noOwns_nt, noShrs_nt, fzs_nt, noOwns_tups, noShrs_tups, fzs_tups, noOwns_append, kTup_ints, -List.map_map]
    refine Wp.then (fun e => ∃ (n : Nat) (X : List (List Int)) (a b : D), e = [X0, bx L n, .int m, .tup [.int m, .tup T], .int mo, .tup (S.map D.int), .tup (low.map D.int), .lst true DD, .lst true (X.map fun x => D.tup (x.map D.int)), a, b, .jnk, .jnk, .jnk, .jnk] ∧ X.length ≤ 8) ?_ ?_
    · obtain ⟨r0, r1⟩ := dr_range (L := L) (n := n) (m := 8) (by omega)
      refine Wp.forR (n := (dr L n 8).toNat) (e0 := [X0, bx L (n + 1), .int m, .tup [.int m, .tup T], .int mo, .tup (S.map D.int), .tup (low.map D.int), .lst true DD, .lst true [], .jnk, .jnk, .jnk, .jnk, .jnk, .jnk]) ?_ (fun i e => ∃ (n : Nat) (X : List (List Int)) (a b : D), e = [X0, bx L n, .int m, .tup [.int m, .tup T], .int mo, .tup (S.map D.int), .tup (low.map D.int), .lst true DD, .lst true (X.map fun x => D.tup (x.map D.int)), a, b, .jnk, .jnk, .jnk, .jnk] ∧ X.length ≤ i) ⟨n + 1, [], _, _, rfl, Nat.le_refl _⟩ (fun i e hi hI => ?_) fun e h => ?_
      · simp [nj_bx, draw_val L n (m := 8) (by omega), rngK_i (m := dr L n 8) (by omega) (by omega), Wp_some, asgS, ftN, ftTup, ftCons, ftNil, retS, expS, ifS, augS, subS, setK, isLst, getK, augSubS, appE, popE, rd, nj_int, nj_tup, nj_lst, nj_frl, nj_bl, nj_non, nj_str, bin2, bin2E, un1, callK, callE, cp, up, upB, asB, tst, tstE, consG, consE, tupG, lstG, tupE, lstE, andB, orB, notB, andV, orV, notV, ifV, andT, orT, notT, ifE, movN, frzN, ixNE, ixE, lendE, back, lenG, borG, maskF, seqV, seqE, rngV, rngE, enumV, enumE, zipV, zipE, wipeE, restE, yesB, yesT, kAdd, kAddI, kSub, kMul_c, kDiv_c, kMod_c, kPow_c, kLt, kLe, kGt, kGe, kIsN, kNotN, kNeg, kLen, kAbs, kInt, kids, kidsN, isiD, tyD, noOwn, noOwns, noShr, noShrs, fz, fzs, scV, optI, noI, slG, isTupD, chV, noOwns_nt, noShrs_nt, fzs_nt, noOwns_tups, noShrs_tups, fzs_tups, noOwns_append, kTup_ints, -List.map_map]
      · obtain ⟨n, X, a, b, rfl, hX⟩ := hI
        generalize ((i : Nat) : Int) = w
        obtain ⟨s0, s1⟩ := dr_range (L := L) (n := n) (m := m) (by omega)
        refine Wp.bind ?_
        simp only [Wp_some, ftN]
        refine Wp.then (fun e => e = [X0, bx L (n + 1), .int m, .tup [.int m, .tup T], .int mo, .tup (S.map D.int), .tup (low.map D.int), .lst true DD, .lst true (X.map fun x => D.tup (x.map D.int)), .int w, .int (dr L n m), .jnk, .jnk, .jnk, .jnk]) ?_ ?_
        · simp [nj_bx, draw_val L n (m := m) (by omega), Wp_some, asgS, ftN, ftTup, ftCons, ftNil, retS, expS, ifS, augS, subS, setK, isLst, getK, augSubS, appE, popE, rd, nj_int, nj_tup, nj_lst, nj_frl, nj_bl, nj_non, nj_str, bin2, bin2E, un1, callK, callE, cp, up, upB, asB, tst, tstE, consG, consE, tupG, lstG, tupE, lstE, andB, orB, notB, andV, orV, notV, ifV, andT, orT, notT, ifE, movN, frzN, ixNE, ixE, lendE, back, lenG, borG, maskF, seqV, seqE, rngV, rngE, enumV, enumE, zipV, zipE, wipeE, restE, yesB, yesT, kAdd, kAddI, kSub, kMul_c, kDiv_c, kMod_c, kPow_c, kLt, kLe, kGt, kGe, kIsN, kNotN, kNeg, kLen, kAbs, kInt, kids, kidsN, isiD, tyD, noOwn, noOwns, noShr, noShrs, fz, fzs, scV, optI, noI, slG, isTupD, chV, noOwns_nt, noShrs_nt, fzs_nt, noOwns_tups, noShrs_tups, fzs_tups, noOwns_append, kTup_ints, -List.map_map]
        rintro e rfl
        refine Wp.exp ?_
        refine Wp.app (o := true) (ds0 := X.map fun x => D.tup (x.map D.int)) ?_ ?_
        · rfl
        refine Wp.callE (Wp.one ?_)
        generalize dr L n m = r at s0 s1 ⊢
        refine Wp.lcE (items := rgD r 1 (m - r).toNat) (e0 := [X0, bx L (n + 1), .int m, .tup [.int m, .tup T], .int mo, .tup (S.map D.int), .tup (low.map D.int), .lst true DD, .lst true (X.map fun x => D.tup (x.map D.int)), .int w, .int r, .jnk, .jnk, .jnk, .jnk]) ?_ (fun i ac e => ∃ (n : Nat) (x : List Int), ac = x.map D.int ∧ x.length ≤ i ∧ e = [X0, bx L n, .int m, .tup [.int m, .tup T], .int mo, .tup (S.map D.int), .tup (low.map D.int), .lst true DD, .lst true (X.map fun x => D.tup (x.map D.int)), .int w, .int r, .jnk, .jnk, .jnk, .jnk]) ?_ (fun i d ac e hd hI => ?_) fun ac e hI => ?_
        · simp [rngK_2 (l := r) (m := m) (by omega) (by omega) (by omega) (by omega), Wp_some, asgS, ftN, ftTup, ftCons, ftNil, retS, expS, ifS, augS, subS, setK, isLst, getK, augSubS, appE, popE, rd, nj_int, nj_tup, nj_lst, nj_frl, nj_bl, nj_non, nj_str, bin2, bin2E, un1, callK, callE, cp, up, upB, asB, tst, tstE, consG, consE, tupG, lstG, tupE, lstE, andB, orB, notB, andV, orV, notV, ifV, andT, orT, notT, ifE, movN, frzN, ixNE, ixE, lendE, back, lenG, borG, maskF, seqV, seqE, rngV, rngE, enumV, enumE, zipV, zipE, wipeE, restE, yesB, yesT, kAdd, kAddI, kSub, kMul_c, kDiv_c, kMod_c, kPow_c, kLt, kLe, kGt, kGe, kIsN, kNotN, kNeg, kLen, kAbs, kInt, kids, kidsN, isiD, tyD, noOwn, noOwns, noShr, noShrs, fz, fzs, scV, optI, noI, slG, isTupD, chV, noOwns_nt, noShrs_nt, fzs_nt, noOwns_tups, noShrs_tups, fzs_tups, noOwns_append, kTup_ints, -List.map_map]
        · exact ⟨n + 1, [], rfl, Nat.le_refl _, by simp [Wp_some, asgS, ftN, ftTup, ftCons, ftNil, retS, expS, ifS, augS, subS, setK, isLst, getK, augSubS, appE, popE, rd, nj_int, nj_tup, nj_lst, nj_frl, nj_bl, nj_non, nj_str, bin2, bin2E, un1, callK, callE, cp, up, upB, asB, tst, tstE, consG, consE, tupG, lstG, tupE, lstE, andB, orB, notB, andV, orV, notV, ifV, andT, orT, notT, ifE, movN, frzN, ixNE, ixE, lendE, back, lenG, borG, maskF, seqV, seqE, rngV, rngE, enumV, enumE, zipV, zipE, wipeE, restE, yesB, yesT, kAdd, kAddI, kSub, kMul_c, kDiv_c, kMod_c, kPow_c, kLt, kLe, kGt, kGe, kIsN, kNotN, kNeg, kLen, kAbs, kInt, kids, kidsN, isiD, tyD, noOwn, noOwns, noShr, noShrs, fz, fzs, scV, optI, noI, slG, isTupD, chV, noOwns_nt, noShrs_nt, fzs_nt, noOwns_tups, noShrs_tups, fzs_tups, noOwns_append, kTup_ints, -List.map_map]⟩
        · obtain ⟨n, x, rfl, hx, rfl⟩ := hI
          have hlt := (List.getElem?_eq_some_iff.mp hd).1
          rw [rgD_len] at hlt
          obtain ⟨k, rfl⟩ : ∃ k : Int, d = .int k := by
            unfold rgD at hd
            rw [List.getElem?_map] at hd
            obtain ⟨j, _, e⟩ := Option.map_eq_some_iff.mp hd
            exact ⟨_, e.symm⟩
          have hz : x.length < sizeLine := below (m := 2000) (by omega) (by omega)
          by_cases hk : k = r
          · simp [kEq_int, hk, hz, Wp_some, asgS, ftN, ftTup, ftCons, ftNil, retS, expS, ifS, augS, subS, setK, isLst, getK, augSubS, appE, popE, rd, nj_int, nj_tup, nj_lst, nj_frl, nj_bl, nj_non, nj_str, bin2, bin2E, un1, callK, callE, cp, up, upB, asB, tst, tstE, consG, consE, tupG, lstG, tupE, lstE, andB, orB, notB, andV, orV, notV, ifV, andT, orT, notT, ifE, movN, frzN, ixNE, ixE, lendE, back, lenG, borG, maskF, seqV, seqE, rngV, rngE, enumV, enumE, zipV, zipE, wipeE, restE, yesB, yesT, kAdd, kAddI, kSub, kMul_c, kDiv_c, kMod_c, kPow_c, kLt, kLe, kGt, kGe, kIsN, kNotN, kNeg, kLen, kAbs, kInt, kids, kidsN, isiD, tyD, noOwn, noOwns, noShr, noShrs, fz, fzs, scV, optI, noI, slG, isTupD, chV, noOwns_nt, noShrs_nt, fzs_nt, noOwns_tups, noShrs_tups, fzs_tups, noOwns_append, kTup_ints, -List.map_map]
            exact ⟨n, x ++ [r], nt_snoc _ _, by simp; omega, rfl⟩
          · by_cases hdr : dr L n 2 = 0
            · simp [kEq_int, hk, hz, nj_bx, draw_val L n (m := 2) (by omega), hdr, Wp_some, asgS, ftN, ftTup, ftCons, ftNil, retS, expS, ifS, augS, subS, setK, isLst, getK, augSubS, appE, popE, rd, nj_int, nj_tup, nj_lst, nj_frl, nj_bl, nj_non, nj_str, bin2, bin2E, un1, callK, callE, cp, up, upB, asB, tst, tstE, consG, consE, tupG, lstG, tupE, lstE, andB, orB, notB, andV, orV, notV, ifV, andT, orT, notT, ifE, movN, frzN, ixNE, ixE, lendE, back, lenG, borG, maskF, seqV, seqE, rngV, rngE, enumV, enumE, zipV, zipE, wipeE, restE, yesB, yesT, kAdd, kAddI, kSub, kMul_c, kDiv_c, kMod_c, kPow_c, kLt, kLe, kGt, kGe, kIsN, kNotN, kNeg, kLen, kAbs, kInt, kids, kidsN, isiD, tyD, noOwn, noOwns, noShr, noShrs, fz, fzs, scV, optI, noI, slG, isTupD, chV, noOwns_nt, noShrs_nt, fzs_nt, noOwns_tups, noShrs_tups, fzs_tups, noOwns_append, kTup_ints, -List.map_map]
              exact ⟨n + 1, x ++ [k], nt_snoc _ _, by simp; omega, rfl⟩
            · simp [kEq_int, hk, hz, nj_bx, draw_val L n (m := 2) (by omega), hdr, Wp_some, asgS, ftN, ftTup, ftCons, ftNil, retS, expS, ifS, augS, subS, setK, isLst, getK, augSubS, appE, popE, rd, nj_int, nj_tup, nj_lst, nj_frl, nj_bl, nj_non, nj_str, bin2, bin2E, un1, callK, callE, cp, up, upB, asB, tst, tstE, consG, consE, tupG, lstG, tupE, lstE, andB, orB, notB, andV, orV, notV, ifV, andT, orT, notT, ifE, movN, frzN, ixNE, ixE, lendE, back, lenG, borG, maskF, seqV, seqE, rngV, rngE, enumV, enumE, zipV, zipE, wipeE, restE, yesB, yesT, kAdd, kAddI, kSub, kMul_c, kDiv_c, kMod_c, kPow_c, kLt, kLe, kGt, kGe, kIsN, kNotN, kNeg, kLen, kAbs, kInt, kids, kidsN, isiD, tyD, noOwn, noOwns, noShr, noShrs, fz, fzs, scV, optI, noI, slG, isTupD, chV, noOwns_nt, noShrs_nt, fzs_nt, noOwns_tups, noShrs_tups, fzs_tups, noOwns_append, kTup_ints, -List.map_map]
              exact ⟨n + 1, x, rfl, by omega, rfl⟩
        · obtain ⟨n, x, rfl, hx, rfl⟩ := hI
          have hz : X.length < sizeLine := below (m := 2000) (by omega) (by omega)
          simp [hz, Wp_some, asgS, ftN, ftTup, ftCons, ftNil, retS, expS, ifS, augS, subS, setK, isLst, getK, augSubS, appE, popE, rd, nj_int, nj_tup, nj_lst, nj_frl, nj_bl, nj_non, nj_str, bin2, bin2E, un1, callK, callE, cp, up, upB, asB, tst, tstE, consG, consE, tupG, lstG, tupE, lstE, andB, orB, notB, andV, orV, notV, ifV, andT, orT, notT, ifE, movN, frzN, ixNE, ixE, lendE, back, lenG, borG, maskF, seqV, seqE, rngV, rngE, enumV, enumE, zipV, zipE, wipeE, restE, yesB, yesT, kAdd, kAddI, kSub, kMul_c, kDiv_c, kMod_c, kPow_c, kLt, kLe, kGt, kGe, kIsN, kNotN, kNeg, kLen, kAbs, kInt, kids, kidsN, isiD, tyD, noOwn, noOwns, noShr, noShrs, fz, fzs, scV, optI, noI, slG, isTupD, chV, noOwns_nt, noShrs_nt, fzs_nt, noOwns_tups, noShrs_tups, fzs_tups, noOwns_append, kTup_ints, -List.map_map]
          exact ⟨n, X ++ [x], ⟨rfl, by simp⟩, by simp; omega⟩
      · obtain ⟨n, X, a, b, rfl, hX⟩ := h
        exact ⟨rfl, n, X, a, b, rfl, by omega⟩
    rintro e ⟨n, X, a', b', rfl, hX⟩
    refine Wp.then (fun e => e = [X0, bx L n, .int m, .tup [.int m, .tup T], .int mo, .tup (S.map D.int), .tup (low.map D.int), .lst true DD, .lst true (X.map fun x => D.tup (x.map D.int)), a', b', .lst true ((sumOf m.toNat X).map D.int), .jnk, .jnk, .jnk]) ?_ ?_
    · refine Wp.asg ?_
      simp only [up]
      rw [lcV_map (List.range m.toNat) (fun i => D.int (i : Int)) (fun (h : Nat) => .int ((X.filter fun x => decide ((h : Int) ∈ x)).length : Int)) ?_ ?_ (fun i m => ⟨_, rfl, ?_⟩), map_nt (fun (h : Nat) => ((X.filter fun x => decide ((h : Int) ∈ x)).length : Int))]
      · simp [sumOf, Wp_some, asgS, ftN, ftTup, ftCons, ftNil, retS, expS, ifS, augS, subS, setK, isLst, getK, augSubS, appE, popE, rd, nj_int, nj_tup, nj_lst, nj_frl, nj_bl, nj_non, nj_str, bin2, bin2E, un1, callK, callE, cp, up, upB, asB, tst, tstE, consG, consE, tupG, lstG, tupE, lstE, andB, orB, notB, andV, orV, notV, ifV, andT, orT, notT, ifE, movN, frzN, ixNE, ixE, lendE, back, lenG, borG, maskF, seqV, seqE, rngV, rngE, enumV, enumE, zipV, zipE, wipeE, restE, yesB, yesT, kAdd, kAddI, kSub, kMul_c, kDiv_c, kMod_c, kPow_c, kLt, kLe, kGt, kGe, kIsN, kNotN, kNeg, kLen, kAbs, kInt, kids, kidsN, isiD, tyD, noOwn, noOwns, noShr, noShrs, fz, fzs, scV, optI, noI, slG, isTupD, chV, noOwns_nt, noShrs_nt, fzs_nt, noOwns_tups, noShrs_tups, fzs_tups, noOwns_append, kTup_ints, -List.map_map]
      · simp [rngK_i (m := m) (by omega) (by omega), rgD_nat, Wp_some, asgS, ftN, ftTup, ftCons, ftNil, retS, expS, ifS, augS, subS, setK, isLst, getK, augSubS, appE, popE, rd, nj_int, nj_tup, nj_lst, nj_frl, nj_bl, nj_non, nj_str, bin2, bin2E, un1, callK, callE, cp, up, upB, asB, tst, tstE, consG, consE, tupG, lstG, tupE, lstE, andB, orB, notB, andV, orV, notV, ifV, andT, orT, notT, ifE, movN, frzN, ixNE, ixE, lendE, back, lenG, borG, maskF, seqV, seqE, rngV, rngE, enumV, enumE, zipV, zipE, wipeE, restE, yesB, yesT, kAdd, kAddI, kSub, kMul_c, kDiv_c, kMod_c, kPow_c, kLt, kLe, kGt, kGe, kIsN, kNotN, kNeg, kLen, kAbs, kInt, kids, kidsN, isiD, tyD, noOwn, noOwns, noShr, noShrs, fz, fzs, scV, optI, noI, slG, isTupD, chV, noOwns_nt, noShrs_nt, fzs_nt, noOwns_tups, noShrs_tups, fzs_tups, noOwns_append, kTup_ints, -List.map_map]
      · rw [List.length_range]; exact under (by omega)
      · simp only [callK, consG]
        rw [lcV_filter X (fun x => D.tup (x.map D.int)) (fun x => decide ((i : Int) ∈ x)) (fun x => D.tup (x.map D.int)) ?_ ?_ (fun x m => ⟨_, rfl, ?_, fun _ => ?_⟩)]
        · simp [Wp_some, asgS, ftN, ftTup, ftCons, ftNil, retS, expS, ifS, augS, subS, setK, isLst, getK, augSubS, appE, popE, rd, nj_int, nj_tup, nj_lst, nj_frl, nj_bl, nj_non, nj_str, bin2, bin2E, un1, callK, callE, cp, up, upB, asB, tst, tstE, consG, consE, tupG, lstG, tupE, lstE, andB, orB, notB, andV, orV, notV, ifV, andT, orT, notT, ifE, movN, frzN, ixNE, ixE, lendE, back, lenG, borG, maskF, seqV, seqE, rngV, rngE, enumV, enumE, zipV, zipE, wipeE, restE, yesB, yesT, kAdd, kAddI, kSub, kMul_c, kDiv_c, kMod_c, kPow_c, kLt, kLe, kGt, kGe, kIsN, kNotN, kNeg, kLen, kAbs, kInt, kids, kidsN, isiD, tyD, noOwn, noOwns, noShr, noShrs, fz, fzs, scV, optI, noI, slG, isTupD, chV, noOwns_nt, noShrs_nt, fzs_nt, noOwns_tups, noShrs_tups, fzs_tups, noOwns_append, kTup_ints, -List.map_map]
        · simp [Wp_some, asgS, ftN, ftTup, ftCons, ftNil, retS, expS, ifS, augS, subS, setK, isLst, getK, augSubS, appE, popE, rd, nj_int, nj_tup, nj_lst, nj_frl, nj_bl, nj_non, nj_str, bin2, bin2E, un1, callK, callE, cp, up, upB, asB, tst, tstE, consG, consE, tupG, lstG, tupE, lstE, andB, orB, notB, andV, orV, notV, ifV, andT, orT, notT, ifE, movN, frzN, ixNE, ixE, lendE, back, lenG, borG, maskF, seqV, seqE, rngV, rngE, enumV, enumE, zipV, zipE, wipeE, restE, yesB, yesT, kAdd, kAddI, kSub, kMul_c, kDiv_c, kMod_c, kPow_c, kLt, kLe, kGt, kGe, kIsN, kNotN, kNeg, kLen, kAbs, kInt, kids, kidsN, isiD, tyD, noOwn, noOwns, noShr, noShrs, fz, fzs, scV, optI, noI, slG, isTupD, chV, noOwns_nt, noShrs_nt, fzs_nt, noOwns_tups, noShrs_tups, fzs_tups, noOwns_append, kTup_ints, -List.map_map]
        · exact under (by omega)
        · simp [kIn_tup, Wp_some, asgS, ftN, ftTup, ftCons, ftNil, retS, expS, ifS, augS, subS, setK, isLst, getK, augSubS, appE, popE, rd, nj_int, nj_tup, nj_lst, nj_frl, nj_bl, nj_non, nj_str, bin2, bin2E, un1, callK, callE, cp, up, upB, asB, tst, tstE, consG, consE, tupG, lstG, tupE, lstE, andB, orB, notB, andV, orV, notV, ifV, andT, orT, notT, ifE, movN, frzN, ixNE, ixE, lendE, back, lenG, borG, maskF, seqV, seqE, rngV, rngE, enumV, enumE, zipV, zipE, wipeE, restE, yesB, yesT, kAdd, kAddI, kSub, kMul_c, kDiv_c, kMod_c, kPow_c, kLt, kLe, kGt, kGe, kIsN, kNotN, kNeg, kLen, kAbs, kInt, kids, kidsN, isiD, tyD, noOwn, noOwns, noShr, noShrs, fz, fzs, scV, optI, noI, slG, isTupD, chV, noOwns_nt, noShrs_nt, fzs_nt, noOwns_tups, noShrs_tups, fzs_tups, noOwns_append, kTup_ints, -List.map_map]
        · simp [Wp_some, asgS, ftN, ftTup, ftCons, ftNil, retS, expS, ifS, augS, subS, setK, isLst, getK, augSubS, appE, popE, rd, nj_int, nj_tup, nj_lst, nj_frl, nj_bl, nj_non, nj_str, bin2, bin2E, un1, callK, callE, cp, up, upB, asB, tst, tstE, consG, consE, tupG, lstG, tupE, lstE, andB, orB, notB, andV, orV, notV, ifV, andT, orT, notT, ifE, movN, frzN, ixNE, ixE, lendE, back, lenG, borG, maskF, seqV, seqE, rngV, rngE, enumV, enumE, zipV, zipE, wipeE, restE, yesB, yesT, kAdd, kAddI, kSub, kMul_c, kDiv_c, kMod_c, kPow_c, kLt, kLe, kGt, kGe, kIsN, kNotN, kNeg, kLen, kAbs, kInt, kids, kidsN, isiD, tyD, noOwn, noOwns, noShr, noShrs, fz, fzs, scV, optI, noI, slG, isTupD, chV, noOwns_nt, noShrs_nt, fzs_nt, noOwns_tups, noShrs_tups, fzs_tups, noOwns_append, kTup_ints, -List.map_map]
    rintro e rfl
    have w1 := summed_val m T X hT (by omega) (by omega) (by omega)
    have w2 := row_val (sumOf m.toNat X) (by simp [sumOf]; omega) (.lst false ((sumOf m.toNat X).map D.int)) (.inr rfl)
    simp [w1, w2, hf, Wp_some, asgS, ftN, ftTup, ftCons, ftNil, retS, expS, ifS, augS, subS, setK, isLst, getK, augSubS, appE, popE, rd, nj_int, nj_tup, nj_lst, nj_frl, nj_bl, nj_non, nj_str, bin2, bin2E, un1, callK, callE, cp, up, upB, asB, tst, tstE, consG, consE, tupG, lstG, tupE, lstE, andB, orB, notB, andV, orV, notV, ifV, andT, orT, notT, ifE, movN, frzN, ixNE, ixE, lendE, back, lenG, borG, maskF, seqV, seqE, rngV, rngE, enumV, enumE, zipV, zipE, wipeE, restE, yesB, yesT, kAdd, kAddI, kSub, kMul_c, kDiv_c, kMod_c, kPow_c, kLt, kLe, kGt, kGe, kIsN, kNotN, kNeg, kLen, kAbs, kInt, kids, kidsN, isiD, tyD, noOwn, noOwns, noShr, noShrs, fz, fzs, scV, optI, noI, slG, isTupD, chV, noOwns_nt, noShrs_nt, fzs_nt, noOwns_tups, noShrs_tups, fzs_tups, noOwns_append, kTup_ints, -List.map_map]
  obtain ⟨q, e, ds', rfl⟩ := key
  exact ⟨ds', e⟩
end LT

set_option Elab.async false
set_option linter.all false
set_option maxRecDepth 100000
open PySem PySem.W PyProof.Rows in
set_option maxRecDepth 100000 in
set_option maxHeartbeats 0 in
theorem PySem.Challenge.cw_lendtown_k77_days_of_a_script_holds : PySem.Challenge.rw_lendtown_k77_days_of_a_script.Holds := by
  w_on; o_law; k_head; (case hw => w_witness2)
  k_fill
  refine LT.walkL (l := PySem.Challenge.rw_lendtown_k77_days_of_a_script) (n := LT.lawN) (k := LT.lawK) rfl (by decide) rfl ⟨rfl, by decide, by decide⟩ (fun w h Y => PySem.W.kIn_of Y) ?F
  case F =>
    intro w mg fa h KX G hmg
    have F_plus := LT.FAt.mk' (x := "plus") (st := LT.s_plus) (ps := ["one", "other"]) KX G (by k_is) (by k_is) (by k_is) (by k_is) (fun _ _ _ _ _ _ us hl => match us, hl with | [_, _], _ => rfl)
    have F_minus := LT.FAt.mk' (x := "minus") (st := LT.s_minus) (ps := ["one", "other"]) KX G (by k_is) (by k_is) (by k_is) (by k_is) (fun _ _ _ _ _ _ us hl => match us, hl with | [_, _], _ => rfl)
    have F_lowered := LT.FAt.mk' (x := "lowered") (st := LT.s_lowered) (ps := ["script"]) KX G (by k_is) (by k_is) (by k_is) (by k_is) (fun _ _ _ _ _ _ us hl => match us, hl with | [_], _ => rfl)
    have F_days_of := LT.FAt.mk' (x := "days_of") (st := LT.s_days_of) (ps := ["script"]) KX G (by k_is) (by k_is) (by k_is) (by k_is) (fun _ _ _ _ _ _ us hl => match us, hl with | [_], _ => rfl)
    have F_cost_of := LT.FAt.mk' (x := "cost_of") (st := LT.s_cost_of) (ps := ["script"]) KX G (by k_is) (by k_is) (by k_is) (by k_is) (fun _ _ _ _ _ _ us hl => match us, hl with | [_], _ => rfl)
    have F_summed := LT.FAt.mk' (x := "summed") (st := LT.s_summed) (ps := ["town", "days"]) KX G (by k_is) (by k_is) (by k_is) (by k_is) (fun _ _ _ _ _ _ us hl => match us, hl with | [_, _], _ => rfl)
    have F__law_cell := LT.FAt.mk' (x := "_law_cell") (st := LT.s__law_cell) (ps := ["script", "k"]) KX G (by k_is) (by k_is) (by k_is) (by k_is) (fun _ _ _ _ _ _ us hl => match us, hl with | [_, _], _ => rfl)
    have F__law_digits := LT.FAt.mk' (x := "_law_digits") (st := LT.s__law_digits) (ps := ["script", "last"]) KX G (by k_is) (by k_is) (by k_is) (by k_is) (fun _ _ _ _ _ _ us hl => match us, hl with | [_, _], _ => rfl)
    have F__law_draw := LT.FAt.mk' (x := "_law_draw") (st := LT.s__law_draw) (ps := ["box", "many"]) KX G (by k_is) (by k_is) (by k_is) (by k_is) (fun _ _ _ _ _ _ us hl => match us, hl with | [_, _], _ => rfl)
    have F__law_mixed := LT.FAt.mk' (x := "_law_mixed") (st := LT.s__law_mixed) (ps := ["box", "row"]) KX G (by k_is) (by k_is) (by k_is) (by k_is) (fun _ _ _ _ _ _ us hl => match us, hl with | [_, _], _ => rfl)
    have F__law_lane := LT.FAt.mk' (x := "_law_lane") (st := LT.s__law_lane) (ps := ["one", "other"]) KX G (by k_is) (by k_is) (by k_is) (by k_is) (fun _ _ _ _ _ _ us hl => match us, hl with | [_, _], _ => rfl)
    have F__law_town := LT.FAt.mk' (x := "_law_town") (st := LT.s__law_town) (ps := ["box", "many", "more"]) KX G (by k_is) (by k_is) (by k_is) (by k_is) (fun _ _ _ _ _ _ us hl => match us, hl with | [_, _, _], _ => rfl)
    have F__law_script := LT.FAt.mk' (x := "_law_script") (st := LT.s__law_script) (ps := ["box", "many", "least", "most"]) KX G (by k_is) (by k_is) (by k_is) (by k_is) (fun _ _ _ _ _ _ us hl => match us, hl with | [_, _, _, _], _ => rfl)
    have F__law_number := LT.FAt.mk' (x := "_law_number") (st := LT.s__law_number) (ps := ["told", "due"]) KX G (by k_is) (by k_is) (by k_is) (by k_is) (fun _ _ _ _ _ _ us hl => match us, hl with | [_, _], _ => rfl)
    have F__law_row := LT.FAt.mk' (x := "_law_row") (st := LT.s__law_row) (ps := ["told", "due"]) KX G (by k_is) (by k_is) (by k_is) (by k_is) (fun _ _ _ _ _ _ us hl => match us, hl with | [_, _], _ => rfl)
    have F__law_whole := LT.FAt.mk' (x := "_law_whole") (st := LT.s__law_whole) (ps := ["told", "many"]) KX G (by k_is) (by k_is) (by k_is) (by k_is) (fun _ _ _ _ _ _ us hl => match us, hl with | [_, _], _ => rfl)
    have F__law_days := LT.FAt.mk' (x := "_law_days") (st := LT.s__law_days) (ps := ["days", "low"]) KX G (by k_is) (by k_is) (by k_is) (by k_is) (fun _ _ _ _ _ _ us hl => match us, hl with | [_, _], _ => rfl)
    have F__law_cost := LT.FAt.mk' (x := "_law_cost") (st := LT.s__law_cost) (ps := ["plan"]) KX G (by k_is) (by k_is) (by k_is) (by k_is) (fun _ _ _ _ _ _ us hl => match us, hl with | [_], _ => rfl)
    have b_tuple : mg "tuple" = none := PySem.W.mg_none_of KX G (by k_is)
    have b_zip : mg "zip" = none := PySem.W.mg_none_of KX G (by k_is)
    have b_min : mg "min" = none := PySem.W.mg_none_of KX G (by k_is)
    have b_max : mg "max" = none := PySem.W.mg_none_of KX G (by k_is)
    have b_range : mg "range" = none := PySem.W.mg_none_of KX G (by k_is)
    have b_enumerate : mg "enumerate" = none := PySem.W.mg_none_of KX G (by k_is)
    have b_sorted : mg "sorted" = none := PySem.W.mg_none_of KX G (by k_is)
    have b_len : mg "len" = none := PySem.W.mg_none_of KX G (by k_is)
    have b_sum : mg "sum" = none := PySem.W.mg_none_of KX G (by k_is)
    have b_abs : mg "abs" = none := PySem.W.mg_none_of KX G (by k_is)
    have b_int : mg "int" = none := PySem.W.mg_none_of KX G (by k_is)
    have b_isinstance : mg "isinstance" = none := PySem.W.mg_none_of KX G (by k_is)
    have b_bool : mg "bool" = none := PySem.W.mg_none_of KX G (by k_is)
    have b_all : mg "all" = none := PySem.W.mg_none_of KX G (by k_is)
    have b_list : mg "list" = none := PySem.W.mg_none_of KX G (by k_is)
    have T : LT.Txt mg := ⟨b_tuple, b_zip, b_min, b_max, b_range, b_enumerate, b_sorted, b_len, b_sum, b_abs, b_int, b_isinstance, b_bool, b_all, b_list⟩
    refine' LT.law_top (st := LT.s_law) KX G hmg ?a ?l ?c ?k (fun u => rfl) (fun base Fu => LT.all_ok T F_plus F_minus F_lowered F_days_of F_cost_of F_summed F__law_cell F__law_digits F__law_draw F__law_mixed F__law_lane F__law_town F__law_script F__law_number F__law_row F__law_whole F__law_days F__law_cost Fu) LT.law_true
    (case a => k_is); (case l => k_is); (case c => k_is); (case k => k_is)
