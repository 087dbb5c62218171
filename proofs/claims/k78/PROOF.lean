import PyProof.Rows.All
import Wide.All
import OpenK.AllK
import Wide.FinOn
import HandS.ForMost
import HandS.ForExc
import HandS.IsInst
import HandS.ExcInit
import HandS.Conv
import HandS.Wide
import HandS.TupAny
import HandS.Style
import HandS.Flow
import HandS.TryOnly
import HandS.More
import HandS.TryMany
import HandS.ExcIs
import HandS.ExcField
import HandS.Zip
import HandS.HotCalls
import PySem.Challenge.RW_everystage_k78_whole_games_by_all_parts
set_option Elab.async false
set_option linter.all false
set_option maxRecDepth 100000
set_option maxHeartbeats 2000000
/-! Layer Z, part A: deep data, the store, states, the low readings. -/
namespace ZL
open PySem PySem.Spec PyProof.Rows L2

abbrev St := L2.St
abbrev D := PyData
/-- an abstract value: frozen deep data, or the i-th mutable cell of the store -/
inductive A where
  | d (x : D)
  | ref (i : Nat)
  | exn
/-- the end of an expression -/
inductive R (α : Type) where
  | ok (x : α)
  | exc (n : String) (fs : List (Str × D))
inductive Cell where
  | lst (xs : List A)
  | dK (kvs : List (Key × A))
  | dT (kvs : List (List Key × A))
  | ins (C : String) (fs : List (Str × A))
  | dead
abbrev Store := List Cell
abbrev Gam := List (Option A)
abbrev Sem (α : Type) := Gam → Store → Option (R α × Store)

/-- what of the text is known: the written part, where the classes stand -/
structure Cf where
  K : PySem.W.Frag
  ε : String → Addr

/-! ### data -/
mutual
theorem dp_mono {K : PySem.W.Frag} {F F' : Hp} (s : Same F F') : ∀ {x : D} {v : V}, Dp K F v x → Dp K F' v x
  | .none, _, h => by cases h; exact .non
  | .bool b, _, h => by cases h; exact .bl b
  | .int i, _, h => by cases h; exact .int i
  | .str z, _, h => by cases h; exact .str z
  | .list ds, _, h => by
    cases h with
    | lst hs ha => exact .lst (s.seq hs) (dpa_mono s ha)
  | .tuple ds, _, h => by
    cases h with
    | tup hs ha => exact .tup (by
        rcases hs with (h | ⟨o, h⟩) | h
        · exact .inl (.inl (s _ _ h))
        · exact .inl (.inr ⟨o, s _ _ h⟩)
        · exact .inr h) (dpa_mono s ha)
  | .dict kvs, _, h => by cases h
theorem dpa_mono {K : PySem.W.Frag} {F F' : Hp} (s : Same F F') : ∀ {xs : List D} {vs : List V}, DpAll K F vs xs → DpAll K F' vs xs
  | [], _, h => by cases h; exact .nil
  | x :: xs, _, h => by
    cases h with
    | cons h1 h2 => exact .cons (dp_mono s h1) (dpa_mono s h2)
end
theorem sqT_mono {K : PySem.W.Frag} {F F' : Hp} {a : Addr} {xs : List V} (s : Same F F') (h : SqT K F a xs) : SqT K F' a xs := by
  rcases h with (h | ⟨o, h⟩) | h
  · exact .inl (.inl (s _ _ h))
  · exact .inl (.inr ⟨o, s _ _ h⟩)
  · exact .inr h

def Ra (c : Cf) (F : Hp) (ρ : List Addr) : A → V → Prop
  | .d x, v => Dp c.K F v x
  | .ref i, v => ∃ a, ρ[i]? = some a ∧ v = .ref a
  | .exn, _ => True
abbrev Ras (c : Cf) (F : Hp) (ρ : List Addr) : List A → List V → Prop := Paired (Ra c F ρ)
def Ro (c : Cf) (F : Hp) (ρ : List Addr) : Option A → Option V → Prop
  | none, _ => True
  | some x, some v => Ra c F ρ x v
  | some _, none => False
abbrev Rg (c : Cf) (F : Hp) (ρ : List Addr) : Gam → St → Prop := Paired (Ro c F ρ)
/-- names with values -/
def Rf {κ α β : Type} (rel : α → β → Prop) : List (κ × α) → List (κ × β) → Prop := Paired fun p q => p.1 = q.1 ∧ rel p.2 q.2

structure Le (F : Hp) (ρ : List Addr) (F' : Hp) (ρ' : List Addr) : Prop where
  sub : Same F F'
  pre : ∃ r, ρ' = ρ ++ r
theorem Le.refl (F : Hp) (ρ : List Addr) : Le F ρ F ρ := ⟨Same.refl F, [], by simp⟩
theorem Le.trans {F F1 F2 : Hp} {ρ ρ1 ρ2 : List Addr} (a : Le F ρ F1 ρ1) (b : Le F1 ρ1 F2 ρ2) : Le F ρ F2 ρ2 := by
  obtain ⟨r, e⟩ := a.pre
  obtain ⟨r', e'⟩ := b.pre
  exact ⟨a.sub.trans b.sub, r ++ r', by rw [e', e, List.append_assoc]⟩
theorem Le.get {F F1 : Hp} {ρ ρ1 : List Addr} (a : Le F ρ F1 ρ1) {i : Nat} {x : Addr} (h : ρ[i]? = some x) : ρ1[i]? = some x := by
  obtain ⟨r, e⟩ := a.pre
  rw [e, List.getElem?_append_left (List.getElem?_eq_some_iff.mp h).1]
  exact h
theorem Le.same {F F1 : Hp} {ρ : List Addr} (s : Same F F1) : Le F ρ F1 ρ := ⟨s, [], by simp⟩
section
variable {c : Cf} {F F' : Hp} {ρ ρ' : List Addr}
theorem Ra.mono (l : Le F ρ F' ρ') : ∀ {x : A} {v : V}, Ra c F ρ x v → Ra c F' ρ' x v
  | .d _, _, h => dp_mono l.sub h
  | .ref _, _, ⟨a, h, e⟩ => ⟨a, l.get h, e⟩
  | .exn, _, _ => trivial
theorem Ras.mono (l : Le F ρ F' ρ') {xs : List A} {vs : List V} (h : Ras c F ρ xs vs) : Ras c F' ρ' xs vs := Paired.mapP h fun _ _ => Ra.mono l
theorem Ro.mono (l : Le F ρ F' ρ') : ∀ {x : Option A} {v : Option V}, Ro c F ρ x v → Ro c F' ρ' x v
  | none, _, _ => trivial
  | some _, some _, h => Ra.mono l h
theorem Rg.mono (l : Le F ρ F' ρ') {xs : Gam} {vs : St} (h : Rg c F ρ xs vs) : Rg c F' ρ' xs vs := Paired.mapP h fun _ _ => Ro.mono l
theorem Rf.mapP {κ α β : Type} {r r' : α → β → Prop} (m : ∀ a b, r a b → r' a b) {xs : List (κ × α)} {ys : List (κ × β)} (h : Rf r xs ys) : Rf r' xs ys := Paired.mapP h fun _ _ z => ⟨z.1, m _ _ z.2⟩
theorem paired_get {α β : Type} {r : α → β → Prop} : ∀ {xs : List α} {ys : List β} {i : Nat} {x : α}, Paired r xs ys → xs[i]? = some x → ∃ y, ys[i]? = some y ∧ r x y
  | _, _, _, _, .nil, e => by simp at e
  | _, _, 0, _, .cons h _, e => by simp at e; subst e; exact ⟨_, rfl, h⟩
  | _, _, i + 1, x, .cons _ t, e => by
    obtain ⟨y, h1, h2⟩ := paired_get (i := i) (x := x) t (by simpa using e)
    exact ⟨y, by simpa using h1, h2⟩
theorem paired_get' {α β : Type} {r : α → β → Prop} : ∀ {xs : List α} {ys : List β} {i : Nat} {y : β}, Paired r xs ys → ys[i]? = some y → ∃ x, xs[i]? = some x ∧ r x y
  | _, _, _, _, .nil, e => by simp at e
  | _, _, 0, _, .cons h _, e => by simp at e; subst e; exact ⟨_, rfl, h⟩
  | _, _, i + 1, y, .cons _ t, e => by
    obtain ⟨x, h1, h2⟩ := paired_get' (i := i) (y := y) t (by simpa using e)
    exact ⟨x, by simpa using h1, h2⟩
theorem paired_set {α β : Type} {r : α → β → Prop} {x : α} {y : β} (h : r x y) : ∀ {xs : List α} {ys : List β} (i : Nat), Paired r xs ys → Paired r (xs.set i x) (ys.set i y)
  | _, _, _, .nil => .nil
  | _, _, 0, .cons _ t => .cons h t
  | _, _, i + 1, .cons q t => .cons q (paired_set h i t)
theorem paired_app {α β : Type} {r : α → β → Prop} : ∀ {xs xs' : List α} {ys ys' : List β}, Paired r xs ys → Paired r xs' ys' → Paired r (xs ++ xs') (ys ++ ys')
  | _, _, _, _, .nil, s => s
  | _, _, _, _, .cons h t, s => .cons h (paired_app t s)
theorem paired_len {α β : Type} {r : α → β → Prop} {xs : List α} {ys : List β} (h : Paired r xs ys) : xs.length = ys.length := Paired.length h
theorem paired_rep {α β : Type} {r : α → β → Prop} {x : α} {y : β} (h : r x y) : ∀ n : Nat, Paired r (List.replicate n x) (List.replicate n y)
  | 0 => .nil
  | n + 1 => .cons h (paired_rep h n)
theorem paired_map {α α' β : Type} {r : α → β → Prop} {r' : α' → β → Prop} {f : α → α'} (m : ∀ a b, r a b → r' (f a) b) : ∀ {xs : List α} {ys : List β}, Paired r xs ys → Paired r' (xs.map f) ys
  | _, _, .nil => .nil
  | _, _, .cons h t => .cons (m _ _ h) (paired_map m t)
theorem paired_map2 {α α' β β' : Type} {r : α → β → Prop} {r' : α' → β' → Prop} {f : α → α'} {g : β → β'} (m : ∀ a b, r a b → r' (f a) (g b)) : ∀ {xs : List α} {ys : List β}, Paired r xs ys → Paired r' (xs.map f) (ys.map g)
  | _, _, .nil => .nil
  | _, _, .cons h t => .cons (m _ _ h) (paired_map2 m t)
theorem dpa_ras : ∀ {xs : List D} {vs : List V}, DpAll c.K F vs xs → Ras c F ρ (xs.map A.d) vs
  | [], _, h => by cases h; exact .nil
  | x :: xs, _, h => by
    cases h with
    | cons h1 h2 => exact .cons h1 (dpa_ras h2)
theorem dpa_len {K : PySem.W.Frag} : ∀ {xs : List D} {vs : List V}, DpAll K F vs xs → vs.length = xs.length
  | [], _, h => by cases h; rfl
  | x :: xs, _, h => by
    cases h with
    | cons h1 h2 => simp [dpa_len h2]
theorem dpa_app {K : PySem.W.Frag} : ∀ {xs ys : List D} {vs ws : List V}, DpAll K F vs xs → DpAll K F ws ys → DpAll K F (vs ++ ws) (xs ++ ys)
  | [], _, _, _, h, h' => by cases h; exact h'
  | x :: xs, _, _, _, h, h' => by
    cases h with
    | cons h1 h2 => exact .cons h1 (dpa_app h2 h')
theorem dpa_get {K : PySem.W.Frag} : ∀ {xs : List D} {vs : List V} {i : Nat} {x : D}, DpAll K F vs xs → xs[i]? = some x → ∃ v, vs[i]? = some v ∧ Dp K F v x
  | [], _, _, _, h, e => by simp at e
  | y :: xs, _, 0, x, h, e => by
    cases h with
    | cons h1 h2 => simp at e; subst e; exact ⟨_, rfl, h1⟩
  | y :: xs, _, i + 1, x, h, e => by
    cases h with
    | cons h1 h2 =>
      obtain ⟨v, e1, e2⟩ := dpa_get (i := i) (x := x) h2 (by simpa using e)
      exact ⟨v, by simpa using e1, e2⟩
theorem dpa_take {K : PySem.W.Frag} : ∀ {xs : List D} {vs : List V} (n : Nat), DpAll K F vs xs → DpAll K F (vs.take n) (xs.take n)
  | [], _, n, h => by cases h; simp; exact .nil
  | x :: xs, _, 0, h => by simp; exact .nil
  | x :: xs, _, n + 1, h => by
    cases h with
    | cons h1 h2 => simp; exact .cons h1 (dpa_take n h2)
theorem dpa_drop {K : PySem.W.Frag} : ∀ {xs : List D} {vs : List V} (n : Nat), DpAll K F vs xs → DpAll K F (vs.drop n) (xs.drop n)
  | [], _, n, h => by cases h; simp; exact .nil
  | x :: xs, _, 0, h => by simpa using h
  | x :: xs, _, n + 1, h => by
    cases h with
    | cons h1 h2 => simp; exact dpa_drop n h2
theorem dpa_rev {K : PySem.W.Frag} : ∀ {xs : List D} {vs : List V}, DpAll K F vs xs → DpAll K F vs.reverse xs.reverse
  | [], _, h => by cases h; simp; exact .nil
  | x :: xs, _, h => by
    cases h with
    | cons h1 h2 => simp; exact dpa_app (dpa_rev h2) (.cons h1 .nil)
theorem dpa_of {K : PySem.W.Frag} : ∀ {xs : List D} {vs : List V}, Paired (fun v x => Dp K F v x) vs xs → DpAll K F vs xs
  | _, _, .nil => .nil
  | _, _, .cons h t => .cons h (dpa_of t)
theorem of_dpa {K : PySem.W.Frag} : ∀ {xs : List D} {vs : List V}, DpAll K F vs xs → Paired (fun v x => Dp K F v x) vs xs
  | [], _, h => by cases h; exact .nil
  | x :: xs, _, h => by
    cases h with
    | cons h1 h2 => exact .cons h1 (of_dpa h2)
end

/-! ### the state -/
structure Ctx where
  c : Cf
  H0 : Hp
  F0 : Hp
  ρ0 : List Addr
  ex : Option (Nat × Addr)
  W : WX
/-- the slot of the exception that a suite handles -/
def Ctx.I (Y : Ctx) (σ : St) : Prop := ∀ (i : Nat) (a : Addr), Y.ex = some (i, a) → σ[i]? = some (some (V.ref a))
def Ctx.keeps (Y : Ctx) (i : Nat) : Bool := match Y.ex with | none => true | some (j, _) => !(j == i)

def CellOk (c : Cf) (F : Hp) (ρ : List Addr) (H : Hp) (a : Addr) : Cell → Prop
  | .lst xs => F a = none ∧ ∃ vs, Ras c F ρ xs vs ∧ H a = some (.lst vs)
  | .dK kvs => F a = none ∧ ∃ vs, Rf (Ra c F ρ) kvs vs ∧ H a = some (.dK vs)
  | .dT kvs => F a = none ∧ ∃ vs, Rf (Ra c F ρ) kvs vs ∧ H a = some (.dT vs)
  | .ins C fs => F a = none ∧ ∃ dx vs, Rf (Ra c F ρ) fs vs ∧ H a = some (.ins (c.ε C) dx vs)
  | .dead => True

structure Sta (Y : Ctx) (F : Hp) (ρ : List Addr) (μ : Store) (H : Hp) : Prop where
  sub : Same F H
  len : ρ.length = μ.length
  nd : ρ.Nodup
  cells : ∀ (i : Nat) (a : Addr) (x : Cell), μ[i]? = some x → ρ[i]? = some a → CellOk Y.c F ρ H a x
  fr : ∀ a o, Y.H0 a = some o → a ∉ Y.ρ0 → H a = some o
  fz : ∀ a, Y.H0 a ≠ none → a ∉ Y.ρ0 → F a = Y.F0 a
  al : ∀ a, Y.H0 a ≠ none → H a ≠ none
  le : Le Y.F0 Y.ρ0 F ρ
  new : ∀ (i : Nat) (a : Addr), Y.ρ0.length ≤ i → ρ[i]? = some a → Y.H0 a = none
  liv : ∀ a, a ∈ ρ → H a ≠ none

theorem CellOk.mono {c : Cf} {F F' : Hp} {ρ ρ' : List Addr} {H H' : Hp} {a : Addr} (l : Le F ρ F' ρ') (hf : F' a = F a) (hh : H' a = H a) : ∀ {x : Cell}, CellOk c F ρ H a x → CellOk c F' ρ' H' a x
  | .lst _, ⟨f, vs, h, e⟩ => ⟨hf.trans f, vs, h.mono l, hh.trans e⟩
  | .dK _, ⟨f, vs, h, e⟩ => ⟨hf.trans f, vs, Rf.mapP (fun _ _ => Ra.mono l) h, hh.trans e⟩
  | .dT _, ⟨f, vs, h, e⟩ => ⟨hf.trans f, vs, Rf.mapP (fun _ _ => Ra.mono l) h, hh.trans e⟩
  | .ins _ _, ⟨f, dx, vs, h, e⟩ => ⟨hf.trans f, dx, vs, Rf.mapP (fun _ _ => Ra.mono l) h, hh.trans e⟩
  | .dead, _ => trivial
theorem CellOk.live {c : Cf} {F : Hp} {ρ : List Addr} {H : Hp} {a : Addr} : ∀ {x : Cell}, CellOk c F ρ H a x → x ≠ .dead → F a = none
  | .lst _, h, _ => h.1
  | .dK _, h, _ => h.1
  | .dT _, h, _ => h.1
  | .ins _ _, h, _ => h.1
  | .dead, _, n => (n rfl).elim

section
variable {Y : Ctx} {F : Hp} {ρ : List Addr} {μ : Store} {H : Hp}
/-- a new object is laid, frozen -/
theorem Sta.laid (S : Sta Y F ρ μ H) {p : Addr} (hp : H p = none) (o : HO) : Sta Y (upd F p o) ρ μ (upd H p o) ∧ Le F ρ (upd F p o) ρ ∧ Same H (upd H p o) := by
  have fp : F p = none := Same.free S.sub hp
  have le : Le F ρ (upd F p o) ρ := Le.same fun b u e => by rw [upd_ne (ne_of_none e fp)]; exact e
  have hs : Same H (upd H p o) := fun b u e => by rw [upd_ne (ne_of_none e hp)]; exact e
  refine ⟨⟨fun b u e => ?_, S.len, S.nd, fun i a x e1 e2 => ?_, fun a u e n => hs _ _ (S.fr a u e n), fun a n m => ?_, fun a n => ?_, S.le.trans le, S.new, fun a m => ?_⟩, le, hs⟩
  · by_cases h : b = p
    · subst h; rw [upd_same] at e ⊢; exact e
    · rw [upd_ne h] at e ⊢; exact S.sub b u e
  · have na : a ≠ p := fun z => S.liv a (List.mem_of_getElem? e2) (by rw [z]; exact hp)
    exact (S.cells i a x e1 e2).mono le (upd_ne na) (upd_ne na)
  · have na : a ≠ p := fun z => S.al a n (by rw [z]; exact hp)
    rw [upd_ne na]; exact S.fz a n m
  · have na : a ≠ p := fun z => S.al a n (by rw [z]; exact hp)
    rw [upd_ne na]; exact S.al a n
  · have na : a ≠ p := fun z => S.liv a m (by rw [z]; exact hp)
    rw [upd_ne na]; exact S.liv a m
/-- a new object is laid, of no further interest -/
theorem Sta.junk (S : Sta Y F ρ μ H) {p : Addr} (hp : H p = none) (o : HO) : Sta Y F ρ μ (upd H p o) := by
  have hs : Same H (upd H p o) := fun b u e => by rw [upd_ne (ne_of_none e hp)]; exact e
  refine ⟨S.sub.trans hs, S.len, S.nd, fun i a x e1 e2 => ?_, fun a u e n => hs _ _ (S.fr a u e n), S.fz, fun a n => ?_, S.le, S.new, fun a m => ?_⟩
  · have na : a ≠ p := fun z => S.liv a (List.mem_of_getElem? e2) (by rw [z]; exact hp)
    exact (S.cells i a x e1 e2).mono (Le.refl _ _) rfl (upd_ne na)
  · have na : a ≠ p := fun z => S.al a n (by rw [z]; exact hp)
    rw [upd_ne na]; exact S.al a n
  · have na : a ≠ p := fun z => S.liv a m (by rw [z]; exact hp)
    rw [upd_ne na]; exact S.liv a m
/-- a new object is laid, a new cell -/
theorem Sta.cell (S : Sta Y F ρ μ H) {p : Addr} (hp : H p = none) (o : HO) (x : Cell) (hx : CellOk Y.c F ρ (upd H p o) p x) :
    Sta Y F (ρ ++ [p]) (μ ++ [x]) (upd H p o) ∧ Le F ρ F (ρ ++ [p]) ∧ Same H (upd H p o) := by
  have hs : Same H (upd H p o) := fun b u e => by rw [upd_ne (ne_of_none e hp)]; exact e
  have le : Le F ρ F (ρ ++ [p]) := ⟨Same.refl F, [p], rfl⟩
  have np : p ∉ ρ := fun m => S.liv p m hp
  refine ⟨⟨S.sub.trans hs, by simp [S.len], ?_, fun i a y e1 e2 => ?_, fun a u e n => hs _ _ (S.fr a u e n), S.fz, fun a n => ?_, S.le.trans le, fun i a l e => ?_, fun a m => ?_⟩, le, hs⟩
  · rw [List.nodup_append]
    exact ⟨S.nd, by simp, fun a ha b hb => by simp at hb; subst hb; intro z; subst z; exact np ha⟩
  · by_cases hi : i < μ.length
    · rw [List.getElem?_append_left hi] at e1
      rw [List.getElem?_append_left (by rw [S.len]; exact hi)] at e2
      have na : a ≠ p := fun z => S.liv a (List.mem_of_getElem? e2) (by rw [z]; exact hp)
      exact (S.cells i a y e1 e2).mono le rfl (upd_ne na)
    · have hi' : i = μ.length := by
        have := (List.getElem?_eq_some_iff.mp e1).1
        simp at this; omega
      subst hi'
      rw [List.getElem?_append_right (Nat.le_refl _)] at e1
      rw [List.getElem?_append_right (by rw [S.len]; exact Nat.le_refl _)] at e2
      simp at e1
      rw [S.len] at e2
      simp at e2
      subst e1 e2
      exact hx.mono le rfl rfl
  · have na : a ≠ p := fun z => S.al a n (by rw [z]; exact hp)
    rw [upd_ne na]; exact S.al a n
  · by_cases hi : i < ρ.length
    · rw [List.getElem?_append_left hi] at e; exact S.new i a l e
    · have hi' : i = ρ.length := by
        have := (List.getElem?_eq_some_iff.mp e).1
        simp at this; omega
      subst hi'
      rw [List.getElem?_append_right (Nat.le_refl _)] at e
      simp at e
      subst e
      cases q : Y.H0 p with
      | none => rfl
      | some u => exact absurd hp (S.al p (by rw [q]; simp))
  · by_cases h : a = p
    · subst h; rw [upd_same]; simp
    · rw [upd_ne h]
      rcases List.mem_append.mp m with m | m
      · exact S.liv a m
      · simp at m; exact absurd m h
theorem nodup_inj {ρ : List Addr} (nd : ρ.Nodup) {i j : Nat} {a : Addr} (h : ρ[i]? = some a) (h' : ρ[j]? = some a) : i = j := by
  obtain ⟨hi, e1⟩ := List.getElem?_eq_some_iff.mp h
  obtain ⟨hj, e2⟩ := List.getElem?_eq_some_iff.mp h'
  exact (List.getElem_inj nd).mp (e1.trans e2.symm)
theorem Sta.notNew (S : Sta Y F ρ μ H) {i : Nat} {a : Addr} (e : ρ[i]? = some a) (h : Y.H0 a ≠ none) : a ∈ Y.ρ0 := by
  obtain ⟨r, er⟩ := S.le.pre
  by_cases hi : i < Y.ρ0.length
  · rw [er, List.getElem?_append_left hi] at e
    exact List.mem_of_getElem? e
  · exact absurd (S.new i a (by omega) e) h
/-- a cell is written -/
theorem Sta.write (S : Sta Y F ρ μ H) {i : Nat} {a : Addr} {x y : Cell} (e1 : μ[i]? = some x) (e2 : ρ[i]? = some a) (hx : x ≠ .dead) (o : HO) (hy : CellOk Y.c F ρ (upd H a o) a y) :
    Sta Y F ρ (μ.set i y) (upd H a o) := by
  have fa : F a = none := (S.cells i a x e1 e2).live hx
  refine ⟨fun b u e => ?_, by simp [S.len], S.nd, fun j b z f1 f2 => ?_, fun b u e n => ?_, S.fz, fun b n => ?_, S.le, S.new, fun b m => ?_⟩
  · rw [upd_ne (ne_of_none e fa)]; exact S.sub b u e
  · by_cases hj : j = i
    · subst hj
      rw [e2] at f2; cases f2
      rw [List.getElem?_set_self (List.getElem?_eq_some_iff.mp e1).1] at f1
      cases f1
      exact hy
    · rw [List.getElem?_set_ne (Ne.symm hj)] at f1
      have nb : b ≠ a := fun z => hj (nodup_inj S.nd f2 (by rw [z]; exact e2))
      exact (S.cells j b z f1 f2).mono (Le.refl _ _) rfl (upd_ne nb)
  · have nb : b ≠ a := fun z => n (by rw [z] at e ⊢; exact S.notNew e2 (by rw [e]; simp))
    rw [upd_ne nb]; exact S.fr b u e n
  · by_cases h : b = a
    · subst h; rw [upd_same]; simp
    · rw [upd_ne h]; exact S.al b n
  · by_cases h : b = a
    · subst h; rw [upd_same]; simp
    · rw [upd_ne h]; exact S.liv b m
/-- a list cell is frozen -/
theorem Sta.freeze (S : Sta Y F ρ μ H) {i : Nat} {a : Addr} {xs : List A} {vs : List V} (e1 : μ[i]? = some (.lst xs)) (e2 : ρ[i]? = some a) (h : H a = some (.lst vs)) :
    Sta Y (upd F a (.lst vs)) ρ (μ.set i .dead) H ∧ Le F ρ (upd F a (.lst vs)) ρ := by
  have fa : F a = none := (S.cells i a _ e1 e2).live (by simp)
  have le : Le F ρ (upd F a (.lst vs)) ρ := Le.same fun b u e => by rw [upd_ne (ne_of_none e fa)]; exact e
  refine ⟨⟨fun b u e => ?_, by simp [S.len], S.nd, fun j b z f1 f2 => ?_, S.fr, fun b n m => ?_, S.al, S.le.trans le, S.new, S.liv⟩, le⟩
  · by_cases hb : b = a
    · subst hb; rw [upd_same] at e; cases e; exact h
    · rw [upd_ne hb] at e; exact S.sub b u e
  · by_cases hj : j = i
    · subst hj
      rw [List.getElem?_set_self (List.getElem?_eq_some_iff.mp e1).1] at f1
      cases f1
      exact trivial
    · rw [List.getElem?_set_ne (Ne.symm hj)] at f1
      have nb : b ≠ a := fun z => hj (nodup_inj S.nd f2 (by rw [z]; exact e2))
      exact (S.cells j b z f1 f2).mono le (upd_ne nb) rfl
  · have nb : b ≠ a := fun z => m (by rw [z] at n ⊢; exact S.notNew e2 n)
    rw [upd_ne nb]; exact S.fz b n m
end

/-! ### readings -/
def Post {α β : Type} (Y : Ctx) (rel : Hp → List Addr → α → β → Prop) (σ : St) (F : Hp) (ρ : List Addr) (r : R α) (μ' : Store) (Q : β → Hp → Prop) : Prop :=
  ∀ F' ρ' H', Le F ρ F' ρ' → Sta Y F' ρ' μ' H' → match r with
    | .ok x => ∀ v, rel F' ρ' x v → Q v H'
    | .exc n fs => ∀ dd vs, F' dd = some (.xd vs) → Rf (fun x v => Dp Y.c.K F' v x) fs vs → Y.W (.ref (Y.c.ε n)) (some dd) σ H'
theorem Post.mono {α β : Type} {Y : Ctx} {rel : Hp → List Addr → α → β → Prop} {σ : St} {F F1 : Hp} {ρ ρ1 : List Addr} {r : R α} {μ' : Store} {Q : β → Hp → Prop} (l : Le F ρ F1 ρ1) (p : Post Y rel σ F ρ r μ' Q) : Post Y rel σ F1 ρ1 r μ' Q :=
  fun F' ρ' H' l' S => p F' ρ' H' (l.trans l') S
def low {α β : Type} (Y : Ctx) (rel : Hp → List Addr → α → β → Prop) (f : Sem α) : St → Hp → (β → Hp → Prop) → Prop := fun σ H Q =>
  Y.I σ ∧ ∃ F ρ μ Γ, Sta Y F ρ μ H ∧ Rg Y.c F ρ Γ σ ∧ ∃ r μ', f Γ μ = some (r, μ') ∧ Post Y rel σ F ρ r μ' Q
abbrev relA (Y : Ctx) : Hp → List Addr → A → V → Prop := fun F ρ x v => Ra Y.c F ρ x v
abbrev relB : Hp → List Addr → Bool → Bool → Prop := fun _ _ x b => x = b
abbrev relAs (Y : Ctx) : Hp → List Addr → List A → List V → Prop := fun F ρ x v => Ras Y.c F ρ x v
abbrev relO : Hp → List Addr → Option Int → Option Int → Prop := fun _ _ x b => x = b
abbrev lowE (Y : Ctx) (f : Sem A) : TE := low Y (relA Y) f
abbrev lowT (Y : Ctx) (f : Sem Bool) : TT := low Y relB f
abbrev lowA (Y : Ctx) (f : Sem (List A)) : TA := low Y (relAs Y) f
abbrev lowO (Y : Ctx) (f : Sem (Option Int)) : TO := low Y relO f
def MonoR {α β : Type} (rel : Hp → List Addr → α → β → Prop) : Prop := ∀ F ρ F' ρ' x v, Le F ρ F' ρ' → rel F ρ x v → rel F' ρ' x v
theorem mono_A (Y : Ctx) : MonoR (relA Y) := fun _ _ _ _ _ _ l h => Ra.mono l h
theorem mono_B : MonoR relB := fun _ _ _ _ _ _ _ h => h
theorem mono_As (Y : Ctx) : MonoR (relAs Y) := fun _ _ _ _ _ _ l h => Ras.mono l h
theorem mono_O : MonoR relO := fun _ _ _ _ _ _ _ h => h

/-! ### sequences -/
def sb {α β : Type} (f : Sem α) (g : α → Sem β) : Sem β := fun Γ μ => match f Γ μ with
  | some (.ok x, μ1) => g x Γ μ1
  | some (.exc n fs, μ1) => some (.exc n fs, μ1)
  | none => none
section
variable {α β γ δ α' β' γ' δ' : Type} {Y : Ctx} {ra : Hp → List Addr → α → α' → Prop} {rb : Hp → List Addr → β → β' → Prop} {rc : Hp → List Addr → γ → γ' → Prop} {rd : Hp → List Addr → δ → δ' → Prop} {σ : St} {H : Hp}
theorem seqV {fa : Sem α} {k : α → Sem γ} {Q : γ' → Hp → Prop} {R1 : α' → Hp → Prop} {F : Hp} {ρ : List Addr} {μ : Store} {Γ : Gam} {r : R γ} {μ' : Store} (hI : Y.I σ) (S : Sta Y F ρ μ H) (G : Rg Y.c F ρ Γ σ) (e : sb fa k Γ μ = some (r, μ')) (P : Post Y rc σ F ρ r μ' Q)
    (hk : ∀ F1 ρ1 μ1 H1 x v, Le F ρ F1 ρ1 → Sta Y F1 ρ1 μ1 H1 → ra F1 ρ1 x v → k x Γ μ1 = some (r, μ') → R1 v H1) : low Y ra fa σ H R1 := by
  unfold sb at e
  split at e
  · rename_i x μ1 e1
    exact ⟨hI, F, ρ, μ, Γ, S, G, .ok x, μ1, e1, fun F1 ρ1 H1 l1 S1 v hv => hk F1 ρ1 μ1 H1 x v l1 S1 hv e⟩
  · rename_i n fs μ1 e1
    cases e
    exact ⟨hI, F, ρ, μ, Γ, S, G, .exc n fs, _, e1, fun F1 ρ1 H1 l1 S1 => P F1 ρ1 H1 l1 S1⟩
  · cases e
theorem seq1 {fa : Sem α} {k : α → Sem γ} {Q : γ' → Hp → Prop} {R1 : α' → Hp → Prop} (h : low Y rc (sb fa k) σ H Q)
    (hk : ∀ F ρ μ Γ H x v r μ', Y.I σ → Sta Y F ρ μ H → Rg Y.c F ρ Γ σ → ra F ρ x v → k x Γ μ = some (r, μ') → Post Y rc σ F ρ r μ' Q → R1 v H) : low Y ra fa σ H R1 := by
  obtain ⟨hI, F, ρ, μ, Γ, S, G, r, μ', e, P⟩ := h
  exact seqV hI S G e P fun F1 ρ1 μ1 H1 x v l S1 hx e1 => hk F1 ρ1 μ1 Γ H1 x v r μ' hI S1 (G.mono l) hx e1 (P.mono l)
theorem seq2 {fa : Sem α} {fb : Sem β} {k : α → β → Sem γ} {Q : γ' → Hp → Prop} {R2 : α' → β' → Hp → Prop} (h : low Y rc (sb fa fun x => sb fb (k x)) σ H Q) (ma : MonoR ra)
    (hk : ∀ F ρ μ Γ H x v y u r μ', Y.I σ → Sta Y F ρ μ H → Rg Y.c F ρ Γ σ → ra F ρ x v → rb F ρ y u → k x y Γ μ = some (r, μ') → Post Y rc σ F ρ r μ' Q → R2 v u H) : low Y ra fa σ H (fun v H1 => low Y rb fb σ H1 (R2 v)) := by
  obtain ⟨hI, F, ρ, μ, Γ, S, G, r, μ', e, P⟩ := h
  exact seqV hI S G e P fun F1 ρ1 μ1 H1 x v l S1 hx e1 => seqV hI S1 (G.mono l) e1 (P.mono l) fun F2 ρ2 μ2 H2 y u l2 S2 hy e2 =>
    hk F2 ρ2 μ2 Γ H2 x v y u r μ' hI S2 (G.mono (l.trans l2)) (ma _ _ _ _ _ _ l2 hx) hy e2 (P.mono (l.trans l2))
theorem seq3 {fa : Sem α} {fb : Sem β} {fd : Sem δ} {k : α → β → δ → Sem γ} {Q : γ' → Hp → Prop} {R2 : α' → β' → δ' → Hp → Prop} (h : low Y rc (sb fa fun x => sb fb fun y => sb fd (k x y)) σ H Q) (ma : MonoR ra) (mb : MonoR rb)
    (hk : ∀ F ρ μ Γ H x v y u z w r μ', Y.I σ → Sta Y F ρ μ H → Rg Y.c F ρ Γ σ → ra F ρ x v → rb F ρ y u → rd F ρ z w → k x y z Γ μ = some (r, μ') → Post Y rc σ F ρ r μ' Q → R2 v u w H) :
    low Y ra fa σ H (fun v H1 => low Y rb fb σ H1 (fun u H2 => low Y rd fd σ H2 (R2 v u))) := by
  obtain ⟨hI, F, ρ, μ, Γ, S, G, r, μ', e, P⟩ := h
  exact seqV hI S G e P fun F1 ρ1 μ1 H1 x v l S1 hx e1 => seqV hI S1 (G.mono l) e1 (P.mono l) fun F2 ρ2 μ2 H2 y u l2 S2 hy e2 =>
    seqV hI S2 (G.mono (l.trans l2)) e2 (P.mono (l.trans l2)) fun F3 ρ3 μ3 H3 z w l3 S3 hz e3 =>
    hk F3 ρ3 μ3 Γ H3 x v y u z w r μ' hI S3 (G.mono ((l.trans l2).trans l3)) (ma _ _ _ _ _ _ (l2.trans l3) hx) (mb _ _ _ _ _ _ l3 hy) hz e3 (P.mono ((l.trans l2).trans l3))
end
end ZL

/-! Layer Z, part B: expressions. -/
namespace ZL
open PySem PySem.Spec PyProof.Rows L2

/-! ### reading abstract values -/
def allD : List A → Option (List D)
  | [] => some []
  | .d x :: xs => (allD xs).map (x :: ·)
  | _ :: _ => none
def rd (μ : Store) : A → Option D
  | .d x => some x
  | .ref i => match μ[i]? with
    | some (.lst xs) => (allD xs).map .list
    | _ => none
  | .exn => none
@[simp] theorem allD_map : ∀ xs : List D, allD (xs.map A.d) = some xs
  | [] => rfl
  | x :: xs => by simp [allD, allD_map xs]
theorem allD_eq : ∀ {xs : List A} {ds : List D}, allD xs = some ds → xs = ds.map A.d
  | [], ds, h => by simp [allD] at h; subst h; rfl
  | .d x :: xs, ds, h => by
    simp only [allD, Option.map_eq_some_iff] at h
    obtain ⟨r, h1, rfl⟩ := h
    rw [List.map_cons, ← allD_eq h1]
  | .ref _ :: _, _, h => by simp [allD] at h
  | .exn :: _, _, h => by simp [allD] at h
theorem ras_dpa {c : Cf} {F : Hp} {ρ : List Addr} : ∀ {ds : List D} {vs : List V}, Ras c F ρ (ds.map A.d) vs → DpAll c.K F vs ds
  | [], _, h => by cases h; exact .nil
  | x :: xs, _, h => by
    cases h with
    | cons h1 h2 => exact .cons h1 (ras_dpa h2)
/-- what is read at a value -/
def Dq (K : PySem.W.Frag) (F H : Hp) (v : V) : D → Prop
  | .none => v = .non
  | .bool b => v = .bl b
  | .int i => v = .int i
  | .str x => v = .str x
  | .list ds => ∃ a vs, v = .ref a ∧ SqL K H a vs ∧ DpAll K F vs ds
  | .tuple ds => ∃ a vs, v = .ref a ∧ SqT K F a vs ∧ DpAll K F vs ds
  | .dict _ => False
theorem dq_of {K : PySem.W.Frag} {F H : Hp} (s : Same F H) : ∀ {x : D} {v : V}, Dp K F v x → Dq K F H v x
  | .none, _, h => by cases h; rfl
  | .bool b, _, h => by cases h; rfl
  | .int i, _, h => by cases h; rfl
  | .str z, _, h => by cases h; rfl
  | .list ds, _, h => by
    cases h with
    | lst hs ha => exact ⟨_, _, rfl, s.seq hs, ha⟩
  | .tuple ds, _, h => by
    cases h with
    | tup hs ha => exact ⟨_, _, rfl, hs, ha⟩
  | .dict kvs, _, h => by cases h
theorem dp_of {K : PySem.W.Frag} {F H : Hp} (s : Same F H) : ∀ {x : D} {v : V}, Dq K F H v x → Dp K H v x
  | .none, _, h => by cases h; exact .non
  | .bool b, _, h => by cases h; exact .bl b
  | .int i, _, h => by cases h; exact .int i
  | .str z, _, h => by cases h; exact .str z
  | .list ds, _, ⟨_, _, e, hs, ha⟩ => by subst e; exact .lst hs (dpa_mono s ha)
  | .tuple ds, _, ⟨_, _, e, hs, ha⟩ => by subst e; exact .tup (sqT_mono s hs) (dpa_mono s ha)
  | .dict kvs, _, h => h.elim
section
variable {Y : Ctx} {F : Hp} {ρ : List Addr} {μ : Store} {H : Hp} {σ : St}
theorem Sta.at (S : Sta Y F ρ μ H) {i : Nat} {v : V} {x : Cell} (h : Ra Y.c F ρ (.ref i) v) (e : μ[i]? = some x) : ∃ a, v = .ref a ∧ ρ[i]? = some a ∧ CellOk Y.c F ρ H a x := by
  obtain ⟨a, h1, rfl⟩ := h
  exact ⟨a, rfl, h1, S.cells i a x e h1⟩
theorem Sta.rd (S : Sta Y F ρ μ H) {x : A} {v : V} {z : D} (h : Ra Y.c F ρ x v) (e : ZL.rd μ x = some z) : Dq Y.c.K F H v z := by
  cases x with
  | d x => cases e; exact dq_of S.sub h
  | ref i =>
    simp only [ZL.rd] at e
    split at e
    · rename_i xs e1
      simp only [Option.map_eq_some_iff] at e
      obtain ⟨ds, e2, rfl⟩ := e
      obtain ⟨a, rfl, h1, h2⟩ := S.at h e1
      obtain ⟨f, vs, hr, hh⟩ := h2
      rw [allD_eq e2] at hr
      exact ⟨a, vs, rfl, SqL.of hh, ras_dpa hr⟩
    · cases e
  | exn => cases e
/-! ### ends -/
theorem Post.val {x : A} {v : V} {Q : VK} (P : Post Y (relA Y) σ F ρ (.ok x) μ Q) (S : Sta Y F ρ μ H) (h : Ra Y.c F ρ x v) : Q v H := P F ρ H (Le.refl _ _) S v h
theorem Post.bool {b : Bool} {Q : Bool → Hp → Prop} (P : Post Y relB σ F ρ (.ok b) μ Q) (S : Sta Y F ρ μ H) : Q b H := P F ρ H (Le.refl _ _) S b rfl
theorem Post.newT {ds : List D} {vs : List V} {Q : VK} (P : Post Y (relA Y) σ F ρ (.ok (.d (.tuple ds))) μ Q) (S : Sta Y F ρ μ H) (h : DpAll Y.c.K F vs ds) (p : Addr) (hp : H p = none) : Q (.ref p) (upd H p (.tup vs)) := by
  obtain ⟨S1, l, s⟩ := S.laid hp (.tup vs)
  exact P _ _ _ l S1 _ (Dp.tup (SqT.of upd_same) (dpa_mono l.sub h))
/-- a new list: frozen, or a cell (m) -/
def mkL (m : Bool) (ds : List D) (μ : Store) : Option (R A × Store) := if m then some (.ok (.ref μ.length), μ ++ [.lst (ds.map .d)]) else some (.ok (.d (.list ds)), μ)
theorem Post.newL {m : Bool} {ds : List D} {vs : List V} {Q : VK} {r : R A} {μ' : Store} (e : mkL m ds μ = some (r, μ')) (P : Post Y (relA Y) σ F ρ r μ' Q) (S : Sta Y F ρ μ H) (h : DpAll Y.c.K F vs ds) (p : Addr) (hp : H p = none) : Q (.ref p) (upd H p (.lst vs)) := by
  cases m with
  | false =>
    cases e
    obtain ⟨S1, l, s⟩ := S.laid hp (.lst vs)
    exact P _ _ _ l S1 _ (Dp.lst (SqL.of upd_same) (dpa_mono l.sub h))
  | true =>
    cases e
    have fp : F p = none := Same.free S.sub hp
    obtain ⟨S1, l, s⟩ := S.cell hp (.lst vs) (.lst (ds.map .d)) ⟨fp, vs, dpa_ras h, upd_same⟩
    exact P _ _ _ l S1 _ ⟨p, by rw [List.getElem?_append_right (by rw [S.len]; exact Nat.le_refl _), S.len]; simp, rfl⟩
/-- a new list of any values, a cell -/
def mkC (xs : List A) (μ : Store) : Option (R A × Store) := some (.ok (.ref μ.length), μ ++ [.lst xs])
theorem Post.newC {xs : List A} {vs : List V} {Q : VK} {r : R A} {μ' : Store} (e : mkC xs μ = some (r, μ')) (P : Post Y (relA Y) σ F ρ r μ' Q) (S : Sta Y F ρ μ H) (h : Ras Y.c F ρ xs vs) (p : Addr) (hp : H p = none) : Q (.ref p) (upd H p (.lst vs)) := by
  cases e
  have fp : F p = none := Same.free S.sub hp
  have l : Le F ρ F (ρ ++ [p]) := ⟨Same.refl F, [p], rfl⟩
  obtain ⟨S1, l, s⟩ := S.cell hp (.lst vs) (.lst xs) ⟨fp, vs, h, upd_same⟩
  exact P _ _ _ l S1 _ ⟨p, by rw [List.getElem?_append_right (by rw [S.len]; exact Nat.le_refl _), S.len]; simp, rfl⟩
end

/-! ### names, constants -/
def var (i : Nat) : Sem A := fun Γ μ => match Γ[i]? with
  | some (some x) => some (.ok x, μ)
  | _ => none
def con (x : D) : Sem A := fun _ μ => some (.ok (.d x), μ)
section
variable {X : Cx} {Y : Ctx} {pos : Pos}
theorem _root_.L2.PE.imp {e : Expr} {t t' : TE} (h : PE X e t) (i : ∀ σ H Q, t' σ H Q → t σ H Q) : PE X e t' := ⟨fun pins s σ H Q I w => h.run pins s σ H Q I (i σ H Q w)⟩
theorem _root_.L2.PT.imp {e : Expr} {t t' : TT} (h : PT X e t) (i : ∀ σ H Q, t' σ H Q → t σ H Q) : PT X e t' := ⟨fun pins s σ H Q I w => h.run pins s σ H Q I (i σ H Q w)⟩
theorem _root_.L2.PW.imp {e : Expr} {t t' : TT} (h : PW X e t) (i : ∀ σ H Q, t' σ H Q → t σ H Q) : PW X e t' := ⟨fun wh pins s σ H Q I w => h.run wh pins s σ H Q I (i σ H Q w)⟩
theorem _root_.L2.PA.imp {e : List Expr} {t t' : TA} (h : PA X e t) (i : ∀ σ H Q, t' σ H Q → t σ H Q) : PA X e t' := ⟨fun p pins s σ H Q I w => h.run p pins s σ H Q I (i σ H Q w)⟩
theorem _root_.L2.PS.imp {e : Stmt} {t t' : TS} (h : PS X e t) (i : ∀ D σ H, t' D σ H → t D σ H) : PS X e t' := ⟨fun pins s σ H Q I w => h.run pins s σ H Q I (i Q σ H w)⟩
theorem _root_.L2.PSs.imp {e : List Stmt} {t t' : TS} (h : PSs X e t) (i : ∀ D σ H, t' D σ H → t D σ H) : PSs X e t' := ⟨fun pins s σ H Q I w => h.run pins s σ H Q I (i Q σ H w)⟩
theorem _root_.L2.PO.imp {e : Option Expr} {t t' : TO} (h : PO X e t) (i : ∀ σ H Q, t' σ H Q → t σ H Q) : PO X e t' := ⟨fun pins s σ H Q I w => h.run pins s σ H Q I (i σ H Q w)⟩

theorem z_var (i : Nat) {x : Str} (hN : X.N[i]? = some x := by rfl) (hv : Vis X.env.scope x := by first | exact Or.inl rfl | exact Or.inr (Or.inl rfl) | exact Or.inr (Or.inr rfl)) (hd : (x == ("__debug__" : Str)) = false := by decide)
    (hcd : (x == ("__classdict__" : Str)) = false := by decide) : PE X (.Name x pos) (lowE Y (var i)) := by
  refine (pe_var hN hv hd hcd).imp fun σ H Q h => ?_
  obtain ⟨hI, F, ρ, μ, Γ, S, G, r, μ', e, P⟩ := h
  unfold var at e
  split at e
  · rename_i x e1
    cases e
    obtain ⟨o, h1, h2⟩ := paired_get G e1
    cases o with
    | none => exact h2.elim
    | some v => exact ⟨v, h1, P.val S h2⟩
  · cases e
theorem z_con {e : Expr} {v : V} {x : D} (h : PE X e (tC v)) (r : ∀ K F, Dp K F v x) : PE X e (lowE Y (con x)) := by
  refine h.imp fun σ H Q h => ?_
  obtain ⟨hI, F, ρ, μ, Γ, S, G, r', μ', e, P⟩ := h
  cases e
  exact P.val S (r _ _)
theorem z_int {i : Int} {j pos} : PE X (.Constant (.int i) j pos) (lowE Y (con (.int i))) := z_con pe_int fun _ _ => .int i
theorem z_bl {b : Bool} {j pos} : PE X (.Constant (.bool b) j pos) (lowE Y (con (.bool b))) := z_con pe_bl fun _ _ => .bl b
theorem z_non {j pos} : PE X (.Constant .none j pos) (lowE Y (con .none)) := z_con pe_non fun _ _ => .non
theorem z_str {x : Str} {j pos} : PE X (.Constant (.str x) j pos) (lowE Y (con (.str x))) := z_con pe_str fun _ _ => .str x
/-- a module's constant that is an int -/
theorem z_glob {x : Str} {i : Int} {t : Tok} (hm : X.mg x = some (.int i t)) (hg : Gl X x := by rfl) (hd : (x == ("__debug__" : Str)) = false := by decide) : PE X (.Name x pos) (lowE Y (con (.int i))) :=
  z_con (pe_glob hg hm (v := .int i) ⟨t, rfl⟩ hd) fun _ _ => .int i

/-! ### two places -/
def biD (op : D → D → Option D) (x y : A) : Sem A := fun _ μ => match rd μ x, rd μ y with
  | some a, some b => match op a b with
    | some z => some (.ok (.d z), μ)
    | none => none
  | _, _ => none
def bin (op : D → D → Option D) (fa fb : Sem A) : Sem A := sb fa fun x => sb fb (biD op x)
/-- what an operation by values must do for op on data -/
def OpZ (Y : Ctx) (op : D → D → Option D) (r : R2) : Prop := ∀ F ρ μ H σ a b z v u Q, Sta Y F ρ μ H → Dq Y.c.K F H v a → Dq Y.c.K F H u b → op a b = some z → Post Y (relA Y) σ F ρ (.ok (.d z)) μ Q → r v u H Q
theorem bi_ok {op : D → D → Option D} {r : R2} (z : OpZ Y op r) {F ρ μ H σ x y v u rs μ' Γ} {Q : VK} (S : Sta Y F ρ μ H) (hx : Ra Y.c F ρ x v) (hy : Ra Y.c F ρ y u) (e : biD op x y Γ μ = some (rs, μ')) (P : Post Y (relA Y) σ F ρ rs μ' Q) : r v u H Q := by
  unfold biD at e
  split at e
  · rename_i a b e1 e2
    split at e
    · rename_i w e3
      cases e
      exact z F ρ μ H σ a b w v u Q S (S.rd hx e1) (S.rd hy e2) e3 P
    · cases e
  · cases e
variable {a b c : Expr} {fa fb fc : Sem A}
theorem z_bin {op : Operator} {f : D → D → Option D} {r : R2} (ho : OpR X (binaryOp op) r) (z : OpZ Y f r) (ha : PE X a (lowE Y fa)) (hb : PE X b (lowE Y fb)) : PE X (.BinOp a op b pos) (lowE Y (bin f fa fb)) :=
  (pe_op ho ha hb).imp fun σ H Q h => seq2 h (mono_A Y) fun F ρ μ Γ H x v y u r μ' hI S G hx hy e P => bi_ok z S hx hy e P
/-! ints -/
def opI (C : Int → Int → Bool) (g : Int → Int → Int) : D → D → Option D
  | .int i, .int j => if C i j then some (.int (g i j)) else none
  | _, _ => none
theorem opI_rd {C : Int → Int → Bool} {g : Int → Int → Int} {a b z : D} (e : opI C g a b = some z) : ∃ i j, a = .int i ∧ b = .int j ∧ C i j = true ∧ z = .int (g i j) := by
  unfold opI at e
  split at e
  · split at e
    · rename_i h
      cases e
      exact ⟨_, _, rfl, rfl, h, rfl⟩
    · cases e
  · cases e
theorem opz_I {C : Int → Int → Bool} {C' : Int → Int → Prop} {g : Int → Int → Int} (hc : ∀ i j, C i j = true → C' i j) : OpZ Y (opI C g) (rI C' fun i j => .int (g i j)) := fun F ρ μ H σ a b z v u Q S ha hb e P => by
  obtain ⟨i, j, rfl, rfl, h, rfl⟩ := opI_rd e
  exact ⟨i, j, ha, hb, hc _ _ h, P.val S (.int _)⟩
def opMul : D → D → Option D := opI (fun i j => (decide (-(2 ^ 64) < i) && decide (i < 2 ^ 64)) || (decide (-(2 ^ 64) < j) && decide (j < 2 ^ 64))) (· * ·)
def opMod : D → D → Option D := opI (fun _ j => decide (0 < j)) (· % ·)
def opDiv : D → D → Option D := opI (fun _ j => decide (0 < j) && decide (j < 1073741824)) (· / ·)
def opSub : D → D → Option D := opI (fun _ _ => true) (· - ·)
def opPow : D → D → Option D := opI (fun i j => decide (0 ≤ j) && (decide (j ≤ 1000000) && decide (i.natAbs < 2 ^ 64))) (fun i j => i ^ j.toNat)
theorem z_mul (ha : PE X a (lowE Y fa)) (hb : PE X b (lowE Y fb)) : PE X (.BinOp a .Mult b pos) (lowE Y (bin opMul fa fb)) := z_bin op_mul (opz_I fun i j h => by simpa [CMul] using h) ha hb
theorem z_mod (ha : PE X a (lowE Y fa)) (hb : PE X b (lowE Y fb)) : PE X (.BinOp a .Mod b pos) (lowE Y (bin opMod fa fb)) := z_bin op_mod (opz_I fun i j h => by simpa using h) ha hb
theorem z_div (ha : PE X a (lowE Y fa)) (hb : PE X b (lowE Y fb)) : PE X (.BinOp a .FloorDiv b pos) (lowE Y (bin opDiv fa fb)) := z_bin op_fdiv (opz_I fun i j h => by simpa [CDiv] using h) ha hb
theorem z_pow (ha : PE X a (lowE Y fa)) (hb : PE X b (lowE Y fb)) : PE X (.BinOp a .Pow b pos) (lowE Y (bin opPow fa fb)) := z_bin op_pow (opz_I fun i j h => by simpa [CPow] using h) ha hb
theorem z_sub (ha : PE X a (lowE Y fa)) (hb : PE X b (lowE Y fb)) : PE X (.BinOp a .Sub b pos) (lowE Y (bin opSub fa fb)) :=
  z_bin op_sub (fun F ρ μ H σ a b z v u Q S ha hb e P => by
    obtain ⟨i, j, rfl, rfl, h, rfl⟩ := opI_rd e
    exact ⟨i, j, ha, hb, P.val S (.int _)⟩) ha hb
/-! + -/
def opAdd : D → D → Option D
  | .int i, .int j => some (.int (i + j))
  | .str x, .str y => if x.length + y.length ≤ 1000000 then some (.str (x ++ y)) else none
  | .tuple x, .tuple y => if x.length + y.length ≤ 1000000 then some (.tuple (x ++ y)) else none
  | .list x, .list y => if x.length + y.length ≤ 1000000 then some (.list (x ++ y)) else none
  | _, _ => none
theorem sz {n : Nat} (h : n ≤ 1000000) : n ≤ sizeLine := Nat.le_trans h (by decide)
def rCatL (K : PySem.W.Frag) : R2 := fun x y H Q => ∃ l b xs zs, x = .ref l ∧ y = .ref b ∧ SqL K H l xs ∧ SqL K H b zs ∧ xs.length + zs.length ≤ sizeLine ∧ ∀ p, H p = none → Q (.ref p) (upd H p (.lst (xs ++ zs)))
theorem op_catL : OpR X (binaryOp .Add) (rCatL X.K) := by
  intro pins s σ H x y v u Q I rx ry h
  obtain ⟨l, b, xs, zs, rfl, rfl, hH, hB, hz, q⟩ := h
  cases rx
  cases ry
  obtain ⟨its, r, ⟨⟨cls, dd, data, sl⟩, n, ho, hc, hdd, hd⟩, _⟩ := I.list hH
  obtain ⟨its2, r2, ⟨⟨cls2, dd2, data2, sl2⟩, n2, ho2, hc2, hdd2, hd2⟩, _⟩ := I.list hB
  simp only at hc hd hc2 hd2
  subst hc hd hc2 hd2
  have e : its.toArray ++ its2.toArray = (its ++ its2).toArray := by simp
  have hl := r.length
  have hl2 := r2.length
  refine concat_meets ⟨_, ho, rfl⟩ ⟨_, ho2, rfl⟩ noFill_list_add seq_list_add PySem.F.slot_list_add PySem.F.entry_list_add (PySem.F.args_list_add_2 _ _) (list_addW l b its.toArray its2.toArray n n2 dd dd2 sl sl2 (by simp; omega)) ⟨ho, ho2, ?_⟩
  rw [e]
  exact ⟨.ref _, _, I.lnew (t' := s.toks) (r.append r2) (by rw [List.length_append]; omega), rfl, q _ I.fresh⟩
def rAddZ (K : PySem.W.Frag) : R2 := fun x y H Q => ((rI0 (fun i j => .int (i + j)) x y H Q ∨ (∃ i j, x = .str i ∧ y = .str j ∧ i.length + j.length ≤ sizeLine ∧ Q (.str (i ++ j)) H)) ∨ rCatA K x y H Q) ∨ rCatL K x y H Q
theorem op_addZ : OpR X (binaryOp .Add) (rAddZ X.K) := ((op_add.or op_add_str).or op_catA).or op_catL
theorem opz_add {K : PySem.W.Frag} (hK : Y.c.K = K) : OpZ Y opAdd (rAddZ K) := fun F ρ μ H σ a b z v u Q S ha hb e P => by
  subst hK
  unfold opAdd at e
  split at e
  · cases e
    exact .inl (.inl (.inl ⟨_, _, ha, hb, P.val S (.int _)⟩))
  · split at e
    · rename_i h
      cases e
      exact .inl (.inl (.inr ⟨_, _, ha, hb, sz h, P.val S (.str _)⟩))
    · cases e
  · split at e
    · rename_i xs ys h
      cases e
      obtain ⟨p, vs, rfl, h1, h2⟩ := ha
      obtain ⟨q, ws, rfl, h3, h4⟩ := hb
      have l1 := dpa_len h2
      have l2 := dpa_len h4
      refine .inl (.inr ⟨p, q, vs, ws, rfl, rfl, sqT_mono S.sub h1, sqT_mono S.sub h3, sz (by omega), fun e => ?_, fun _ e => ?_, fun _ _ p hp => P.newT S (dpa_app h2 h4) p hp⟩)
      · subst e
        have : xs = [] := List.eq_nil_of_length_eq_zero (by simpa using l1.symm)
        subst this
        exact P.val S (Dp.tup h3 h4)
      · subst e
        have : ys = [] := List.eq_nil_of_length_eq_zero (by simpa using l2.symm)
        subst this
        exact P.val S (Dp.tup h1 (by simpa using h2))
    · cases e
  · split at e
    · rename_i xs ys h
      cases e
      obtain ⟨p, vs, rfl, h1, h2⟩ := ha
      obtain ⟨q, ws, rfl, h3, h4⟩ := hb
      have l1 := dpa_len h2
      have l2 := dpa_len h4
      exact .inr ⟨p, q, vs, ws, rfl, rfl, h1, h3, sz (by omega), fun p hp => P.newL (m := false) rfl S (dpa_app h2 h4) p hp⟩
    · cases e
  · cases e
theorem z_add (hK : Y.c.K = X.K := by rfl) (ha : PE X a (lowE Y fa)) (hb : PE X b (lowE Y fb)) : PE X (.BinOp a .Add b pos) (lowE Y (bin opAdd fa fb)) := z_bin op_addZ (opz_add hK) ha hb
end
end ZL

/-! Layer Z, part C: comparisons, truth, displays, subscripts, slices. -/
namespace ZL
open PySem PySem.Spec PyProof.Rows L2

/-! ### comparisons -/
def bv (f : Sem Bool) : Sem A := sb f fun b _ μ => some (.ok (.d (.bool b)), μ)
def cmpD (op : D → D → Option Bool) (x y : A) : Sem Bool := fun _ μ => match rd μ x, rd μ y with
  | some a, some b => match op a b with
    | some k => some (.ok k, μ)
    | none => none
  | _, _ => none
def cmp (op : D → D → Option Bool) (fa fb : Sem A) : Sem Bool := sb fa fun x => sb fb (cmpD op x)
def CmpZ (Y : Ctx) (op : D → D → Option Bool) (r : R2) : Prop := ∀ F ρ μ H a b k v u, Sta Y F ρ μ H → Dq Y.c.K F H v a → Dq Y.c.K F H u b → op a b = some k → ∀ Q : VK, Q (.bl k) H → r v u H Q
section
variable {X : Cx} {Y : Ctx} {pos : Pos} {a b c : Expr} {fa fb fc : Sem A}
theorem cmp_ok {op : D → D → Option Bool} {r : R2} (z : CmpZ Y op r) {F ρ μ H σ x y v u rs μ' Γ} {Q : Bool → Hp → Prop} (S : Sta Y F ρ μ H) (hx : Ra Y.c F ρ x v) (hy : Ra Y.c F ρ y u) (e : cmpD op x y Γ μ = some (rs, μ')) (P : Post Y relB σ F ρ rs μ' Q)
    {Q' : VK} (hQ : ∀ k, Q k H → Q' (.bl k) H) : r v u H Q' := by
  unfold cmpD at e
  split at e
  · rename_i a b e1 e2
    split at e
    · rename_i w e3
      cases e
      exact z F ρ μ H a b w v u S (S.rd hx e1) (S.rd hy e2) e3 Q' (hQ _ (P.bool S))
    · cases e
  · cases e
/-- a test's reading as a value's -/
theorem bv_low {f : Sem Bool} {σ : St} {H : Hp} {Q : VK} (h : lowE Y (bv f) σ H Q) : lowT Y f σ H fun b H1 => Q (.bl b) H1 :=
  seq1 h fun F ρ μ Γ H x v r μ' hI S G hx e P => by
    obtain rfl : x = v := hx
    cases e
    exact P.val S (.bl _)
theorem z_cmpT {op : CmpOp} {f : D → D → Option Bool} {r : R2} (ho : OpR X (compareOp op) r) (z : CmpZ Y f r) (ha : PE X a (lowE Y fa)) (hb : PE X b (lowE Y fb)) (hm : behindInMarks op b = false) : PT X (.Compare a [op] [b] pos) (lowT Y (cmp f fa fb)) :=
  (pt_cmpR ho ha hb hm).imp fun σ H Q h => seq2 h (mono_A Y) fun F ρ μ Γ H x v y u r μ' hI S G hx hy e P => cmp_ok z S hx hy e P fun k q => ⟨k, rfl, q⟩
theorem z_cmpV {op : CmpOp} {f : D → D → Option Bool} {r : R2} (ho : OpR X (compareOp op) r) (z : CmpZ Y f r) (ha : PE X a (lowE Y fa)) (hb : PE X b (lowE Y fb)) (hm : behindInMarks op b = false) : PE X (.Compare a [op] [b] pos) (lowE Y (bv (cmp f fa fb))) :=
  (pe_cmpR ho ha hb hm).imp fun σ H Q h => seq2 (bv_low h) (mono_A Y) fun F ρ μ Γ H x v y u r μ' hI S G hx hy e P => cmp_ok z S hx hy e P fun k q => q
def cI (g : Int → Int → Bool) : D → D → Option Bool
  | .int i, .int j => some (g i j)
  | _, _ => none
def cLt := cI fun i j => decide (i < j)
def cLe := cI fun i j => decide (i ≤ j)
def cGt := cI fun i j => decide (j < i)
def cGe := cI fun i j => decide (j ≤ i)
theorem cz_I {g : Int → Int → Bool} : CmpZ Y (cI g) (rI0 fun i j => .bl (g i j)) := fun F ρ μ H a b k v u S ha hb e Q q => by
  unfold cI at e
  split at e
  · cases e
    exact ⟨_, _, ha, hb, q⟩
  · cases e
theorem cz_lt : CmpZ Y cLt (rI0 fun i j => .bl (decide (i < j))) := cz_I
theorem cz_le : CmpZ Y cLe (rI0 fun i j => .bl (decide (i ≤ j))) := cz_I
theorem cz_gt : CmpZ Y cGt (rI0 fun i j => .bl (decide (j < i))) := cz_I
theorem cz_ge : CmpZ Y cGe (rI0 fun i j => .bl (decide (j ≤ i))) := cz_I
def cEq : D → D → Option Bool := fun a b => if SeqAt.shaped a && SeqAt.shaped b then some (PyData.eqv a b) else none
def cNe : D → D → Option Bool := fun a b => if SeqAt.shaped a && SeqAt.shaped b then some (!PyData.eqv a b) else none
theorem cz_eq {K : PySem.W.Frag} (hK : Y.c.K = K) : CmpZ Y cEq (rEqD K) := fun F ρ μ H a b k v u S ha hb e Q q => by
  subst hK
  unfold cEq at e
  split at e
  · rename_i h
    rw [Bool.and_eq_true] at h
    cases e
    exact ⟨a, b, dp_of S.sub ha, dp_of S.sub hb, h.1, h.2, q⟩
  · cases e
theorem cz_ne {K : PySem.W.Frag} (hK : Y.c.K = K) : CmpZ Y cNe (rNeD K) := fun F ρ μ H a b k v u S ha hb e Q q => by
  subst hK
  unfold cNe at e
  split at e
  · rename_i h
    rw [Bool.and_eq_true] at h
    cases e
    exact ⟨a, b, dp_of S.sub ha, dp_of S.sub hb, h.1, h.2, q⟩
  · cases e
/-! in, not in: flat items -/
def flatD : D → Bool
  | .none | .bool _ | .int _ | .str _ => true
  | _ => false
def itemsD : D → Option (List D)
  | .list ds => some ds
  | .tuple ds => some ds
  | _ => none
def cIn (neg : Bool) : D → D → Option Bool := fun x y => match itemsD y with
  | some ds => if flatD x && ds.all flatD then some (if neg then !(ds.any fun z => PyData.eqv z x) else ds.any fun z => PyData.eqv z x) else none
  | none => none
theorem flat_dp {K : PySem.W.Frag} {F : Hp} : ∀ {x : D} {v : V}, Dp K F v x → flatD x = true → flatV v = true
  | .none, _, h, _ => by cases h; rfl
  | .bool _, _, h, _ => by cases h; rfl
  | .int _, _, h, _ => by cases h; rfl
  | .str _, _, h, _ => by cases h; rfl
  | .list _, _, _, e => by cases e
  | .tuple _, _, _, e => by cases e
  | .dict _, _, _, e => by cases e
theorem eqv_dp {K : PySem.W.Frag} {F : Hp} {x y : D} {v u : V} (h : Dp K F v x) (h' : Dp K F u y) (fx : flatD x = true) (fy : flatD y = true) : eqV v u = PyData.eqv x y := by
  cases h <;> cases h' <;> first | (cases fx; done) | (cases fy; done) | simp [eqV, PyData.eqv]
theorem inV_dp {K : PySem.W.Frag} {F : Hp} {x : D} {v : V} (h : Dp K F v x) (fx : flatD x = true) : ∀ {ds : List D} {vs : List V}, DpAll K F vs ds → ds.all flatD = true → vs.all flatV = true ∧ inV v vs = ds.any fun z => PyData.eqv z x
  | [], _, hs, _ => by cases hs; exact ⟨rfl, rfl⟩
  | z :: ds, _, hs, f => by
    cases hs with
    | cons h1 h2 =>
      rw [List.all_cons, Bool.and_eq_true] at f
      obtain ⟨i1, i2⟩ := inV_dp h fx h2 f.2
      refine ⟨by rw [List.all_cons, flat_dp h1 f.1, i1]; rfl, ?_⟩
      show (eqV _ v || inV v _) = _
      rw [i2, eqv_dp h1 h f.1 fx, List.any_cons]
theorem cz_in {K : PySem.W.Frag} (hK : Y.c.K = K) (neg : Bool) : CmpZ Y (cIn neg) (rIn K neg) := fun F ρ μ H a b k v u S ha hb e Q q => by
  subst hK
  unfold cIn at e
  split at e
  · rename_i ds e1
    split at e
    · rename_i h
      rw [Bool.and_eq_true] at h
      cases e
      have hd := dp_of S.sub ha
      cases b with
      | list es =>
        cases e1
        obtain ⟨p, vs, rfl, h1, h2⟩ := hb
        obtain ⟨i1, i2⟩ := inV_dp hd h.1 (dpa_mono S.sub h2) h.2
        exact ⟨p, vs, rfl, .inl h1, flat_dp hd h.1, i1, by rw [i2]; exact q⟩
      | tuple es =>
        cases e1
        obtain ⟨p, vs, rfl, h1, h2⟩ := hb
        obtain ⟨i1, i2⟩ := inV_dp hd h.1 (dpa_mono S.sub h2) h.2
        exact ⟨p, vs, rfl, .inr (sqT_mono S.sub h1), flat_dp hd h.1, i1, by rw [i2]; exact q⟩
      | none => cases e1
      | bool _ => cases e1
      | int _ => cases e1
      | str _ => cases e1
      | dict _ => cases e1
    · cases e
  · cases e
section
variable (hK : Y.c.K = X.K := by rfl)
include hK
theorem z_ltT (ha : PE X a (lowE Y fa)) (hb : PE X b (lowE Y fb)) : PT X (.Compare a [.Lt] [b] pos) (lowT Y (cmp cLt fa fb)) := z_cmpT op_lt cz_lt ha hb (nomark _)
theorem z_leT (ha : PE X a (lowE Y fa)) (hb : PE X b (lowE Y fb)) : PT X (.Compare a [.LtE] [b] pos) (lowT Y (cmp cLe fa fb)) := z_cmpT op_le cz_le ha hb (nomark _)
theorem z_gtT (ha : PE X a (lowE Y fa)) (hb : PE X b (lowE Y fb)) : PT X (.Compare a [.Gt] [b] pos) (lowT Y (cmp cGt fa fb)) := z_cmpT op_gt cz_gt ha hb (nomark _)
theorem z_geT (ha : PE X a (lowE Y fa)) (hb : PE X b (lowE Y fb)) : PT X (.Compare a [.GtE] [b] pos) (lowT Y (cmp cGe fa fb)) := z_cmpT op_ge cz_ge ha hb (nomark _)
theorem z_eqT {k : Nat} (hr : Room k X.A) (ha : PE X a (lowE Y fa)) (hb : PE X b (lowE Y fb)) : PT X (.Compare a [.Eq] [b] pos) (lowT Y (cmp cEq fa fb)) := z_cmpT (op_eqD hr.units) (cz_eq hK) ha hb (nomark _)
theorem z_neT {k : Nat} (hr : Room k X.A) (ha : PE X a (lowE Y fa)) (hb : PE X b (lowE Y fb)) : PT X (.Compare a [.NotEq] [b] pos) (lowT Y (cmp cNe fa fb)) := z_cmpT (op_neD hr.units) (cz_ne hK) ha hb (nomark _)
theorem z_inT (ha : PE X a (lowE Y fa)) (hb : PE X b (lowE Y fb)) (hm : behindInMarks .In b = false := by rfl) : PT X (.Compare a [.In] [b] pos) (lowT Y (cmp (cIn false) fa fb)) := z_cmpT op_in_seq (cz_in hK false) ha hb hm
theorem z_niT (ha : PE X a (lowE Y fa)) (hb : PE X b (lowE Y fb)) (hm : behindInMarks .NotIn b = false := by rfl) : PT X (.Compare a [.NotIn] [b] pos) (lowT Y (cmp (cIn true) fa fb)) := z_cmpT op_notIn_seq (cz_in hK true) ha hb hm
theorem z_ltV (ha : PE X a (lowE Y fa)) (hb : PE X b (lowE Y fb)) : PE X (.Compare a [.Lt] [b] pos) (lowE Y (bv (cmp cLt fa fb))) := z_cmpV op_lt cz_lt ha hb (nomark _)
theorem z_leV (ha : PE X a (lowE Y fa)) (hb : PE X b (lowE Y fb)) : PE X (.Compare a [.LtE] [b] pos) (lowE Y (bv (cmp cLe fa fb))) := z_cmpV op_le cz_le ha hb (nomark _)
theorem z_gtV (ha : PE X a (lowE Y fa)) (hb : PE X b (lowE Y fb)) : PE X (.Compare a [.Gt] [b] pos) (lowE Y (bv (cmp cGt fa fb))) := z_cmpV op_gt cz_gt ha hb (nomark _)
theorem z_geV (ha : PE X a (lowE Y fa)) (hb : PE X b (lowE Y fb)) : PE X (.Compare a [.GtE] [b] pos) (lowE Y (bv (cmp cGe fa fb))) := z_cmpV op_ge cz_ge ha hb (nomark _)
theorem z_eqV {k : Nat} (hr : Room k X.A) (ha : PE X a (lowE Y fa)) (hb : PE X b (lowE Y fb)) : PE X (.Compare a [.Eq] [b] pos) (lowE Y (bv (cmp cEq fa fb))) := z_cmpV (op_eqD hr.units) (cz_eq hK) ha hb (nomark _)
theorem z_neV {k : Nat} (hr : Room k X.A) (ha : PE X a (lowE Y fa)) (hb : PE X b (lowE Y fb)) : PE X (.Compare a [.NotEq] [b] pos) (lowE Y (bv (cmp cNe fa fb))) := z_cmpV (op_neD hr.units) (cz_ne hK) ha hb (nomark _)
theorem z_inV (ha : PE X a (lowE Y fa)) (hb : PE X b (lowE Y fb)) (hm : behindInMarks .In b = false := by rfl) : PE X (.Compare a [.In] [b] pos) (lowE Y (bv (cmp (cIn false) fa fb))) := z_cmpV op_in_seq (cz_in hK false) ha hb hm
theorem z_niV (ha : PE X a (lowE Y fa)) (hb : PE X b (lowE Y fb)) (hm : behindInMarks .NotIn b = false := by rfl) : PE X (.Compare a [.NotIn] [b] pos) (lowE Y (bv (cmp (cIn true) fa fb))) := z_cmpV op_notIn_seq (cz_in hK true) ha hb hm
end
/-! is None, is True -/
def isNk (neg : Bool) (x : A) (μ : Store) : Option (R Bool × Store) := match x with
  | .d .none => some (.ok (!neg), μ)
  | .d _ => some (.ok neg, μ)
  | .ref _ => some (.ok neg, μ)
  | .exn => none
def isN (neg : Bool) (fa : Sem A) : Sem Bool := sb fa fun x _ μ => isNk neg x μ
theorem isN_ok {neg : Bool} {F ρ μ H σ x v rs μ'} {Q : Bool → Hp → Prop} (S : Sta Y F ρ μ H) (hx : Ra Y.c F ρ x v) (e : isNk neg x μ = some (rs, μ')) (P : Post Y relB σ F ρ rs μ' Q) : Q (if neg then !decide (v = .non) else decide (v = .non)) H := by
  unfold isNk at e
  cases x with
  | d z =>
    cases z <;> cases e <;> (have h := dq_of S.sub hx) <;> simp only [Dq] at h
    · subst h; have := P.bool S; cases neg <;> simpa using this
    · subst h; have := P.bool S; cases neg <;> simpa using this
    · subst h; have := P.bool S; cases neg <;> simpa using this
    · subst h; have := P.bool S; cases neg <;> simpa using this
    · obtain ⟨_, _, rfl, _⟩ := h; have := P.bool S; cases neg <;> simpa using this
    · obtain ⟨_, _, rfl, _⟩ := h; have := P.bool S; cases neg <;> simpa using this
  | ref i =>
    cases e
    obtain ⟨p, _, rfl⟩ := hx
    have := P.bool S
    cases neg <;> simpa using this
  | exn => cases e
theorem z_isNT {j pos'} (ha : PE X a (lowE Y fa)) : PT X (.Compare a [.Is] [.Constant .none j pos'] pos) (lowT Y (isN false fa)) :=
  (pt_cmp (pc_isN ha)).imp fun σ H Q h => seq1 h fun F ρ μ Γ H x v r μ' hI S G hx e P => ⟨_, rfl, by simpa using isN_ok S hx e P⟩
theorem z_notNT {j pos'} (ha : PE X a (lowE Y fa)) : PT X (.Compare a [.IsNot] [.Constant .none j pos'] pos) (lowT Y (isN true fa)) :=
  (pt_cmp (pc_notN ha)).imp fun σ H Q h => seq1 h fun F ρ μ Γ H x v r μ' hI S G hx e P => ⟨_, rfl, by simpa using isN_ok S hx e P⟩
theorem z_isNV {j pos'} (ha : PE X a (lowE Y fa)) : PE X (.Compare a [.Is] [.Constant .none j pos'] pos) (lowE Y (bv (isN false fa))) :=
  (pe_cmp (pc_isN ha)).imp fun σ H Q h => seq1 (bv_low h) fun F ρ μ Γ H x v r μ' hI S G hx e P => by simpa using isN_ok S hx e P
theorem z_notNV {j pos'} (ha : PE X a (lowE Y fa)) : PE X (.Compare a [.IsNot] [.Constant .none j pos'] pos) (lowE Y (bv (isN true fa))) :=
  (pe_cmp (pc_notN ha)).imp fun σ H Q h => seq1 (bv_low h) fun F ρ μ Γ H x v r μ' hI S G hx e P => by simpa using isN_ok S hx e P
def cIs (neg : Bool) : D → D → Option Bool
  | .bool a, .bool b => some (if neg then !decide (a = b) else decide (a = b))
  | _, _ => none
theorem cz_is : CmpZ Y (cIs false) rIsB := fun F ρ μ H a b k v u S ha hb e Q q => by
  unfold cIs at e
  split at e
  · cases e; exact ⟨_, _, ha, hb, by simpa using q⟩
  · cases e
theorem cz_isn : CmpZ Y (cIs true) rNotB := fun F ρ μ H a b k v u S ha hb e Q q => by
  unfold cIs at e
  split at e
  · cases e; exact ⟨_, _, ha, hb, by simpa using q⟩
  · cases e
theorem z_isT (ha : PE X a (lowE Y fa)) (hb : PE X b (lowE Y fb)) : PT X (.Compare a [.Is] [b] pos) (lowT Y (cmp (cIs false) fa fb)) := z_cmpT op_isBl cz_is ha hb (nomark _)
theorem z_isnT (ha : PE X a (lowE Y fa)) (hb : PE X b (lowE Y fb)) : PT X (.Compare a [.IsNot] [b] pos) (lowT Y (cmp (cIs true) fa fb)) := z_cmpT op_notBl cz_isn ha hb (nomark _)
/-! a < b < c -/
def chn (op op' : D → D → Option Bool) (fa fb fc : Sem A) : Sem Bool := sb fa fun x => sb fb fun y => sb (cmpD op x y) fun k => if k then sb fc fun z => cmpD op' y z else fun _ μ => some (.ok false, μ)
theorem chn_ok {op op' : D → D → Option Bool} {r r' : R2} (z : CmpZ Y op r) (z' : CmpZ Y op' r') {σ : St} {H : Hp} {Q : Bool → Hp → Prop} {Q' : VK} (h : lowT Y (chn op op' fa fb fc) σ H Q) (hQ : ∀ k H, Q k H → Q' (.bl k) H) :
    tChain r r' (lowE Y fa) (lowE Y fb) (lowE Y fc) σ H Q' := by
  obtain ⟨hI, F, ρ, μ, Γ, S, G, rs, μ', e, P⟩ := h
  refine seqV hI S G e P fun F1 ρ1 μ1 H1 x v l S1 hx e1 => seqV hI S1 (G.mono l) e1 (P.mono l) fun F2 ρ2 μ2 H2 y u l2 S2 hy e2 => ?_
  have P2 := P.mono (l.trans l2)
  have G2 := G.mono (l.trans l2)
  unfold sb at e2
  split at e2
  · rename_i k μ3 e3
    unfold cmpD at e3
    split at e3
    · rename_i a b ea eb
      split at e3
      · rename_i w ew
        cases e3
        refine z F2 ρ2 μ2 H2 a b k v u S2 (S2.rd (Ra.mono l2 hx) ea) (S2.rd hy eb) ew _ ⟨k, rfl, ?_⟩
        cases k with
        | true =>
          replace e2 : sb fc (fun z => cmpD op' y z) Γ μ2 = some (rs, μ') := e2
          rw [if_pos rfl]
          refine seqV hI S2 G2 e2 P2 fun F4 ρ4 μ4 H4 t w' l4 S4 ht e4 => ?_
          exact cmp_ok (Γ := Γ) z' S4 (Ra.mono l4 hy) ht e4 (P2.mono l4) fun k q => hQ k _ q
        | false =>
          replace e2 : some (R.ok false, μ2) = some (rs, μ') := e2
          rw [if_neg Bool.false_ne_true]
          cases e2
          exact hQ _ _ (P2.bool S2)
      · cases e3
    · cases e3
  · rename_i e3
    unfold cmpD at e3
    split at e3
    · split at e3
      · cases e3
      · cases e3
    · cases e3
  · cases e2
theorem z_chnT {op op' : CmpOp} {f f' : D → D → Option Bool} {r r' : R2} (ho : OpR X (compareOp op) r) (ho' : OpR X (compareOp op') r') (z : CmpZ Y f r) (z' : CmpZ Y f' r') (ha : PE X a (lowE Y fa)) (hb : PE X b (lowE Y fb)) (hc : PE X c (lowE Y fc))
    (hm : lastMarks [op, op'] [b, c] = false := by with_unfolding_all rfl) : PT X (.Compare a [op, op'] [b, c] pos) (lowT Y (chn f f' fa fb fc)) :=
  (pt_chain ho ho' ha hb hc hm).imp fun σ H Q h => chn_ok z z' h fun k H q => ⟨k, rfl, q⟩
theorem z_chnV {op op' : CmpOp} {f f' : D → D → Option Bool} {r r' : R2} (ho : OpR X (compareOp op) r) (ho' : OpR X (compareOp op') r') (z : CmpZ Y f r) (z' : CmpZ Y f' r') (ha : PE X a (lowE Y fa)) (hb : PE X b (lowE Y fb)) (hc : PE X c (lowE Y fc))
    (hm : lastMarks [op, op'] [b, c] = false := by with_unfolding_all rfl) : PE X (.Compare a [op, op'] [b, c] pos) (lowE Y (bv (chn f f' fa fb fc))) :=
  (pe_chain ho ho' ha hb hc hm).imp fun σ H Q h => chn_ok z z' (bv_low h) fun k H q => q

/-! ### truth, and, or, not, if -/
def truD : D → Option Bool
  | .none => some false
  | .bool b => some b
  | .int i => some (i != 0)
  | .str x => if x.length ≤ 1000000 then some ((x.length : Int) != 0) else none
  | .list ds => some (!ds.isEmpty)
  | .tuple ds => some (!ds.isEmpty)
  | .dict _ => none
def truE (fa : Sem A) : Sem Bool := sb fa fun x _ μ => match rd μ x with
  | some a => match truD a with
    | some k => some (.ok k, μ)
    | none => none
  | none => none
theorem dpa_empty {K : PySem.W.Frag} {F : Hp} {ds : List D} {vs : List V} (h : DpAll K F vs ds) : vs.isEmpty = ds.isEmpty := by
  cases h <;> rfl
theorem tru_ok' {K : PySem.W.Frag} {F H : Hp} (s : Same F H) : ∀ {x : D} {v : V} {k : Bool}, Dq K F H v x → truD x = some k → TruV K v H k
  | .none, _, _, h, e => by cases h; cases e; rfl
  | .bool _, _, _, h, e => by cases h; cases e; rfl
  | .int _, _, _, h, e => by cases h; cases e; rfl
  | .str z, _, _, h, e => by
    cases h
    simp only [truD] at e
    split at e
    · rename_i hz
      cases e; exact ⟨sz hz, rfl⟩
    · cases e
  | .list _, _, _, ⟨a, vs, h, h1, h2⟩, e => by subst h; cases e; exact .inl ⟨vs, h1, by rw [dpa_empty h2]⟩
  | .tuple _, _, _, ⟨a, vs, h, h1, h2⟩, e => by subst h; cases e; exact .inr (.inl ⟨vs, sqT_mono s h1, by rw [dpa_empty h2]⟩)
  | .dict _, _, _, h, _ => h.elim
theorem tru_at {F ρ μ H x v k} (S : Sta Y F ρ μ H) (hx : Ra Y.c F ρ x v) (e : (match rd μ x with | some a => truD a | none => none) = some k) : TruV Y.c.K v H k := by
  split at e
  · rename_i a e1
    exact tru_ok' S.sub (S.rd hx e1) e
  · cases e
theorem z_truT (hK : Y.c.K = X.K := by rfl) (ha : PE X a (lowE Y fa)) (he : ∀ whole, isTrue a X.env whole = (do let v ← whole; standAt a.pos; holding [v] (truthy v)) := by intro _; rfl) : PT X a (lowT Y (truE fa)) :=
  (pt_truth ha he).imp fun σ H Q h => seq1 h fun F ρ μ Γ H x v r μ' hI S G hx e P => by
    split at e
    · rename_i a e1
      split at e
      · rename_i k e2
        cases e
        exact ⟨k, hK ▸ tru_ok' S.sub (S.rd hx e1) e2, P.bool S⟩
      · cases e
    · cases e
def andT (f g : Sem Bool) : Sem Bool := sb f fun b => if b then g else fun _ μ => some (.ok false, μ)
def orT (f g : Sem Bool) : Sem Bool := sb f fun b => if b then (fun _ μ => some (.ok true, μ)) else g
def notT (f : Sem Bool) : Sem Bool := sb f fun b _ μ => some (.ok (!b), μ)
variable {f g : Sem Bool} {rest : List Expr}
theorem low_if {α β γ δ : Type} {ra : Hp → List Addr → α → β → Prop} {rc : Hp → List Addr → γ → δ → Prop} {fa : Sem Bool} {k : Bool → Sem γ} {σ : St} {H : Hp} {Q : δ → Hp → Prop} {R1 : Bool → Hp → Prop} (h : low Y rc (sb fa k) σ H Q)
    (hk : ∀ b H1, low Y rc (k b) σ H1 Q → R1 b H1) : lowT Y fa σ H R1 := by
  obtain ⟨hI, F, ρ, μ, Γ, S, G, r, μ', e, P⟩ := h
  exact seqV hI S G e P fun F1 ρ1 μ1 H1 x v l S1 hx e1 => by
    obtain rfl : x = v := hx
    exact hk x H1 ⟨hI, F1, ρ1, μ1, Γ, S1, G.mono l, r, μ', e1, P.mono l⟩
theorem low_ret {α β : Type} {rc : Hp → List Addr → α → β → Prop} {x : α} {v : β} {σ : St} {H : Hp} {Q : β → Hp → Prop} (h : low Y rc (fun _ μ => some (.ok x, μ)) σ H Q) (hv : ∀ F ρ, rc F ρ x v) : Q v H := by
  obtain ⟨hI, F, ρ, μ, Γ, S, G, r, μ', e, P⟩ := h
  cases e
  exact P F ρ H (Le.refl _ _) S v (hv _ _)
theorem z_and1 (ha : PT X a (lowT Y f)) : PW X (.BoolOp .And [a] pos) (lowT Y f) := pw_and1 ha
theorem z_or1 (ha : PT X a (lowT Y f)) : PW X (.BoolOp .Or [a] pos) (lowT Y f) := pw_or1 ha
theorem z_and (ha : PT X a (lowT Y f)) (hb : PW X (.BoolOp .And (b :: rest) pos) (lowT Y g)) : PW X (.BoolOp .And (a :: b :: rest) pos) (lowT Y (andT f g)) :=
  (pw_and ha hb).imp fun σ H Q h => low_if (α := Bool) (β := Bool) (ra := relB) h fun b H1 h1 => by
    cases b with
    | true => rw [if_pos rfl] at h1 ⊢; exact h1
    | false => rw [if_neg Bool.false_ne_true] at h1 ⊢; exact low_ret h1 fun _ _ => rfl
theorem z_or (ha : PT X a (lowT Y f)) (hb : PW X (.BoolOp .Or (b :: rest) pos) (lowT Y g)) : PW X (.BoolOp .Or (a :: b :: rest) pos) (lowT Y (orT f g)) :=
  (pw_or ha hb).imp fun σ H Q h => low_if (α := Bool) (β := Bool) (ra := relB) h fun b H1 h1 => by
    cases b with
    | true => rw [if_pos rfl] at h1 ⊢; exact low_ret h1 fun _ _ => rfl
    | false => rw [if_neg Bool.false_ne_true] at h1 ⊢; exact h1
theorem z_pw (h : PW X a (lowT Y f)) : PT X a (lowT Y f) := h.pt
theorem z_notT (ha : PT X a (lowT Y f)) : PT X (.UnaryOp .Not a pos) (lowT Y (notT f)) :=
  (pt_not ha).imp fun σ H Q h => low_if (α := Bool) (β := Bool) (ra := relB) h fun b H1 h1 => low_ret h1 fun _ _ => rfl
/-- and, or, not as values, by truth -/
def tsel (fa : Sem A) (k : A → Bool → Sem A) : Sem A := sb fa fun x Γ μ => match (match rd μ x with | some a => truD a | none => none) with
  | some b => k x b Γ μ
  | none => none
def andV (fa fb : Sem A) : Sem A := tsel fa fun x b => if b then fb else fun _ μ => some (.ok x, μ)
def orV (fa fb : Sem A) : Sem A := tsel fa fun x b => if b then (fun _ μ => some (.ok x, μ)) else fb
def notV (fa : Sem A) : Sem A := tsel fa fun _ b _ μ => some (.ok (.d (.bool (!b))), μ)
theorem z_one {op} (h : PE X a (lowE Y fa)) : PE X (.BoolOp op [a] pos) (lowE Y fa) := pe_one h
theorem z_andV (hK : Y.c.K = X.K := by rfl) (ha : PE X a (lowE Y fa)) (hb : PE X (.BoolOp .And (b :: rest) pos) (lowE Y fb)) : PE X (.BoolOp .And (a :: b :: rest) pos) (lowE Y (andV fa fb)) :=
  (pe_andT ha hb).imp fun σ H Q h => seq1 h fun F ρ μ Γ H x v r μ' hI S G hx e P => by
    split at e
    · rename_i k e1
      refine ⟨k, hK ▸ tru_at S hx e1, ?_⟩
      dsimp only at e
      cases k with
      | true => rw [if_pos rfl] at e ⊢; exact ⟨hI, F, ρ, μ, Γ, S, G, r, μ', e, P⟩
      | false => rw [if_neg Bool.false_ne_true] at e ⊢; cases e; exact P.val S hx
    · cases e
theorem z_orV (hK : Y.c.K = X.K := by rfl) (ha : PE X a (lowE Y fa)) (hb : PE X (.BoolOp .Or (b :: rest) pos) (lowE Y fb)) : PE X (.BoolOp .Or (a :: b :: rest) pos) (lowE Y (orV fa fb)) :=
  (pe_orT ha hb).imp fun σ H Q h => seq1 h fun F ρ μ Γ H x v r μ' hI S G hx e P => by
    split at e
    · rename_i k e1
      refine ⟨k, hK ▸ tru_at S hx e1, ?_⟩
      dsimp only at e
      cases k with
      | true => rw [if_pos rfl] at e ⊢; cases e; exact P.val S hx
      | false => rw [if_neg Bool.false_ne_true] at e ⊢; exact ⟨hI, F, ρ, μ, Γ, S, G, r, μ', e, P⟩
    · cases e
theorem z_notV (hK : Y.c.K = X.K := by rfl) (ha : PE X a (lowE Y fa)) : PE X (.UnaryOp .Not a pos) (lowE Y (notV fa)) :=
  (pe_notT ha).imp fun σ H Q h => seq1 h fun F ρ μ Γ H x v r μ' hI S G hx e P => by
    split at e
    · rename_i k e1
      cases e
      exact ⟨k, hK ▸ tru_at S hx e1, P.val S (.bl _)⟩
    · cases e
def ife (f : Sem Bool) (fa fb : Sem A) : Sem A := sb f fun b => if b then fa else fb
theorem z_ife {t : Expr} (ht : PT X t (lowT Y f)) (ha : PE X a (lowE Y fa)) (hb : PE X b (lowE Y fb)) : PE X (.IfExp t a b pos) (lowE Y (ife f fa fb)) :=
  (pe_ifExp ht ha hb).imp fun σ H Q h => low_if (α := Bool) (β := Bool) (ra := relB) h fun b H1 h1 => by
    cases b with
    | true => rw [if_pos rfl] at h1 ⊢; exact h1
    | false => rw [if_neg Bool.false_ne_true] at h1 ⊢; exact h1
def neg (fa : Sem A) : Sem A := sb fa fun x _ μ => match rd μ x with
  | some (.int i) => some (.ok (.d (.int (-i))), μ)
  | _ => none
theorem z_neg (ha : PE X a (lowE Y fa)) : PE X (.UnaryOp .USub a pos) (lowE Y (neg fa)) :=
  (pe_un un_neg ha).imp fun σ H Q h => seq1 h fun F ρ μ Γ H x v r μ' hI S G hx e P => by
    split at e
    · rename_i i e1
      cases e
      exact ⟨i, S.rd hx e1, P.val S (.int _)⟩
    · cases e

/-! ### argument lists, displays -/
def anil : Sem (List A) := fun _ μ => some (.ok [], μ)
def acons (fe : Sem A) (fr : Sem (List A)) : Sem (List A) := sb fe fun x => sb fr fun xs _ μ => some (.ok (x :: xs), μ)
variable {e : Expr} {es : List Expr} {fe : Sem A} {fr : Sem (List A)}
theorem z_nil : PA X [] (lowA Y anil) := pa_nil.imp fun σ H Q h => low_ret h fun _ _ => .nil
theorem z_cons (he : PE X e (lowE Y fe)) (hr : PA X es (lowA Y fr)) (hs : starEach (e :: es) X.env = (false, eval e X.env) :: starEach es X.env := by rfl) : PA X (e :: es) (lowA Y (acons fe fr)) :=
  (pa_cons he hr hs).imp fun σ H Q h => seq2 h (mono_A Y) fun F ρ μ Γ H x v y u r μ' hI S G hx hy e P => by
    cases e
    exact P F ρ H (Le.refl _ _) S _ (.cons hx hy)
def tupE (fa : Sem (List A)) : Sem A := sb fa fun xs _ μ => match allD xs with
  | some ds => if ds.length ≤ 1000000 then some (.ok (.d (.tuple ds)), μ) else none
  | none => none
theorem z_tup {x1} (h : PA X es (lowA Y fr)) : PE X (.Tuple es x1 pos) (lowE Y (tupE fr)) :=
  (pe_tup h).imp fun σ H Q h => seq1 h fun F ρ μ Γ H x v r μ' hI S G hx e P => by
    split at e
    · rename_i ds e1
      split at e
      · rename_i hz
        cases e
        have hd := allD_eq e1
        subst hd
        have hd := ras_dpa hx
        exact ⟨by rw [dpa_len hd]; exact sz hz, fun p hp => P.newT S hd p hp⟩
      · cases e
    · cases e
/-- [..]: frozen | a cell -/
def lstE (m : Bool) (fa : Sem (List A)) : Sem A := sb fa fun xs _ μ => if xs.length ≤ 1000000 then (if m then mkC xs μ else match allD xs with
  | some ds => mkL false ds μ
  | none => none) else none
theorem z_lst (m : Bool) (h : PA X es (lowA Y fr)) : PE X (.List es pos) (lowE Y (lstE m fr)) :=
  (pe_lst h).imp fun σ H Q h => seq1 h fun F ρ μ Γ H x v r μ' hI S G hx e P => by
    have hx : Ras Y.c F ρ x v := hx
    split at e
    · rename_i hz
      refine ⟨by rw [← paired_len hx]; exact sz hz, fun p hp => ?_⟩
      cases m with
      | true => rw [if_pos rfl] at e; exact P.newC e S hx p hp
      | false =>
        rw [if_neg Bool.false_ne_true] at e
        split at e
        · rename_i ds e1
          have hd := allD_eq e1
          subst hd
          exact P.newL e S (ras_dpa hx) p hp
        · cases e
    · cases e

/-! ### subscripts -/
def ixA (x : A) (i : Int) (μ : Store) : Option A := match x with
  | .d (.list ds) => (atI ds i).map .d
  | .d (.tuple ds) => (atI ds i).map .d
  | .d (.str z) => if z.length ≤ 1000000 then (atI z.cps.toList i).map fun c => .d (.str ⟨#[c]⟩) else none
  | .ref j => match μ[j]? with
    | some (.lst xs) => atI xs i
    | _ => none
  | _ => none
def ix (fa fb : Sem A) : Sem A := sb fa fun x => sb fb fun y _ μ => match y with
  | .d (.int i) => match ixA x i μ with
    | some z => some (.ok z, μ)
    | none => none
  | _ => none
theorem ixN_lt {n : Nat} {i : Int} {j : Nat} (h : ixN n i = some j) : j < n := (ixN_seq h).2.1
theorem atI_dpa {K : PySem.W.Frag} {F : Hp} {ds : List D} {vs : List V} {i : Int} {z : D} (h : DpAll K F vs ds) (e : atI ds i = some z) : ∃ v, atI vs i = some v ∧ Dp K F v z := by
  unfold atI at e ⊢
  rw [dpa_len h]
  cases q : ixN ds.length i with
  | none => rw [q] at e; cases e
  | some j =>
    rw [q] at e
    exact dpa_get h e
theorem atI_ras {c : Cf} {F : Hp} {ρ : List Addr} {xs : List A} {vs : List V} {i : Int} {z : A} (h : Ras c F ρ xs vs) (e : atI xs i = some z) : ∃ v, atI vs i = some v ∧ Ra c F ρ z v := by
  unfold atI at e ⊢
  rw [← paired_len h]
  cases q : ixN xs.length i with
  | none => rw [q] at e; cases e
  | some j =>
    rw [q] at e
    exact paired_get h e
theorem z_ix (hK : Y.c.K = X.K := by rfl) (ha : PE X a (lowE Y fa)) (hb : PE X b (lowE Y fb)) (hs : PlainIx b := by intro _ _; rfl) : PE X (.Subscript a b pos) (lowE Y (ix fa fb)) :=
  (pe_ix ix_seq ha hb hs).imp fun σ H Q h => seq2 h (mono_A Y) fun F ρ μ Γ H x v y u r μ' hI S G hx hy e P => by
    rw [← hK]
    split at e
    · rename_i i
      cases hy
      split at e
      · rename_i z ez
        cases e
        unfold ixA at ez
        split at ez
        · rename_i ds
          simp only [Option.map_eq_some_iff] at ez
          obtain ⟨d, e1, rfl⟩ := ez
          obtain ⟨p, vs, rfl, h1, h2⟩ := dq_of S.sub hx
          obtain ⟨w, e2, h3⟩ := atI_dpa h2 e1
          exact .inl ⟨p, vs, i, w, rfl, rfl, h1, e2, P.val S h3⟩
        · rename_i ds
          simp only [Option.map_eq_some_iff] at ez
          obtain ⟨d, e1, rfl⟩ := ez
          obtain ⟨p, vs, rfl, h1, h2⟩ := dq_of S.sub hx
          obtain ⟨w, e2, h3⟩ := atI_dpa h2 e1
          exact .inr (.inl ⟨p, vs, i, w, rfl, rfl, sqT_mono S.sub h1, e2, P.val S h3⟩)
        · rename_i z
          split at ez
          · rename_i hz
            simp only [Option.map_eq_some_iff] at ez
            obtain ⟨c, e1, rfl⟩ := ez
            cases hx
            exact .inr (.inr ⟨z, i, c, rfl, rfl, sz hz, e1, P.val S (.str _)⟩)
          · cases ez
        · rename_i j
          split at ez
          · rename_i xs ex
            obtain ⟨p, rfl, h1, f, vs, h2, h3⟩ := S.at hx ex
            obtain ⟨w, e2, h4⟩ := atI_ras h2 ez
            exact .inl ⟨p, vs, i, w, rfl, rfl, SqL.of h3, e2, P.val S h4⟩
          · cases ez
        · cases ez
      · cases e
    · cases e
/-! ### slices -/
def pnone : Sem (Option Int) := fun _ μ => some (.ok none, μ)
def psome (fa : Sem A) : Sem (Option Int) := sb fa fun x _ μ => match x with
  | .d (.int i) => some (.ok (some i), μ)
  | _ => none
theorem z_pnone : PO X none (lowO Y pnone) := po_none.imp fun σ H Q h => low_ret h fun _ _ => rfl
theorem z_psome (ha : PE X a (lowE Y fa)) : PO X (some a) (lowO Y (psome fa)) :=
  (po_some ha).imp fun σ H Q h => seq1 h fun F ρ μ Γ H x v r μ' hI S G hx e P => by
    split at e
    · rename_i i
      cases hx
      cases e
      exact ⟨i, rfl, P F ρ H (Le.refl _ _) S _ rfl⟩
    · cases e
def cutD (xs : List D) (lo hi : Option Int) : List D := (xs.drop (HT.sIx xs.length 0 lo)).take (HT.sIx xs.length xs.length hi - HT.sIx xs.length 0 lo)
theorem cut_dpa {K : PySem.W.Frag} {F : Hp} {ds : List D} {vs : List V} (h : DpAll K F vs ds) (lo hi : Option Int) : DpAll K F (cutV vs lo hi) (cutD ds lo hi) := by
  unfold cutV cutD
  rw [dpa_len h]
  exact dpa_take _ (dpa_drop _ h)
def slc (m : Bool) (fa : Sem A) (fl fh : Sem (Option Int)) : Sem A := sb fa fun x => sb fl fun lo => sb fh fun hi _ μ => match rd μ x with
  | some (.list ds) => mkL m (cutD ds lo hi) μ
  | some (.tuple ds) => some (.ok (.d (.tuple (cutD ds lo hi))), μ)
  | _ => none
theorem cut_whole {ds : List D} {lo hi : Option Int} (h : HT.sIx ds.length 0 lo = 0 ∧ HT.sIx ds.length ds.length hi = ds.length) : cutD ds lo hi = ds := by
  unfold cutD
  rw [h.1, h.2]
  simp
theorem z_slc (m : Bool) {lo hi : Option Expr} {p2 : Pos} {fl fh : Sem (Option Int)} (hK : Y.c.K = X.K := by rfl) (ha : PE X a (lowE Y fa)) (hl : PO X lo (lowO Y fl)) (hh : PO X hi (lowO Y fh)) : PE X (.Subscript a (.Slice lo hi none p2) pos) (lowE Y (slc m fa fl fh)) :=
  (pe_slice (sl_list.or sl_tupA) ha hl hh).imp fun σ H Q h => seq3 h (mono_A Y) mono_O fun F ρ μ Γ H x v y u z w r μ' hI S G hx hy hz e P => by
    obtain rfl : y = u := hy
    obtain rfl : z = w := hz
    rw [← hK]
    split at e
    · rename_i ds e1
      obtain ⟨p, vs, rfl, h1, h2⟩ := S.rd hx e1
      exact .inl ⟨p, vs, rfl, h1, fun q hq => P.newL e S (cut_dpa h2 _ _) q hq⟩
    · rename_i ds e1
      cases e
      obtain ⟨p, vs, rfl, h1, h2⟩ := S.rd hx e1
      refine .inr ⟨p, vs, rfl, sqT_mono S.sub h1, fun hw => ?_, fun _ q hq => P.newT S (cut_dpa h2 _ _) q hq⟩
      rw [dpa_len h2] at hw
      have hc := cut_whole (lo := y) (hi := z) hw
      rw [hc] at P
      exact P.val S (Dp.tup h1 h2)
    · cases e
end
end ZL

/-! Layer Z, part D: targets, statements. -/
namespace ZL
open PySem PySem.Spec PyProof.Rows L2

inductive Out where
  | nx (Γ : Gam)
  | rt (x : A)
  | bk (Γ : Gam)
  | ct (Γ : Gam)
  | ex (Γ : Gam) (n : String) (fs : List (Str × D))
abbrev SemS := Gam → Store → Option (Out × Store)
def PostS (Y : Ctx) (F : Hp) (ρ : List Addr) (o : Out) (μ' : Store) (E : Ends) : Prop :=
  ∀ F' ρ' H', Le F ρ F' ρ' → Sta Y F' ρ' μ' H' → match o with
    | .nx Γ => ∀ σ, Y.I σ → Rg Y.c F' ρ' Γ σ → E.nx σ H'
    | .rt x => ∀ v, Ra Y.c F' ρ' x v → E.rt v H'
    | .bk Γ => ∀ σ, Y.I σ → Rg Y.c F' ρ' Γ σ → E.bk σ H'
    | .ct Γ => ∀ σ, Y.I σ → Rg Y.c F' ρ' Γ σ → E.ct σ H'
    | .ex Γ n fs => ∀ σ dd vs, Y.I σ → Rg Y.c F' ρ' Γ σ → F' dd = some (.xd vs) → Rf (fun x v => Dp Y.c.K F' v x) fs vs → Y.W (.ref (Y.c.ε n)) (some dd) σ H'
theorem PostS.mono {Y : Ctx} {F F1 : Hp} {ρ ρ1 : List Addr} {o : Out} {μ' : Store} {E : Ends} (l : Le F ρ F1 ρ1) (p : PostS Y F ρ o μ' E) : PostS Y F1 ρ1 o μ' E :=
  fun F' ρ' H' l' S => p F' ρ' H' (l.trans l') S
def lowS (Y : Ctx) (g : SemS) : TS := fun E σ H => Y.I σ ∧ ∃ F ρ μ Γ, Sta Y F ρ μ H ∧ Rg Y.c F ρ Γ σ ∧ ∃ o μ', g Γ μ = some (o, μ') ∧ PostS Y F ρ o μ' E
/-- from an expression into a statement -/
def eS {α : Type} (f : Sem α) (k : α → SemS) : SemS := fun Γ μ => match f Γ μ with
  | some (.ok x, μ1) => k x Γ μ1
  | some (.exc n fs, μ1) => some (.ex Γ n fs, μ1)
  | none => none
section
variable {α β α' β' : Type} {Y : Ctx} {ra : Hp → List Addr → α → α' → Prop} {rb : Hp → List Addr → β → β' → Prop} {σ : St} {H : Hp} {E : Ends}
theorem seqSV {f : Sem α} {k : α → SemS} {R1 : α' → Hp → Prop} {F : Hp} {ρ : List Addr} {μ : Store} {Γ : Gam} {o : Out} {μ' : Store} (hI : Y.I σ) (S : Sta Y F ρ μ H) (G : Rg Y.c F ρ Γ σ) (e : eS f k Γ μ = some (o, μ')) (P : PostS Y F ρ o μ' E)
    (hk : ∀ F1 ρ1 μ1 H1 x v, Le F ρ F1 ρ1 → Sta Y F1 ρ1 μ1 H1 → ra F1 ρ1 x v → k x Γ μ1 = some (o, μ') → R1 v H1) : low Y ra f σ H R1 := by
  unfold eS at e
  split at e
  · rename_i x μ1 e1
    exact ⟨hI, F, ρ, μ, Γ, S, G, .ok x, μ1, e1, fun F1 ρ1 H1 l1 S1 v hv => hk F1 ρ1 μ1 H1 x v l1 S1 hv e⟩
  · rename_i n fs μ1 e1
    cases e
    exact ⟨hI, F, ρ, μ, Γ, S, G, .exc n fs, _, e1, fun F1 ρ1 H1 l1 S1 dd vs hd hf => P F1 ρ1 H1 l1 S1 σ dd vs hI (G.mono l1) hd hf⟩
  · cases e
theorem seqS {f : Sem α} {k : α → SemS} {R1 : α' → Hp → Prop} (h : lowS Y (eS f k) E σ H)
    (hk : ∀ F ρ μ Γ H x v o μ', Y.I σ → Sta Y F ρ μ H → Rg Y.c F ρ Γ σ → ra F ρ x v → k x Γ μ = some (o, μ') → PostS Y F ρ o μ' E → R1 v H) : low Y ra f σ H R1 := by
  obtain ⟨hI, F, ρ, μ, Γ, S, G, o, μ', e, P⟩ := h
  exact seqSV hI S G e P fun F1 ρ1 μ1 H1 x v l S1 hx e1 => hk F1 ρ1 μ1 Γ H1 x v o μ' hI S1 (G.mono l) hx e1 (P.mono l)
theorem seqS2 {f : Sem α} {g : Sem β} {k : α → β → SemS} {R1 : α' → β' → Hp → Prop} (h : lowS Y (eS f fun x => eS g (k x)) E σ H) (ma : MonoR ra)
    (hk : ∀ F ρ μ Γ H x v y u o μ', Y.I σ → Sta Y F ρ μ H → Rg Y.c F ρ Γ σ → ra F ρ x v → rb F ρ y u → k x y Γ μ = some (o, μ') → PostS Y F ρ o μ' E → R1 v u H) : low Y ra f σ H fun v H1 => low Y rb g σ H1 (R1 v) := by
  obtain ⟨hI, F, ρ, μ, Γ, S, G, o, μ', e, P⟩ := h
  exact seqSV hI S G e P fun F1 ρ1 μ1 H1 x v l S1 hx e1 => seqSV hI S1 (G.mono l) e1 (P.mono l) fun F2 ρ2 μ2 H2 y u l2 S2 hy e2 =>
    hk F2 ρ2 μ2 Γ H2 x v y u o μ' hI S2 (G.mono (l.trans l2)) (ma _ _ _ _ _ _ l2 hx) hy e2 (P.mono (l.trans l2))
end

/-! ### targets -/
inductive SetsTo (is : List Nat) : St → St → Prop where
  | refl (σ : St) : SetsTo is σ σ
  | step {σ σ' : St} {i : Nat} (x : Option V) : i ∈ is → SetsTo is (σ.set i x) σ' → SetsTo is σ σ'
theorem SetsTo.mono {is js : List Nat} (h : ∀ i ∈ is, i ∈ js) : ∀ {σ σ' : St}, SetsTo is σ σ' → SetsTo js σ σ'
  | _, _, .refl σ => .refl σ
  | _, _, .step x m t => .step x (h _ m) (SetsTo.mono h t)
theorem SetsTo.trans {is : List Nat} : ∀ {σ σ' σ'' : St}, SetsTo is σ σ' → SetsTo is σ' σ'' → SetsTo is σ σ''
  | _, _, _, .refl _, h => h
  | _, _, _, .step x m t, h => .step x m (SetsTo.trans t h)
theorem wipe_set {i : Nat} {x : Option V} : ∀ {vs : List Nat} {σ : St}, i ∈ vs → wipe (σ.set i x) vs = wipe σ vs
  | v :: vs, σ, h => by
    show (wipe (σ.set i x) vs).set v none = (wipe σ vs).set v none
    by_cases hm : i ∈ vs
    · rw [wipe_set hm]
    · have hv : i = v := by
        rcases List.mem_cons.mp h with e | h
        · exact e
        · exact absurd h hm
      subst hv
      have : wipe (σ.set i x) vs = (wipe σ vs).set i x := wipe_set_out hm
      rw [this, List.set_set]
where
  wipe_set_out {i : Nat} {x : Option V} : ∀ {vs : List Nat} {σ : St}, i ∉ vs → wipe (σ.set i x) vs = (wipe σ vs).set i x
    | [], _, _ => rfl
    | v :: vs, σ, h => by
      have h1 : i ≠ v := fun e => h (by rw [e]; exact List.mem_cons_self)
      have h2 : i ∉ vs := fun m => h (List.mem_cons_of_mem _ m)
      show (wipe (σ.set i x) vs).set v none = ((wipe σ vs).set v none).set i x
      rw [wipe_set_out h2, List.set_comm _ _ h1]
theorem SetsTo.wipe {is vs : List Nat} (h : ∀ i ∈ is, i ∈ vs) : ∀ {σ σ' : St}, SetsTo is σ σ' → L2.wipe σ' vs = L2.wipe σ vs
  | _, _, .refl _ => rfl
  | _, _, .step x m t => by rw [SetsTo.wipe h t, wipe_set (h _ m)]
theorem Ctx.I_set {Y : Ctx} {i : Nat} {σ : St} {x : Option V} (k : Y.keeps i = true) (h : Y.I σ) : Y.I (σ.set i x) := fun j a e => by
  have := h j a e
  unfold Ctx.keeps at k
  rw [e] at k
  have ne : ¬ j = i := by simpa using k
  rw [List.getElem?_set_ne (Ne.symm ne)]
  exact this
abbrev Tgt := A → Gam → Option Gam
def lowG (Y : Ctx) (t : Tgt) (is : List Nat) : TG := fun v σ H Q => Y.I σ ∧ ∃ F ρ μ Γ x Γ', Sta Y F ρ μ H ∧ Rg Y.c F ρ Γ σ ∧ Ra Y.c F ρ x v ∧ t x Γ = some Γ' ∧ ∀ σ', Y.I σ' → Rg Y.c F ρ Γ' σ' → SetsTo is σ σ' → Q σ' H
abbrev Tgts := List D → Gam → Option Gam
def lowGs (Y : Ctx) (t : Tgts) (is : List Nat) : TGs := fun vs σ H Q => Y.I σ ∧ ∃ F ρ μ Γ xs Γ', Sta Y F ρ μ H ∧ Rg Y.c F ρ Γ σ ∧ DpAll Y.c.K F vs xs ∧ t xs Γ = some Γ' ∧ ∀ σ', Y.I σ' → Rg Y.c F ρ Γ' σ' → SetsTo is σ σ' → Q σ' H
def tN (i : Nat) : Tgt := fun x Γ => some (Γ.set i (some x))
def tNil : Tgts := fun xs Γ => match xs with | [] => some Γ | _ => none
def tCons (t : Tgt) (ts : Tgts) : Tgts := fun xs Γ => match xs with
  | [] => none
  | x :: xs => match t (.d x) Γ with
    | some Γ1 => ts xs Γ1
    | none => none
def tT (ts : Tgts) : Tgt := fun x Γ => match x with
  | .d (.tuple xs) => ts xs Γ
  | .d (.list xs) => ts xs Γ
  | _ => none
section
variable {X : Cx} {Y : Ctx} {pos : Pos}
theorem _root_.L2.PG.imp {e : Expr} {t t' : TG} (h : PG X e t) (i : ∀ v σ H Q, t' v σ H Q → t v σ H Q) : PG X e t' := ⟨fun pins s σ H v u Q I r w => h.run pins s σ H v u Q I r (i v σ H Q w)⟩
theorem _root_.L2.PGs.imp {e : List Expr} {t t' : TGs} (h : PGs X e t) (i : ∀ v σ H Q, t' v σ H Q → t v σ H Q) : PGs X e t' := ⟨fun pins s σ H v u Q I r w => h.run pins s σ H v u Q I r (i v σ H Q w)⟩
theorem _root_.L2.PG.or {e : Expr} {t t' : TG} (h : PG X e t) (h' : PG X e t') : PG X e (fun v σ H Q => t v σ H Q ∨ t' v σ H Q) := ⟨fun pins s σ H v u Q I r w => w.elim (h.run pins s σ H v u Q I r) (h'.run pins s σ H v u Q I r)⟩
theorem z_gN (i : Nat) {x : Str} (hN : X.N.Nodup) (hi : X.N[i]? = some x := by rfl) (hx : Loc X.env.scope x := by first | exact Or.inl rfl | exact Or.inr rfl) (hf : X.fn x = true ∨ X.env.scope.names.lookup x = some .local := by first | exact .inl rfl | exact .inr rfl) (hk : Y.keeps i = true := by rfl) :
    PG X (.Name x pos) (lowG Y (tN i) [i]) :=
  (pg_name hN hi hx hf).imp fun v σ H Q h => by
    obtain ⟨hI, F, ρ, μ, Γ, x, Γ', S, G, hx, e, k⟩ := h
    cases e
    exact k _ (Ctx.I_set hk hI) (paired_set (show Ro Y.c F ρ (some x) (some v) from hx) i G) (.step _ (by simp) (.refl _))
theorem z_gs0 : PGs X [] (lowGs Y tNil []) :=
  pgs_nil.imp fun v σ H Q h => by
    obtain ⟨hI, F, ρ, μ, Γ, x, Γ', S, G, hx, e, k⟩ := h
    unfold tNil at e
    split at e
    · cases e; cases hx
      exact ⟨rfl, k _ hI G (.refl _)⟩
    · cases e
theorem z_gsc {e : Expr} {es : List Expr} {t : Tgt} {ts : Tgts} {is js : List Nat} (h1 : PG X e (lowG Y t is)) (h2 : PGs X es (lowGs Y ts js))
    (hc : (assignEach (e :: es) X.env).map (·.2) = assign e X.env :: (assignEach es X.env).map (·.2) := by rfl) : PGs X (e :: es) (lowGs Y (tCons t ts) (is ++ js)) := by
  refine (pgs_cons h1 h2 hc).imp fun v σ H Q h => ?_
  obtain ⟨hI, F, ρ, μ, Γ, x, Γ', S, G, hx, e, k⟩ := h
  unfold tCons at e
  split at e
  · cases e
  · rename_i x xs
    split at e
    · rename_i Γ1 e1
      cases hx with
      | cons d1 d2 =>
        exact ⟨_, _, rfl, hI, F, ρ, μ, Γ, .d x, Γ1, S, G, d1, e1, fun σ' I' G' s1 => ⟨I', F, ρ, μ, Γ1, xs, Γ', S, G', d2, e, fun σ2 I2 G2 s2 =>
          k σ2 I2 G2 ((s1.mono fun i m => List.mem_append_left _ m).trans (s2.mono fun i m => List.mem_append_right _ m))⟩⟩
    · cases e
def lenTs (es : List Expr) (ts : Tgts) : Prop := ∀ xs Γ Γ', ts xs Γ = some Γ' → xs.length = es.length
theorem lenTs0 : lenTs [] tNil := fun xs Γ Γ' e => by
  unfold tNil at e
  split at e
  · rfl
  · cases e
theorem lenTsc {e : Expr} {es : List Expr} {t : Tgt} {ts : Tgts} (h : lenTs es ts) : lenTs (e :: es) (tCons t ts) := fun xs Γ Γ' e => by
  unfold tCons at e
  split at e
  · cases e
  · split at e
    · simp [h _ _ _ e]
    · cases e
theorem z_gT (hK : Y.c.K = X.K := by rfl) {es : List Expr} {k : Nat} {ts : Tgts} {is : List Nat} (hl : lenTs es ts := by repeat (first | exact lenTs0 | apply lenTsc)) (h : PGs X es (lowGs Y ts is)) (hc : X.calm = true := by rfl)
    (hn : (assignEach es X.env).length = es.length := by rfl) (hst : (assignEach es X.env).findIdx? (·.1) = none := by rfl) : PG X (.Tuple es k pos) (lowG Y (tT ts) is) :=
  ((pg_tup hc h hn hst).or (pg_lst hc h hn hst)).imp fun v σ H Q h => by
    obtain ⟨hI, F, ρ, μ, Γ, x, Γ', S, G, hx, e, k⟩ := h
    unfold tT at e
    split at e
    · rename_i xs
      obtain ⟨p, vs, rfl, h1, h2⟩ := dq_of S.sub hx
      exact .inl ⟨p, vs, rfl, hK ▸ sqT_mono S.sub h1, by rw [dpa_len h2]; exact hl _ _ _ e, hI, F, ρ, μ, Γ, xs, Γ', S, G, h2, e, k⟩
    · rename_i xs
      obtain ⟨p, vs, rfl, h1, h2⟩ := dq_of S.sub hx
      exact .inr ⟨p, vs, rfl, hK ▸ h1, by rw [dpa_len h2]; exact hl _ _ _ e, hI, F, ρ, μ, Γ, xs, Γ', S, G, h2, e, k⟩
    · cases e
end

/-! ### statements -/
def nextS : SemS := fun Γ μ => some (.nx Γ, μ)
def seq (f g : SemS) : SemS := fun Γ μ => match f Γ μ with
  | some (.nx Γ1, μ1) => g Γ1 μ1
  | some (.rt x, μ1) => some (.rt x, μ1)
  | some (.bk Γ1, μ1) => some (.bk Γ1, μ1)
  | some (.ct Γ1, μ1) => some (.ct Γ1, μ1)
  | some (.ex Γ1 n fs, μ1) => some (.ex Γ1 n fs, μ1)
  | none => none
def asg (f : Sem A) (t : Tgt) : SemS := eS f fun x Γ μ => match t x Γ with
  | some Γ' => some (.nx Γ', μ)
  | none => none
def retS (f : Sem A) : SemS := eS f fun x _ μ => some (.rt x, μ)
def drop (f : Sem A) : SemS := eS f fun _ Γ μ => some (.nx Γ, μ)
def ifS (f : Sem Bool) (p q : SemS) : SemS := eS f fun b => if b then p else q
def never : SemS := fun _ _ => none
section
variable {X : Cx} {Y : Ctx} {pos : Pos} {st : Stmt} {rest : List Stmt} {f g p q : SemS} {e : Expr} {fe : Sem A} {fb : Sem Bool}
theorem z_pass : PS X (.Pass pos) (lowS Y nextS) := ps_pass.imp fun D σ H h => by
  obtain ⟨hI, F, ρ, μ, Γ, S, G, o, μ', e, P⟩ := h
  cases e
  exact P F ρ H (Le.refl _ _) S σ hI G
theorem z_snil : PSs X [] (lowS Y nextS) := pss_nil.imp fun D σ H h => by
  obtain ⟨hI, F, ρ, μ, Γ, S, G, o, μ', e, P⟩ := h
  cases e
  exact P F ρ H (Le.refl _ _) S σ hI G
theorem z_one1 (h : PS X st (lowS Y f)) : PSs X [st] (lowS Y f) := pss_one h
theorem z_seq (h1 : PS X st (lowS Y f)) (h2 : PSs X rest (lowS Y g)) : PSs X (st :: rest) (lowS Y (seq f g)) :=
  (pss_cons h1 h2).imp fun D σ H h => by
    obtain ⟨hI, F, ρ, μ, Γ, S, G, o, μ', e, P⟩ := h
    unfold seq at e
    split at e
    · rename_i Γ1 μ1 e1
      exact ⟨hI, F, ρ, μ, Γ, S, G, _, _, e1, fun F1 ρ1 H1 l1 S1 σ1 I1 G1 => ⟨I1, F1, ρ1, μ1, Γ1, S1, G1, o, μ', e, P.mono l1⟩⟩
    · rename_i e1; cases e; exact ⟨hI, F, ρ, μ, Γ, S, G, _, _, e1, fun F1 ρ1 H1 l1 S1 => P F1 ρ1 H1 l1 S1⟩
    · rename_i e1; cases e; exact ⟨hI, F, ρ, μ, Γ, S, G, _, _, e1, fun F1 ρ1 H1 l1 S1 => P F1 ρ1 H1 l1 S1⟩
    · rename_i e1; cases e; exact ⟨hI, F, ρ, μ, Γ, S, G, _, _, e1, fun F1 ρ1 H1 l1 S1 => P F1 ρ1 H1 l1 S1⟩
    · rename_i e1; cases e; exact ⟨hI, F, ρ, μ, Γ, S, G, _, _, e1, fun F1 ρ1 H1 l1 S1 => P F1 ρ1 H1 l1 S1⟩
    · cases e
theorem z_never : PS X st (lowS Y never) := ps_never.imp fun D σ H h => by
  obtain ⟨hI, F, ρ, μ, Γ, S, G, o, μ', e, P⟩ := h
  cases e
theorem asg_low {t : Tgt} {is : List Nat} {D : Ends} {σ : St} {H : Hp} (h : lowS Y (asg fe t) D σ H) : tAsg (lowE Y fe) (lowG Y t is) D σ H :=
  seqS h fun F ρ μ Γ H x v o μ' hI S G hx e P => by
    split at e
    · rename_i Γ' e1
      cases e
      exact ⟨hI, F, ρ, μ, Γ, x, Γ', S, G, hx, e1, fun σ' I' G' _ => P F ρ H (Le.refl _ _) S σ' I' G'⟩
    · cases e
theorem z_asg {tg : Expr} {t : Tgt} {is : List Nat} (he : PE X e (lowE Y fe)) (hg : PG X tg (lowG Y t is)) (hs : swapsWithSole [tg] e pos.line X.env = pure false := by rfl) (hw : swappedStores [tg] e X.env = pure none := by rfl)
    (ha : (assignEach [tg] X.env).map (·.2) = [assign tg X.env] := by rfl) : PS X (.Assign [tg] e pos) (lowS Y (asg fe t)) :=
  (ps_asg he hg hs hw ha).imp fun D σ H h => asg_low h
theorem z_set (i : Nat) {x : Str} {pos' : Pos} (hN : X.N.Nodup) (he : PE X e (lowE Y fe)) (hi : X.N[i]? = some x := by rfl) (hx : Loc X.env.scope x := by first | exact Or.inl rfl | exact Or.inr rfl) (hs : swapsWith e (some (.Name x pos')) pos.line X.env = pure false := by rfl)
    (hf : X.fn x = true ∨ X.env.scope.names.lookup x = some .local := by first | exact .inl rfl | exact .inr rfl) (hk : Y.keeps i = true := by rfl) : PS X (.Assign [.Name x pos'] e pos) (lowS Y (asg fe (tN i))) :=
  (ps_set hN hi hx he hs hf).imp fun D σ H h => seqS h fun F ρ μ Γ H x v o μ' hI S G hx e P => by
    cases e
    exact P F ρ H (Le.refl _ _) S _ (Ctx.I_set hk hI) (paired_set (show Ro Y.c F ρ (some x) (some v) from hx) i G)
theorem z_ret (he : PE X e (lowE Y fe)) : PS X (.Return (some e) pos) (lowS Y (retS fe)) :=
  (ps_ret he).imp fun D σ H h => seqS h fun F ρ μ Γ H x v o μ' hI S G hx e P => by
    cases e
    exact P F ρ H (Le.refl _ _) S v hx
theorem z_retN : PS X (.Return none pos) (lowS Y (retS (con .none))) :=
  ps_retN.imp fun D σ H h => by
    obtain ⟨hI, F, ρ, μ, Γ, S, G, o, μ', e, P⟩ := h
    cases e
    exact P F ρ H (Le.refl _ _) S .non Dp.non
theorem z_expr (he : PE X e (lowE Y fe)) (hs : swapsWith e none pos.line X.env = pure false := by rfl) : PS X (.Expr e pos) (lowS Y (drop fe)) :=
  (ps_expr he hs).imp fun D σ H h => seqS h fun F ρ μ Γ H x v o μ' hI S G hx e P => by
    cases e
    exact P F ρ H (Le.refl _ _) S σ hI G
theorem z_if {c : Expr} {a b : List Stmt} (hc : PT X c (lowT Y fb)) (ha : PSs X a (lowS Y p)) (hb : PSs X b (lowS Y q)) : PS X (.If c a b pos) (lowS Y (ifS fb p q)) :=
  (ps_if hc ha hb).imp fun D σ H h => seqS h fun F ρ μ Γ H x v o μ' hI S G hx e P => by
    obtain rfl : x = v := hx
    cases x with
    | true => exact (if_pos rfl : (if true = true then _ else _) = _) ▸ ⟨hI, F, ρ, μ, Γ, S, G, o, μ', e, P⟩
    | false => exact (if_neg Bool.false_ne_true : (if false = true then _ else _) = _) ▸ ⟨hI, F, ρ, μ, Γ, S, G, o, μ', e, P⟩
def breakS : SemS := fun Γ μ => some (.bk Γ, μ)
def contS : SemS := fun Γ μ => some (.ct Γ, μ)
theorem z_break : PS X (.Break pos) (lowS Y breakS) := ps_break.imp fun D σ H h => by
  obtain ⟨hI, F, ρ, μ, Γ, S, G, o, μ', e, P⟩ := h
  cases e
  exact P F ρ H (Le.refl _ _) S σ hI G
theorem z_continue : PS X (.Continue pos) (lowS Y contS) := ps_continue.imp fun D σ H h => by
  obtain ⟨hI, F, ρ, μ, Γ, S, G, o, μ', e, P⟩ := h
  cases e
  exact P F ρ H (Le.refl _ _) S σ hI G
/-! the name of a list cell is made the name of a frozen list -/
def frz (i : Nat) (g : SemS) : SemS := fun Γ μ => match Γ[i]? with
  | some (some (.ref j)) => match μ[j]? with
    | some (.lst xs) => match allD xs with
      | some ds => g (Γ.set i (some (.d (.list ds)))) (μ.set j .dead)
      | none => none
    | _ => none
  | some (some (.d _)) => g Γ μ
  | _ => none
theorem z_frz (i : Nat) {sts : List Stmt} (h : PSs X sts (lowS Y g)) : PSs X sts (lowS Y (frz i g)) :=
  h.imp fun D σ H h => by
    obtain ⟨hI, F, ρ, μ, Γ, S, G, o, μ', e, P⟩ := h
    unfold frz at e
    split at e
    · rename_i j ej
      split at e
      · rename_i xs ex
        split at e
        · rename_i ds ed
          obtain ⟨w, h1, h2⟩ := paired_get G ej
          cases w with
          | none => exact h2.elim
          | some v =>
            obtain ⟨a, rfl, h3, f, vs, h4, h5⟩ := S.at h2 ex
            obtain ⟨S1, l⟩ := S.freeze ex h3 h5
            have hd := allD_eq ed
            subst hd
            have hd := ras_dpa h4
            refine ⟨hI, _, ρ, _, _, S1, ?_, o, μ', e, P.mono l⟩
            have := paired_set (r := Ro Y.c (upd F a (.lst vs)) ρ) (x := some (.d (.list ds))) (y := some (.ref a)) (Dp.lst (SqL.of upd_same) (dpa_mono l.sub hd)) i (G.mono l)
            rw [show σ.set i (some (.ref a)) = σ from ?_] at this
            · exact this
            · obtain ⟨hi, e2⟩ := List.getElem?_eq_some_iff.mp h1
              exact List.ext_getElem (by simp) fun n h1 h2 => by
                rw [List.getElem_set]; split
                · rename_i e; subst e; exact e2.symm
                · rfl
        · cases e
      · cases e
    · exact ⟨hI, F, ρ, μ, Γ, S, G, o, μ', e, P⟩
    · cases e
/-! a op= e at a name -/
def aug (i : Nat) (op : D → D → Option D) (fe : Sem A) : SemS := fun Γ μ => match Γ[i]? with
  | some (some x) => eS fe (fun y Γ μ => match biD op x y Γ μ with
    | some (.ok z, μ1) => some (.nx (Γ.set i (some z)), μ1)
    | _ => none) Γ μ
  | _ => none
theorem z_aug (i : Nat) {x : Str} {op : Operator} {pos' : Pos} {r : R2} {f : D → D → Option D} (hN : X.N.Nodup) (ho : OpR X (inplaceOp op) r) (hz : OpZ Y f r) (he : PE X e (lowE Y fe)) (hi : X.N[i]? = some x := by rfl) (hx : Loc X.env.scope x := by first | exact Or.inl rfl | exact Or.inr rfl)
    (hf : X.fn x = true ∨ X.env.scope.names.lookup x = some .local := by first | exact .inl rfl | exact .inr rfl) (hk : Y.keeps i = true := by rfl) : PS X (.AugAssign (.Name x pos') op e pos) (lowS Y (aug i f fe)) := by
  refine (ps_aug (ti := r) hN hi hx he (fun pins s σ H x y v u Q I rx ry h => ho pins s σ H x y v u Q I rx ry h) hf).imp fun D σ H h => ?_
  obtain ⟨hI, F, ρ, μ, Γ, S, G, o, μ', e, P⟩ := h
  unfold aug at e
  split at e
  · rename_i x ex
    obtain ⟨w, h1, h2⟩ := paired_get G ex
    cases w with
    | none => exact h2.elim
    | some v =>
      refine ⟨v, h1, seqSV hI S G e P fun F1 ρ1 μ1 H1 y u l S1 hy e1 => ?_⟩
      have hx1 : Ra Y.c F1 ρ1 x v := Ra.mono l h2
      split at e1
      · rename_i z μ2 e2
        cases e1
        exact bi_ok (σ := σ) (Γ := Γ) hz S1 hx1 hy e2 fun F2 ρ2 H2 l2 S2 w hw => P F2 ρ2 H2 (l.trans l2) S2 _ (Ctx.I_set hk hI) (paired_set (show Ro Y.c F2 ρ2 (some z) (some w) from hw) i (G.mono (l.trans l2)))
      · cases e1
  · cases e
theorem z_augAdd (i : Nat) {x : Str} {pos' : Pos} (hN : X.N.Nodup) (he : PE X e (lowE Y fe)) (hi : X.N[i]? = some x := by rfl) (hx : Loc X.env.scope x := by first | exact Or.inl rfl | exact Or.inr rfl)
    (hf : X.fn x = true ∨ X.env.scope.names.lookup x = some .local := by first | exact .inl rfl | exact .inr rfl) (hk : Y.keeps i = true := by rfl) : PS X (.AugAssign (.Name x pos') .Add e pos) (lowS Y (aug i (opI (fun _ _ => true) (· + ·)) fe)) :=
  z_aug i hN iop_add (fun F ρ μ H σ a b z v u Q S ha hb e P => by
    obtain ⟨i, j, rfl, rfl, h, rfl⟩ := opI_rd e
    exact ⟨i, j, ha, hb, P.val S (.int _)⟩) he hi hx hf hk
theorem z_augSub (i : Nat) {x : Str} {pos' : Pos} (hN : X.N.Nodup) (he : PE X e (lowE Y fe)) (hi : X.N[i]? = some x := by rfl) (hx : Loc X.env.scope x := by first | exact Or.inl rfl | exact Or.inr rfl)
    (hf : X.fn x = true ∨ X.env.scope.names.lookup x = some .local := by first | exact .inl rfl | exact .inr rfl) (hk : Y.keeps i = true := by rfl) : PS X (.AugAssign (.Name x pos') .Sub e pos) (lowS Y (aug i opSub fe)) :=
  z_aug i hN iop_sub (fun F ρ μ H σ a b z v u Q S ha hb e P => by
    obtain ⟨i, j, rfl, rfl, h, rfl⟩ := opI_rd e
    exact ⟨i, j, ha, hb, P.val S (.int _)⟩) he hi hx hf hk
/-! xs[i] = e -/
def setIx (fe fo fi : Sem A) : SemS := eS fe fun z => eS fo fun x => eS fi fun y Γ μ => match x, y with
  | .ref j, .d (.int i) => match μ[j]? with
    | some (.lst xs) => match ixN xs.length i with
      | some k => some (.nx Γ, μ.set j (.lst (xs.set k z)))
      | none => none
    | _ => none
  | _, _ => none
theorem seqS3 {α β γ α' β' γ' : Type} {ra : Hp → List Addr → α → α' → Prop} {rb : Hp → List Addr → β → β' → Prop} {rc : Hp → List Addr → γ → γ' → Prop} {σ : St} {H : Hp} {E : Ends} {f : Sem α} {g : Sem β} {h' : Sem γ} {k : α → β → γ → SemS} {R1 : α' → β' → γ' → Hp → Prop}
    (h : lowS Y (eS f fun x => eS g fun y => eS h' (k x y)) E σ H) (ma : MonoR ra) (mb : MonoR rb)
    (hk : ∀ F ρ μ Γ H x v y u z w o μ', Y.I σ → Sta Y F ρ μ H → Rg Y.c F ρ Γ σ → ra F ρ x v → rb F ρ y u → rc F ρ z w → k x y z Γ μ = some (o, μ') → PostS Y F ρ o μ' E → R1 v u w H) : low Y ra f σ H fun v H1 => low Y rb g σ H1 fun u H2 => low Y rc h' σ H2 (R1 v u) := by
  obtain ⟨hI, F, ρ, μ, Γ, S, G, o, μ', e, P⟩ := h
  exact seqSV hI S G e P fun F1 ρ1 μ1 H1 x v l S1 hx e1 => seqSV hI S1 (G.mono l) e1 (P.mono l) fun F2 ρ2 μ2 H2 y u l2 S2 hy e2 =>
    seqSV hI S2 (G.mono (l.trans l2)) e2 (P.mono (l.trans l2)) fun F3 ρ3 μ3 H3 z w l3 S3 hz e3 =>
    hk F3 ρ3 μ3 Γ H3 x v y u z w o μ' hI S3 (G.mono ((l.trans l2).trans l3)) (ma _ _ _ _ _ _ (l2.trans l3) hx) (mb _ _ _ _ _ _ l3 hy) hz e3 (P.mono ((l.trans l2).trans l3))
theorem z_setIx {o i : Expr} {fo fi : Sem A} {p1 : Pos} (he : PE X e (lowE Y fe)) (ho : PE X o (lowE Y fo)) (hi : PE X i (lowE Y fi))
    (ha : ∀ v, assign (.Subscript o i p1) X.env v = (do
      let ov ← holding [v] (eval o X.env)
      let iv ← holding [v, ov] (eval i X.env)
      standAt p1
      holding [v, ov, iv] (setItem ov iv v)
      release [v, ov, iv] []) := by intro _; rfl)
    (hs : swapsWithSole [.Subscript o i p1] e pos.line X.env = pure false := by rfl) (hw : swappedStores [.Subscript o i p1] e X.env = pure none := by rfl)
    (ha2 : (assignEach [.Subscript o i p1] X.env).map (·.2) = [assign (.Subscript o i p1) X.env] := by rfl) : PS X (.Assign [.Subscript o i p1] e pos) (lowS Y (setIx fe fo fi)) :=
  (ps_asg he (pg_sub ho hi set_list ha) hs hw ha2).imp fun D σ H h => seqS3 h (mono_A Y) (mono_A Y) fun F ρ μ Γ H z v x u y w o μ' hI S G hz hx hy e P => by
    split at e
    · rename_i j i
      cases hy
      split at e
      · rename_i xs ex
        split at e
        · rename_i k ek
          cases e
          obtain ⟨a, rfl, h1, f, vs, h2, h3⟩ := S.at hx ex
          refine ⟨a, vs, i, k, rfl, rfl, h3, by rw [← paired_len h2]; exact ek, ?_⟩
          exact P F ρ _ (Le.refl _ _) (S.write ex h1 (by simp) _ ⟨f, _, paired_set hz k h2, upd_same⟩) σ hI G
        · cases e
      · cases e
    · cases e
end
end ZL

/-! Layer Z, part E: loops, comprehensions. -/
namespace ZL
open PySem PySem.Spec PyProof.Rows L2

section
variable {Y : Ctx} {F F' : Hp} {ρ ρ' : List Addr} {μ μ' : Store} {H H' : Hp}
/-- the state as the start of something within -/
theorem Sta.base (S : Sta Y F ρ μ H) (ex : Option (Nat × Addr)) (W : WX) : Sta ⟨Y.c, H, F, ρ, ex, W⟩ F ρ μ H :=
  ⟨S.sub, S.len, S.nd, S.cells, fun _ _ e _ => e, fun _ _ _ => rfl, fun _ h => h, Le.refl _ _, fun i a l e => absurd (List.getElem?_eq_some_iff.mp e).1 (by show ¬ i < ρ.length; have : ρ.length ≤ i := l; omega), S.liv⟩
theorem Sta.lift {ex : Option (Nat × Addr)} {W : WX} (S : Sta Y F ρ μ H) (S' : Sta ⟨Y.c, H, F, ρ, ex, W⟩ F' ρ' μ' H') : Sta Y F' ρ' μ' H' := by
  refine ⟨S'.sub, S'.len, S'.nd, S'.cells, fun a o e n => ?_, fun a n m => ?_, fun a n => S'.al a (S.al a n), S.le.trans S'.le, fun i a l e => ?_, S'.liv⟩
  · have h := S.fr a o e n
    refine S'.fr a o h fun m => n ?_
    obtain ⟨i, e1⟩ := List.getElem?_of_mem m
    exact S.notNew e1 (by rw [e]; simp)
  · have h := S.fz a n m
    rw [← h]
    refine S'.fz a (S.al a n) fun m' => m ?_
    obtain ⟨i, e1⟩ := List.getElem?_of_mem m'
    exact S.notNew e1 n
  · by_cases hi : i < ρ.length
    · obtain ⟨r, er⟩ := S'.le.pre
      refine S.new i a l ?_
      have er : ρ' = ρ ++ r := er
      rw [er, List.getElem?_append_left hi] at e
      exact e
    · have h1 : H a = none := S'.new i a (by show ρ.length ≤ i; omega) e
      cases q : Y.H0 a with
      | none => rfl
      | some u => exact absurd h1 (S.al a (by rw [q]; simp))
/-- what is changed is none of ours -/
theorem Sta.other (S : Sta Y F ρ μ H) {p : Addr} (hF : F p = none) (hρ : p ∉ ρ) (h0 : Y.H0 p = none) (o : HO) : Sta Y F ρ μ (upd H p o) := by
  refine ⟨fun a u e => ?_, S.len, S.nd, fun i a x e1 e2 => ?_, fun a u e n => ?_, S.fz, fun a n => ?_, S.le, S.new, fun a m => ?_⟩
  · rw [upd_ne (ne_of_none e hF)]; exact S.sub a u e
  · have na : a ≠ p := fun z => hρ (z ▸ List.mem_of_getElem? e2)
    exact (S.cells i a x e1 e2).mono (Le.refl _ _) rfl (upd_ne na)
  · rw [upd_ne (ne_of_none e h0)]; exact S.fr a u e n
  · by_cases h : a = p
    · subst h; rw [upd_same]; simp
    · rw [upd_ne h]; exact S.al a n
  · by_cases h : a = p
    · subst h; rw [upd_same]; simp
    · rw [upd_ne h]; exact S.liv a m
/-- an object of none is frozen -/
theorem Sta.adopt (S : Sta Y F ρ μ H) {p : Addr} {o : HO} (hF : F p = none) (hρ : p ∉ ρ) (h0 : Y.H0 p = none) (hp : H p = some o) : Sta Y (upd F p o) ρ μ H ∧ Le F ρ (upd F p o) ρ := by
  have le : Le F ρ (upd F p o) ρ := Le.same fun b u e => by rw [upd_ne (ne_of_none e hF)]; exact e
  refine ⟨⟨fun a u e => ?_, S.len, S.nd, fun i a x e1 e2 => ?_, S.fr, fun a n m => ?_, S.al, S.le.trans le, S.new, S.liv⟩, le⟩
  · by_cases h : a = p
    · subst h; rw [upd_same] at e; cases e; exact hp
    · rw [upd_ne h] at e; exact S.sub a u e
  · have na : a ≠ p := fun z => hρ (z ▸ List.mem_of_getElem? e2)
    exact (S.cells i a x e1 e2).mono le (upd_ne na) rfl
  · have na : a ≠ p := fun z => n (by rw [z]; exact h0)
    rw [upd_ne na]; exact S.fz a n m
/-- .. becomes a cell -/
theorem Sta.adoptCell (S : Sta Y F ρ μ H) {p : Addr} {x : Cell} (hF : F p = none) (hρ : p ∉ ρ) (h0 : Y.H0 p = none) (hp : H p ≠ none) (hx : CellOk Y.c F ρ H p x) : Sta Y F (ρ ++ [p]) (μ ++ [x]) H ∧ Le F ρ F (ρ ++ [p]) := by
  have le : Le F ρ F (ρ ++ [p]) := ⟨Same.refl F, [p], rfl⟩
  refine ⟨⟨S.sub, by simp [S.len], ?_, fun i a y e1 e2 => ?_, S.fr, S.fz, S.al, S.le.trans le, fun i a l e => ?_, fun a m => ?_⟩, le⟩
  · rw [List.nodup_append]
    exact ⟨S.nd, by simp, fun a ha b hb => by simp at hb; subst hb; intro z; subst z; exact hρ ha⟩
  · by_cases hi : i < μ.length
    · rw [List.getElem?_append_left hi] at e1
      rw [List.getElem?_append_left (by rw [S.len]; exact hi)] at e2
      exact (S.cells i a y e1 e2).mono le rfl rfl
    · have hi' : i = μ.length := by
        have := (List.getElem?_eq_some_iff.mp e1).1
        simp at this; omega
      subst hi'
      rw [List.getElem?_append_right (Nat.le_refl _)] at e1
      rw [List.getElem?_append_right (by rw [S.len]; exact Nat.le_refl _)] at e2
      simp at e1
      rw [S.len] at e2
      simp at e2
      subst e1 e2
      exact hx.mono le rfl rfl
  · by_cases hi : i < ρ.length
    · rw [List.getElem?_append_left hi] at e; exact S.new i a l e
    · have hi' : i = ρ.length := by
        have := (List.getElem?_eq_some_iff.mp e).1
        simp at this; omega
      subst hi'
      rw [List.getElem?_append_right (Nat.le_refl _)] at e
      simp at e
      subst e
      exact h0
  · rcases List.mem_append.mp m with m | m
    · exact S.liv a m
    · simp at m; subst m; exact hp
end

/-! ### what is walked -/
structure IG (c : Cf) (J : It) (F0 : Hp) (ρ0 : List Addr) (xs : List A) : Prop where
  stop : ∀ (Y : Ctx) F ρ μ H, Y.c = c → Le F0 ρ0 F ρ → Sta Y F ρ μ H → J.stop xs.length H
  go : ∀ (Y : Ctx) i F ρ μ H, Y.c = c → i < xs.length → Le F0 ρ0 F ρ → Sta Y F ρ μ H → J.go i H
  yld : ∀ (Y : Ctx) i F ρ μ H x H', Y.c = c → i < xs.length → Le F0 ρ0 F ρ → Sta Y F ρ μ H → J.yld i H x H' → ∃ F' z, Le F ρ F' ρ ∧ Sta Y F' ρ μ H' ∧ xs[i]? = some z ∧ Ra c F' ρ z x
def lowI (Y : Ctx) (f : Sem (List A)) : TI := fun σ H R => Y.I σ ∧ ∃ F ρ μ Γ, Sta Y F ρ μ H ∧ Rg Y.c F ρ Γ σ ∧ ∃ r μ', f Γ μ = some (r, μ') ∧ ∀ F' ρ' H', Le F ρ F' ρ' → Sta Y F' ρ' μ' H' → match r with
  | .ok xs => ∀ J, IG Y.c J F' ρ' xs → R J H'
  | .exc n fs => ∀ dd vs, F' dd = some (.xd vs) → Rf (fun x v => Dp Y.c.K F' v x) fs vs → Y.W (.ref (Y.c.ε n)) (some dd) σ H'
theorem _root_.L2.PI.imp {X : Cx} {tg e : Expr} {t t' : TI} (h : PI X tg e t) (i : ∀ σ H R, t' σ H R → t σ H R) : PI X tg e t' := ⟨fun pins s σ H R I w => h.run pins s σ H R I (i σ H R w)⟩
theorem _root_.L2.PI.or {X : Cx} {tg e : Expr} {t t' : TI} (h : PI X tg e t) (h' : PI X tg e t') : PI X tg e (fun σ H R => t σ H R ∨ t' σ H R) := ⟨fun pins s σ H R I w => w.elim (h.run pins s σ H R I) (h'.run pins s σ H R I)⟩
def itemsA : A → Option (List A)
  | .d (.list ds) => some (ds.map .d)
  | .d (.tuple ds) => some (ds.map .d)
  | _ => none
def iSeq (f : Sem A) : Sem (List A) := sb f fun x _ μ => match itemsA x with
  | some xs => some (.ok xs, μ)
  | none => none
def PostI (Y : Ctx) (σ : St) (F : Hp) (ρ : List Addr) (r : R (List A)) (μ' : Store) (Rr : It → Hp → Prop) : Prop := ∀ F' ρ' H', Le F ρ F' ρ' → Sta Y F' ρ' μ' H' → match r with
  | .ok xs => ∀ J, IG Y.c J F' ρ' xs → Rr J H'
  | .exc n fs => ∀ dd vs, F' dd = some (.xd vs) → Rf (fun x v => Dp Y.c.K F' v x) fs vs → Y.W (.ref (Y.c.ε n)) (some dd) σ H'
section
variable {α β : Type} {Y : Ctx} {ra : Hp → List Addr → α → β → Prop} {σ : St} {H : Hp}
theorem seqI {fa : Sem α} {k : α → Sem (List A)} {Rr : It → Hp → Prop} {R1 : β → Hp → Prop} (h : lowI Y (sb fa k) σ H Rr)
    (hk : ∀ F ρ μ H x v Γ r μ', Y.I σ → Sta Y F ρ μ H → Rg Y.c F ρ Γ σ → ra F ρ x v → k x Γ μ = some (r, μ') → PostI Y σ F ρ r μ' Rr → R1 v H) : low Y ra fa σ H R1 := by
  obtain ⟨hI, F, ρ, μ, Γ, S, G, r, μ', e, P⟩ := h
  unfold sb at e
  split at e
  · rename_i x μ1 e1
    exact ⟨hI, F, ρ, μ, Γ, S, G, .ok x, μ1, e1, fun F1 ρ1 H1 l1 S1 v hv => hk F1 ρ1 μ1 H1 x v Γ r μ' hI S1 (G.mono l1) hv e fun F' ρ' H' l => P F' ρ' H' (l1.trans l)⟩
  · rename_i n fs μ1 e1
    cases e
    exact ⟨hI, F, ρ, μ, Γ, S, G, .exc n fs, _, e1, fun F1 ρ1 H1 l1 S1 => P F1 ρ1 H1 l1 S1⟩
  · cases e
end
theorem get_map {α β : Type} {f : α → β} {xs : List α} {i : Nat} {z : α} (h : xs[i]? = some z) : (xs.map f)[i]? = some (f z) := by simp [h]
theorem some_at {α : Type} {xs : List α} {i : Nat} (h : i < xs.length) : ∃ z, xs[i]? = some z := ⟨xs[i], by simp [h]⟩
theorem ig_list {c : Cf} {F : Hp} {ρ : List Addr} {a : Addr} {vs : List V} {ds : List D} (h : SqL c.K F a vs) (hd : DpAll c.K F vs ds) : IG c (Itl c.K a) F ρ (ds.map .d) where
  stop := fun Y F1 ρ1 μ H hY l S => ⟨vs, (l.sub.trans S.sub).seq h, by simp [dpa_len hd]⟩
  go := fun Y i F1 ρ1 μ H hY hi l S => by
    obtain ⟨z, e⟩ := some_at (xs := ds) (by simpa using hi)
    obtain ⟨v, e1, _⟩ := dpa_get hd e
    exact ⟨vs, v, (l.sub.trans S.sub).seq h, e1⟩
  yld := fun Y i F1 ρ1 μ H x H' hY hi l S y => by
    obtain ⟨rfl, y⟩ := y
    obtain ⟨z, e⟩ := some_at (xs := ds) (by simpa using hi)
    obtain ⟨v, e1, h1⟩ := dpa_get hd e
    have e2 := y vs ((l.sub.trans S.sub).seq h)
    rw [e1] at e2; cases e2
    exact ⟨F1, .d z, Le.refl _ _, S, get_map e, dp_mono l.sub h1⟩
theorem ig_tup {c : Cf} {F : Hp} {ρ : List Addr} {a : Addr} {vs : List V} {ds : List D} (h : SqT c.K F a vs) (hd : DpAll c.K F vs ds) : IG c (Itt c.K a) F ρ (ds.map .d) where
  stop := fun Y F1 ρ1 μ H hY l S => ⟨vs, sqT_mono (l.sub.trans S.sub) h, by simp [dpa_len hd]⟩
  go := fun Y i F1 ρ1 μ H hY hi l S => by
    obtain ⟨z, e⟩ := some_at (xs := ds) (by simpa using hi)
    obtain ⟨v, e1, _⟩ := dpa_get hd e
    exact ⟨vs, v, sqT_mono (l.sub.trans S.sub) h, e1⟩
  yld := fun Y i F1 ρ1 μ H x H' hY hi l S y => by
    obtain ⟨rfl, y⟩ := y
    obtain ⟨z, e⟩ := some_at (xs := ds) (by simpa using hi)
    obtain ⟨v, e1, h1⟩ := dpa_get hd e
    have e2 := y vs (sqT_mono (l.sub.trans S.sub) h)
    rw [e1] at e2; cases e2
    exact ⟨F1, .d z, Le.refl _ _, S, get_map e, dp_mono l.sub h1⟩
def rng (lo : Int) (n : Nat) : List A := (List.range n).map fun i => .d (.int (lo + (i : Nat)))
theorem ig_rng {c : Cf} {F : Hp} {ρ : List Addr} {lo : Int} {n : Nat} : IG c (Itr lo n) F ρ (rng lo n) where
  stop := fun Y F1 ρ1 μ H hY l S => by show n ≤ (rng lo n).length; simp [rng]
  go := fun Y i F1 ρ1 μ H hY hi l S => by show i < n; simpa [rng] using hi
  yld := fun Y i F1 ρ1 μ H x H' hY hi l S y => by
    obtain ⟨rfl, rfl⟩ := y
    have hi : i < n := by simpa [rng] using hi
    exact ⟨F1, .d (.int (lo + (i : Nat))), Le.refl _ _, S, by simp [rng, hi], Dp.int _⟩
def okR (j : Int) : Bool := decide (-(2 ^ 62) ≤ j) && decide (j < 2 ^ 62)
def rng1 (f : Sem A) : Sem (List A) := sb (acons f anil) fun xs _ μ => match xs with
  | [.d (.int j)] => if okR j then some (.ok (rng 0 j.toNat), μ) else none
  | _ => none
def rng2 (f g : Sem A) : Sem (List A) := sb (acons f (acons g anil)) fun xs _ μ => match xs with
  | [.d (.int i), .d (.int j)] => if okR i && okR j then some (.ok (rng i (j - i).toNat), μ) else none
  | _ => none
section
variable {X : Cx} {Y : Ctx} {pos : Pos} {tg a b e : Expr} {fa fb : Sem A}
theorem z_iSeq (hK : Y.c.K = X.K := by rfl) (ha : PE X a (lowE Y fa)) : PI X tg a (lowI Y (iSeq fa)) :=
  ((pi_list ha).or (pi_tup ha)).imp fun σ H R h => by
    obtain ⟨hI, F, ρ, μ, Γ, S, G, r, μ', e, P⟩ := id h
    unfold iSeq sb at e
    split at e
    · rename_i x μ1 e1
      dsimp only at e
      split at e
      · rename_i xs ex
        cases e
        unfold itemsA at ex
        split at ex
        · rename_i ds
          cases ex
          refine .inl ⟨hI, F, ρ, μ, Γ, S, G, _, _, e1, fun F1 ρ1 H1 l1 S1 v hv => ?_⟩
          cases hv with
          | lst hs ha => exact ⟨_, rfl, ⟨_, hK ▸ S1.sub.seq hs⟩, hK ▸ P F1 ρ1 H1 l1 S1 _ (ig_list hs ha)⟩
        · rename_i ds
          cases ex
          refine .inr ⟨hI, F, ρ, μ, Γ, S, G, _, _, e1, fun F1 ρ1 H1 l1 S1 v hv => ?_⟩
          cases hv with
          | tup hs ha => exact ⟨_, rfl, ⟨_, hK ▸ sqT_mono S1.sub hs⟩, hK ▸ P F1 ρ1 H1 l1 S1 _ (ig_tup hs ha)⟩
        · cases ex
      · cases e
    · rename_i n fs μ1 e1
      cases e
      exact .inl ⟨hI, F, ρ, μ, Γ, S, G, _, _, e1, fun F1 ρ1 H1 l1 S1 => P F1 ρ1 H1 l1 S1⟩
    · cases e
theorem z_rng1 {p : Pos} (hm : X.mg "range" = none) (ha : PE X a (lowE Y fa)) (hg : Gl X "range" := by rfl) (hs : starEach [a] X.env = [(false, eval a X.env)] := by rfl) : PI X tg (.Call (.Name "range" p) [a] [] pos) (lowI Y (rng1 fa)) :=
  (pi_range1 hg hm (z_cons ha z_nil hs) hs).imp fun σ H R h => seqI (ra := relAs Y) h fun F ρ μ H x v Γ r μ' hI S G hx e P => by
    split at e
    · rename_i j
      split at e
      · rename_i hj
        cases e
        unfold okR at hj
        rw [Bool.and_eq_true, decide_eq_true_eq, decide_eq_true_eq] at hj
        cases hx with
        | cons h1 h2 =>
          cases h2
          cases h1
          exact ⟨j, rfl, hj.1, hj.2, P F ρ H (Le.refl _ _) S _ ig_rng⟩
      · cases e
    · cases e
theorem z_rng2 {p : Pos} (hm : X.mg "range" = none) (ha : PE X a (lowE Y fa)) (hb : PE X b (lowE Y fb)) (hg : Gl X "range" := by rfl) (hs : starEach [a, b] X.env = [(false, eval a X.env), (false, eval b X.env)] := by rfl) (hs2 : starEach [b] X.env = [(false, eval b X.env)] := by rfl)
    (hs3 : starEach [a, b] X.env = (false, eval a X.env) :: starEach [b] X.env := by rfl) (hs4 : starEach [b] X.env = (false, eval b X.env) :: starEach [] X.env := by rfl) :
    PI X tg (.Call (.Name "range" p) [a, b] [] pos) (lowI Y (rng2 fa fb)) :=
  (pi_range2 hg hm (z_cons ha (z_cons hb z_nil hs4) hs3) hs hs2).imp fun σ H R h => seqI (ra := relAs Y) h fun F ρ μ H x v Γ r μ' hI S G hx e P => by
    split at e
    · rename_i i j
      split at e
      · rename_i hj
        cases e
        unfold okR at hj
        simp only [Bool.and_eq_true, decide_eq_true_eq] at hj
        cases hx with
        | cons h1 h2 =>
          cases h2 with
          | cons h2 h3 =>
            cases h3
            cases h1
            cases h2
            exact ⟨i, j, rfl, ⟨hj.1.1, hj.1.2, hj.2.1, hj.2.2⟩, P F ρ H (Le.refl _ _) S _ ig_rng⟩
      · cases e
    · cases e

/-! ### for -/
def forS : List A → Tgt → SemS → SemS
  | [], _, _ => nextS
  | x :: xs, t, b => fun Γ μ => match t x Γ with
    | none => none
    | some Γ1 => match b Γ1 μ with
      | some (.nx Γ2, μ2) => forS xs t b Γ2 μ2
      | some (.ct Γ2, μ2) => forS xs t b Γ2 μ2
      | some (.bk Γ2, μ2) => some (.nx Γ2, μ2)
      | some (.rt x, μ2) => some (.rt x, μ2)
      | some (.ex Γ2 n fs, μ2) => some (.ex Γ2 n fs, μ2)
      | none => none
def forE (fi : Sem (List A)) (t : Tgt) (b : SemS) : SemS := eS fi fun xs => forS xs t b
theorem z_for {iter : Expr} {body : List Stmt} {fi : Sem (List A)} {t : Tgt} {is : List Nat} {g : SemS} (hp : PassesOwn (model X.prog X.w) X.A X.env X.xe) (hi : PI X tg iter (lowI Y fi)) (hg : PG X tg (lowG Y t is)) (hb : PSs X body (lowS Y g)) (hc : X.calm = true := by rfl)
    (hs : ∀ x, foldedSetIterable iter X.env x = pure x := by intro _; rfl) : PS X (.For tg iter body [] pos) (lowS Y (forE fi t g)) := by
  refine (ps_for hp hc hi hg hb hs).imp fun D σ H h => ?_
  obtain ⟨hI, F, ρ, μ, Γ, S, G, o, μ', e, P⟩ := h
  unfold forE eS at e
  split at e
  · rename_i xs μ1 e1
    refine ⟨hI, F, ρ, μ, Γ, S, G, .ok xs, μ1, e1, fun F1 ρ1 H1 l1 S1 J hJ => ?_⟩
    refine ⟨fun i m σ H => m = xs.length - i ∧ i ≤ xs.length ∧ Y.I σ ∧ ∃ F ρ μ Γ, Le F1 ρ1 F ρ ∧ Sta Y F ρ μ H ∧ Rg Y.c F ρ Γ σ ∧ forS (xs.drop i) t g Γ μ = some (o, μ') ∧ PostS Y F ρ o μ' D,
      ⟨xs.length, rfl, Nat.zero_le _, hI, F1, ρ1, μ1, Γ, Le.refl _ _, S1, G.mono l1, e, P.mono l1⟩, ?_⟩
    rintro i m σ H ⟨rfl, hi, hI, F, ρ, μ, Γ, l, S, G, e, P⟩
    by_cases hlt : i < xs.length
    · refine .inr ⟨hJ.go Y i F ρ μ H rfl hlt l S, _, fun σ' H' p => ⟨xs.length - (i + 1), by omega, p⟩, fun x H' y => ?_⟩
      obtain ⟨F2, z, l2, S2, ez, hz⟩ := hJ.yld Y i F ρ μ H x H' rfl hlt l S y
      have ed : xs.drop i = z :: xs.drop (i + 1) := by
        rw [List.drop_eq_getElem_cons hlt]
        congr 1
        rw [List.getElem?_eq_getElem hlt] at ez
        exact Option.some.inj ez
      rw [ed] at e
      simp only [forS] at e
      split at e
      · cases e
      · rename_i Γ1 et
        refine ⟨hI, F2, ρ, μ, Γ, z, Γ1, S2, G.mono l2, hz, et, fun σ2 I2 G2 _ => ?_⟩
        split at e
        · rename_i Γ2 μ2 eb
          exact ⟨I2, F2, ρ, μ, Γ1, S2, G2, _, _, eb, fun F3 ρ3 H3 l3 S3 σ3 I3 G3 => ⟨rfl, hlt, I3, F3, ρ3, μ2, Γ2, l.trans (l2.trans l3), S3, G3, e, P.mono (l2.trans l3)⟩⟩
        · rename_i Γ2 μ2 eb
          exact ⟨I2, F2, ρ, μ, Γ1, S2, G2, _, _, eb, fun F3 ρ3 H3 l3 S3 σ3 I3 G3 => ⟨rfl, hlt, I3, F3, ρ3, μ2, Γ2, l.trans (l2.trans l3), S3, G3, e, P.mono (l2.trans l3)⟩⟩
        · rename_i Γ2 μ2 eb
          cases e
          exact ⟨I2, F2, ρ, μ, Γ1, S2, G2, _, _, eb, fun F3 ρ3 H3 l3 S3 => P F3 ρ3 H3 (l2.trans l3) S3⟩
        · rename_i Γ2 μ2 eb
          cases e
          exact ⟨I2, F2, ρ, μ, Γ1, S2, G2, _, _, eb, fun F3 ρ3 H3 l3 S3 => P F3 ρ3 H3 (l2.trans l3) S3⟩
        · rename_i Γ2 n fs μ2 eb
          cases e
          exact ⟨I2, F2, ρ, μ, Γ1, S2, G2, _, _, eb, fun F3 ρ3 H3 l3 S3 => P F3 ρ3 H3 (l2.trans l3) S3⟩
        · cases e
    · have hi' : i = xs.length := by omega
      subst hi'
      refine .inl ⟨hJ.stop Y F ρ μ H rfl l S, ?_⟩
      rw [List.drop_length] at e
      cases e
      exact P F ρ H (Le.refl _ _) S σ hI G
  · rename_i n fs μ1 e1
    cases e
    exact ⟨hI, F, ρ, μ, Γ, S, G, _, _, e1, fun F1 ρ1 H1 l1 S1 dd vs hd hf => P F1 ρ1 H1 l1 S1 σ dd vs hI (G.mono l1) hd hf⟩
  · cases e

/-! ### while -/
def whileS : Nat → Sem Bool → SemS → SemS
  | 0, _, _ => never
  | n + 1, f, b => eS f fun c => if c then (fun Γ μ => match b Γ μ with
      | some (.nx Γ2, μ2) => whileS n f b Γ2 μ2
      | some (.ct Γ2, μ2) => whileS n f b Γ2 μ2
      | some (.bk Γ2, μ2) => some (.nx Γ2, μ2)
      | some (.rt x, μ2) => some (.rt x, μ2)
      | some (.ex Γ2 n fs, μ2) => some (.ex Γ2 n fs, μ2)
      | none => none) else nextS
theorem z_while (fuel : Nat) {c : Expr} {body : List Stmt} {f : Sem Bool} {g : SemS} (hp : PassesOwn (model X.prog X.w) X.A X.env X.xe) (hc : PT X c (lowT Y f)) (hb : PSs X body (lowS Y g)) : PS X (.While c body [] pos) (lowS Y (whileS fuel f g)) := by
  refine (ps_while hp hc hb).imp fun D σ H h => ?_
  obtain ⟨hI, F, ρ, μ, Γ, S, G, o, μ', e, P⟩ := h
  refine ⟨fun m σ H => Y.I σ ∧ ∃ F ρ μ Γ, Sta Y F ρ μ H ∧ Rg Y.c F ρ Γ σ ∧ whileS m f g Γ μ = some (o, μ') ∧ PostS Y F ρ o μ' D, ⟨fuel, hI, F, ρ, μ, Γ, S, G, e, P⟩, ?_⟩
  rintro m σ H ⟨hI, F, ρ, μ, Γ, S, G, e, P⟩
  cases m with
  | zero => cases e
  | succ n =>
    refine seqSV hI S G e P fun F1 ρ1 μ1 H1 x v l1 S1 hx e1 => ?_
    obtain rfl : x = v := hx
    cases x with
    | false =>
      rw [if_neg Bool.false_ne_true] at e1 ⊢
      cases e1
      exact P F1 ρ1 H1 l1 S1 σ hI (G.mono l1)
    | true =>
      rw [if_pos rfl] at e1 ⊢
      refine ⟨_, fun σ' H' p => ⟨n, Nat.lt_succ_self n, p⟩, ?_⟩
      split at e1
      · rename_i Γ2 μ2 eb
        exact ⟨hI, F1, ρ1, μ1, Γ, S1, G.mono l1, _, _, eb, fun F3 ρ3 H3 l3 S3 σ3 I3 G3 => ⟨I3, F3, ρ3, μ2, Γ2, S3, G3, e1, P.mono (l1.trans l3)⟩⟩
      · rename_i Γ2 μ2 eb
        exact ⟨hI, F1, ρ1, μ1, Γ, S1, G.mono l1, _, _, eb, fun F3 ρ3 H3 l3 S3 σ3 I3 G3 => ⟨I3, F3, ρ3, μ2, Γ2, S3, G3, e1, P.mono (l1.trans l3)⟩⟩
      · rename_i Γ2 μ2 eb
        cases e1
        exact ⟨hI, F1, ρ1, μ1, Γ, S1, G.mono l1, _, _, eb, fun F3 ρ3 H3 l3 S3 => P F3 ρ3 H3 (l1.trans l3) S3⟩
      · rename_i Γ2 μ2 eb
        cases e1
        exact ⟨hI, F1, ρ1, μ1, Γ, S1, G.mono l1, _, _, eb, fun F3 ρ3 H3 l3 S3 => P F3 ρ3 H3 (l1.trans l3) S3⟩
      · rename_i Γ2 n fs μ2 eb
        cases e1
        exact ⟨hI, F1, ρ1, μ1, Γ, S1, G.mono l1, _, _, eb, fun F3 ρ3 H3 l3 S3 => P F3 ρ3 H3 (l1.trans l3) S3⟩
      · cases e1
end
end ZL

/-! Layer Z, part F: list comprehensions. -/
namespace ZL
open PySem PySem.Spec PyProof.Rows L2

abbrev WF : WX := fun _ _ _ _ => False
abbrev YB (c : Cf) (H0 F0 : Hp) (ρ0 : List Addr) : Ctx := ⟨c, H0, F0, ρ0, none, WF⟩
def exE (c : Cf) (f : Sem A) : TE := fun σ H Q => ∃ H0 F0 ρ0, lowE (YB c H0 F0 ρ0) f σ H Q
def exT (c : Cf) (f : Sem Bool) : TT := fun σ H Q => ∃ H0 F0 ρ0, lowT (YB c H0 F0 ρ0) f σ H Q
def exG (c : Cf) (t : Tgt) (is : List Nat) : TG := fun v σ H Q => ∃ H0 F0 ρ0, lowG (YB c H0 F0 ρ0) t is v σ H Q
theorem PE.exE {X : Cx} {e : Expr} {c : Cf} {f : Sem A} (h : ∀ H0 F0 ρ0, PE X e (lowE (YB c H0 F0 ρ0) f)) : PE X e (exE c f) := ⟨fun pins s σ H Q I ⟨H0, F0, ρ0, w⟩ => (h H0 F0 ρ0).run pins s σ H Q I w⟩
theorem PT.exT {X : Cx} {e : Expr} {c : Cf} {f : Sem Bool} (h : ∀ H0 F0 ρ0, PT X e (lowT (YB c H0 F0 ρ0) f)) : PT X e (exT c f) := ⟨fun pins s σ H Q I ⟨H0, F0, ρ0, w⟩ => (h H0 F0 ρ0).run pins s σ H Q I w⟩
theorem PG.exG {X : Cx} {e : Expr} {c : Cf} {t : Tgt} {is : List Nat} (h : ∀ H0 F0 ρ0, PG X e (lowG (YB c H0 F0 ρ0) t is)) : PG X e (exG c t is) := ⟨fun pins s σ H v u Q I r ⟨H0, F0, ρ0, w⟩ => (h H0 F0 ρ0).run pins s σ H v u Q I r w⟩
def yesT : Sem Bool := fun _ μ => some (.ok true, μ)
theorem z_pts0 {X : Cx} {c : Cf} : PTs X [] (exT c yesT) := ⟨fun pins s σ H Q I ⟨H0, F0, ρ0, w⟩ => pts_nil.run pins s σ H Q I (low_ret (Y := YB c H0 F0 ρ0) w fun _ _ => rfl)⟩
theorem z_pts1 {X : Cx} {e : Expr} {c : Cf} {f : Sem Bool} (h : ∀ H0 F0 ρ0, PT X e (lowT (YB c H0 F0 ρ0) f)) : PTs X [e] (exT c f) := pts_one (PT.exT h)
theorem YB_I {c : Cf} {H0 F0 : Hp} {ρ0 : List Addr} (σ : St) : (YB c H0 F0 ρ0).I σ := fun _ _ e => by cases e

def wipeG (Γ : Gam) : List Nat → Gam
  | [] => Γ
  | v :: vs => (wipeG Γ vs).set v none
theorem rg_wipe {c : Cf} {F : Hp} {ρ : List Addr} {Γ : Gam} {σ : St} (h : Rg c F ρ Γ σ) : ∀ vs, Rg c F ρ (wipeG Γ vs) (wipe σ vs)
  | [] => h
  | v :: vs => paired_set (show Ro c F ρ none none from trivial) v (rg_wipe h vs)
def lcS (t : Tgt) (ft : Sem Bool) (fe : Sem A) (Γ : Gam) : List A → Store → Option (List A × Store)
  | [], μ => some ([], μ)
  | x :: xs, μ => match t x Γ with
    | none => none
    | some Γ1 => match ft Γ1 μ with
      | some (.ok true, μ1) => match fe Γ1 μ1 with
        | some (.ok y, μ2) => match lcS t ft fe Γ xs μ2 with
          | some (ys, μ3) => some (y :: ys, μ3)
          | none => none
        | _ => none
      | some (.ok false, μ1) => lcS t ft fe Γ xs μ1
      | _ => none
def fin (m : Bool) (ys : List A) (μ : Store) : Option (R A × Store) := if m then mkC ys μ else match allD ys with
  | some ds => some (.ok (.d (.list ds)), μ)
  | none => none
def compK (m : Bool) (vs : List Nat) (t : Tgt) (ft : Sem Bool) (fe : Sem A) (xs : List A) : Sem A := fun Γ μ => if xs.length ≤ 1000000 then match lcS t ft fe (wipeG Γ vs) xs μ with
  | some (ys, μ1) => fin m ys μ1
  | none => none else none
def comp (m : Bool) (vs : List Nat) (fi : Sem (List A)) (t : Tgt) (ft : Sem Bool) (fe : Sem A) : Sem A := sb fi (compK m vs t ft fe)
theorem sz1 {n : Nat} (h : n < 1000000) : n < sizeLine := Nat.lt_of_lt_of_le h (by decide)
section
variable {Y : Ctx}
theorem fin_ok {m : Bool} {F ρ μ H σ ys vs r μ' D} {Q : VK} (S : Sta Y F ρ μ H) (hF : F D = none) (hρ : D ∉ ρ) (h0 : Y.H0 D = none) (hD : H D = some (.lst vs)) (hy : Ras Y.c F ρ ys vs) (e : fin m ys μ = some (r, μ')) (P : Post Y (relA Y) σ F ρ r μ' Q) : Q (.ref D) H := by
  unfold fin at e
  cases m with
  | true =>
    rw [if_pos rfl] at e
    cases e
    obtain ⟨S1, l⟩ := S.adoptCell (x := .lst ys) hF hρ h0 (by rw [hD]; simp) ⟨hF, vs, hy, hD⟩
    exact P _ _ _ l S1 _ ⟨D, by rw [List.getElem?_append_right (by rw [S.len]; exact Nat.le_refl _), S.len]; simp, rfl⟩
  | false =>
    rw [if_neg Bool.false_ne_true] at e
    split at e
    · rename_i ds ed
      cases e
      obtain ⟨S1, l⟩ := S.adopt hF hρ h0 hD
      have := allD_eq ed
      subst this
      exact P _ _ _ l S1 _ (Dp.lst (SqL.of upd_same) (dpa_mono l.sub (ras_dpa hy)))
    · cases e
theorem lc_low {m : Bool} {vs is : List Nat} {fi : Sem (List A)} {t : Tgt} {ft : Sem Bool} {fe : Sem A} (his : ∀ i ∈ is, i ∈ vs) {σ : St} {H : Hp} {Q : VK} (h : lowE Y (comp m vs fi t ft fe) σ H Q) :
    tLc (lowI Y fi) (exG Y.c t is) (exT Y.c ft) (exE Y.c fe) vs σ H Q := by
  obtain ⟨hI, F, ρ, μ, Γ, S, G, r, μ', e, P⟩ := h
  unfold comp sb at e
  split at e
  · rename_i xs μ1 e1
    refine ⟨hI, F, ρ, μ, Γ, S, G, .ok xs, μ1, e1, fun F1 ρ1 H1 l1 S1 J hJ Dl hD => ?_⟩
    unfold compK at e
    split at e
    · rename_i hz
      split at e
      · rename_i ys μ2 e2
        have FD : F1 Dl = none := Same.free S1.sub hD
        have ρD : Dl ∉ ρ1 := fun mm => S1.liv _ mm hD
        have H0D : Y.H0 Dl = none := by
          cases q : Y.H0 Dl with
          | none => rfl
          | some u => exact absurd hD (S1.al Dl (by rw [q]; simp))
        refine ⟨fun i k H => k = xs.length - i ∧ i ≤ xs.length ∧ ∃ F ρ μ done ws ys' , Le F1 ρ1 F ρ ∧ Sta Y F ρ μ H ∧ H Dl = some (.lst ws) ∧ F Dl = none ∧ Dl ∉ ρ ∧ Ras Y.c F ρ done ws ∧ done.length ≤ i ∧
          lcS t ft fe (wipeG Γ vs) (xs.drop i) μ = some (ys', μ2) ∧ fin m (done ++ ys') μ2 = some (r, μ'),
          ⟨xs.length, rfl, Nat.zero_le _, F1, ρ1, μ1, [], [], ys, Le.refl _ _, S1.junk hD _, upd_same, FD, ρD, .nil, Nat.le_refl _, e2, e⟩, ?_⟩
        rintro i k H ⟨rfl, hi, F, ρ, μ, done, ws, ys', l, S, hw, fD, nD, hdone, hdl, e3, e4⟩
        by_cases hlt : i < xs.length
        · have SB := S.base none WF
          refine .inr ⟨hJ.go Y i F ρ μ H rfl hlt l S, _, fun H' p => ⟨xs.length - (i + 1), by omega, p⟩, fun x H' y => ?_⟩
          obtain ⟨F2, z, l2, S2, ez, hz2⟩ := hJ.yld (YB Y.c H F ρ) i F ρ μ H x H' rfl hlt l SB y
          have ed : xs.drop i = z :: xs.drop (i + 1) := by
            rw [List.drop_eq_getElem_cons hlt]
            congr 1
            rw [List.getElem?_eq_getElem hlt] at ez
            exact Option.some.inj ez
          rw [ed] at e3
          simp only [lcS] at e3
          split at e3
          · cases e3
          · rename_i Γ1 et
            refine ⟨H, F, ρ, YB_I _, F2, ρ, μ, wipeG Γ vs, z, Γ1, S2, rg_wipe (G.mono ((l1.trans l).trans l2)) vs, hz2, et, fun σ2 I2 G2 st => ⟨(st.wipe his).trans ?_, H, F, ρ, I2, F2, ρ, μ, Γ1, S2, G2, ?_⟩⟩
            · exact wipe_wipe σ vs
            · -- what stays at the list's place
              have keep : ∀ {F3 ρ3 μ3 H3}, Sta (YB Y.c H F ρ) F3 ρ3 μ3 H3 → H3 Dl = some (.lst ws) ∧ F3 Dl = none ∧ Dl ∉ ρ3 := fun {F3 ρ3 μ3 H3} S3 => by
                refine ⟨S3.fr Dl _ hw nD, (S3.fz Dl (by show H Dl ≠ none; rw [hw]; simp) nD).trans fD, fun mm => ?_⟩
                obtain ⟨j, ej⟩ := List.getElem?_of_mem mm
                exact nD (S3.notNew ej (by show H Dl ≠ none; rw [hw]; simp))
              split at e3
              · rename_i μ3 eft
                refine ⟨.ok true, μ3, eft, fun F3 ρ3 H3 l3 S3 b hb => ?_⟩
                obtain rfl : true = b := hb
                rw [if_pos rfl]
                split at e3
                · rename_i y μ4 efe
                  split at e3
                  · rename_i ys'' μ5 e5
                    cases e3
                    refine ⟨H, F, ρ, I2, F3, ρ3, μ3, Γ1, S3, G2.mono l3, .ok y, μ4, efe, fun F4 ρ4 H4 l4 S4 v hv => ?_⟩
                    obtain ⟨k1, k2, k3⟩ := keep S4
                    have hlen : ws.length = done.length := (paired_len hdone).symm
                    have l24 : Le F ρ F4 ρ4 := l2.trans (l3.trans l4)
                    refine ⟨ws, k1, sz1 (by omega), rfl, hlt, F4, ρ4, μ4, done ++ [y], ws ++ [v], ys'', l.trans l24, (S.lift S4).other k2 k3 H0D _, upd_same, k2, k3, paired_app (hdone.mono l24) (.cons hv .nil), by simp; omega, e5, by simpa using e4⟩
                  · cases e3
                · cases e3
              · rename_i μ3 eft
                refine ⟨.ok false, μ3, eft, fun F3 ρ3 H3 l3 S3 b hb => ?_⟩
                obtain rfl : false = b := hb
                rw [if_neg Bool.false_ne_true]
                obtain ⟨k1, k2, k3⟩ := keep S3
                exact ⟨rfl, hlt, F3, ρ3, μ3, done, ws, ys', l.trans (l2.trans l3), S.lift S3, k1, k2, k3, hdone.mono (l2.trans l3), by omega, e3, e4⟩
              · cases e3
        · have hi' : i = xs.length := by omega
          subst hi'
          refine .inl ⟨hJ.stop Y F ρ μ H rfl l S, ?_⟩
          rw [List.drop_length] at e3
          cases e3
          rw [List.append_nil] at e4
          exact fin_ok S fD nD H0D hw hdone e4 (P.mono (l1.trans l))
      · cases e
    · cases e
  · rename_i n fs μ1 e1
    cases e
    exact ⟨hI, F, ρ, μ, Γ, S, G, _, _, e1, fun F1 ρ1 H1 l1 S1 => P F1 ρ1 H1 l1 S1⟩
  · cases e
where
  wipe_wipe (σ : St) : ∀ vs : List Nat, wipe (wipe σ vs) vs = wipe σ vs := fun vs => by
    have : ∀ us : List Nat, (∀ i ∈ us, i ∈ vs) → wipe (wipe σ us) vs = wipe σ vs := fun us => by
      induction us with
      | nil => intro _; rfl
      | cons u us ih =>
        intro h
        show wipe ((wipe σ us).set u none) vs = _
        rw [wipe_set (h u List.mem_cons_self), ih fun i m => h i (List.mem_cons_of_mem _ m)]
    exact this vs fun _ h => h
end
section
variable {X : Cx} {Y : Ctx} {elt tg iter : Expr} {ifs : List Expr} {scope : Scope} {own : List (Str × Nat)} {pos spos : Pos} {fi : Sem (List A)} {t : Tgt} {is : List Nat} {ft : Sem Bool} {fe : Sem A}
theorem z_lc (m : Bool) (hN : X.N.Nodup) (hi : PI X tg iter (lowI Y fi)) (ok : BlkOk X.N X.env.scope scope own)
    (hg : ∀ (s : Shared) (H : Hp) (C : Addr) (cl : List (Str × Addr)) (fp : List Addr) H0 F0 ρ0, PG (X.blk s H scope (compEnvC scope cl C X.env) fp) tg (lowG (YB Y.c H0 F0 ρ0) t is))
    (ht : ∀ (s : Shared) (H : Hp) (C : Addr) (cl : List (Str × Addr)) (fp : List Addr), PTs (X.blk s H scope (compEnvC scope cl C X.env) fp) ifs (exT Y.c ft))
    (he : ∀ (s : Shared) (H : Hp) (C : Addr) (cl : List (Str × Addr)) (fp : List Addr) H0 F0 ρ0, PE (X.blk s H scope (compEnvC scope cl C X.env) fp) elt (lowE (YB Y.c H0 F0 ρ0) fe))
    (hc : X.calm = true := by rfl) (his : ∀ i ∈ is, i ∈ own.map (·.2) := by decide) (hs : ∀ x, foldedSetIterable iter X.env x = pure x := by intro _; rfl) :
    PE X (.ListComp elt [⟨tg, iter, ifs, 0⟩] scope pos) (lowE Y (comp m (own.map (·.2)) fi t ft fe)) :=
  (pe_lc hc hN hi ok (fun s H C cl fp => PG.exG (hg s H C cl fp)) ht (fun s H C cl fp => PE.exE (he s H C cl fp)) hs).imp fun σ H Q h => lc_low his h
theorem z_setLc (m : Bool) (i : Nat) {y : Str} {py : Pos} (hN : X.N.Nodup) (hi : PI X tg iter (lowI Y fi)) (ok : BlkOk X.N X.env.scope scope own)
    (hg : ∀ (s : Shared) (H : Hp) (C : Addr) (cl : List (Str × Addr)) (fp : List Addr) H0 F0 ρ0, PG (X.blk s H scope (compEnvC scope cl C X.env) fp) tg (lowG (YB Y.c H0 F0 ρ0) t is))
    (ht : ∀ (s : Shared) (H : Hp) (C : Addr) (cl : List (Str × Addr)) (fp : List Addr), PTs (X.blk s H scope (compEnvC scope cl C X.env) fp) ifs (exT Y.c ft))
    (he : ∀ (s : Shared) (H : Hp) (C : Addr) (cl : List (Str × Addr)) (fp : List Addr) H0 F0 ρ0, PE (X.blk s H scope (compEnvC scope cl C X.env) fp) elt (lowE (YB Y.c H0 F0 ρ0) fe))
    (hsw : swapsWith (.ListComp elt [⟨tg, iter, ifs, 0⟩] scope pos) (some (.Name y py)) spos.line X.env = pure true)
    (hy : X.N[i]? = some y := by rfl) (hyl : X.env.scope.names.lookup y = some .local := by rfl) (hk : Y.keeps i = true := by rfl)
    (hc : X.calm = true := by rfl) (his : ∀ i ∈ is, i ∈ own.map (·.2) := by decide) (hs : ∀ x, foldedSetIterable iter X.env x = pure x := by intro _; rfl) :
    PS X (.Assign [.Name y py] (.ListComp elt [⟨tg, iter, ifs, 0⟩] scope pos) spos) (lowS Y (asg (comp m (own.map (·.2)) fi t ft fe) (tN i))) :=
  (ps_setLc hc hN hy hyl hsw hi ok (fun s H C cl fp => PG.exG (hg s H C cl fp)) ht (fun s H C cl fp => PE.exE (he s H C cl fp)) hs).imp fun D σ H h => lc_low his (seqS_E h fun F ρ μ Γ H x v o μ' hI S G hx e P => by
    cases e
    exact P F ρ H (Le.refl _ _) S _ (Ctx.I_set hk hI) (paired_set (show Ro Y.c F ρ (some x) (some v) from hx) i G))
where
  seqS_E {σ : St} {H : Hp} {E : Ends} {f : Sem A} {k : A → SemS} {R1 : V → Hp → Prop} (h : lowS Y (eS f k) E σ H)
    (hk : ∀ F ρ μ Γ H x v o μ', Y.I σ → Sta Y F ρ μ H → Rg Y.c F ρ Γ σ → Ra Y.c F ρ x v → k x Γ μ = some (o, μ') → PostS Y F ρ o μ' E → R1 v H) : lowE Y f σ H R1 := seqS h hk
end
end ZL

/-! Layer Z, part G: defs and their calls. -/
namespace ZL
open PySem PySem.Spec PyProof.Rows L2

abbrev SemF := List A → Store → Option (R A × Store)
def fnS (np n : Nat) (body : SemS) : SemF := fun as μ => if as.length = np then (match body (as.map some ++ List.replicate (n - np) none) μ with
  | some (.nx _, μ') => some (.ok (.d .none), μ')
  | some (.rt x, μ') => some (.ok x, μ')
  | some (.ex _ k fs, μ') => some (.exc k fs, μ')
  | _ => none) else none
def PostF (c : Cf) (H F : Hp) (ρ : List Addr) (r : R A) (μ' : Store) (Q : VK) (E : XK) : Prop := ∀ F' ρ' H', Sta (YB c H F ρ) F' ρ' μ' H' → match r with
  | .ok x => ∀ v, Ra c F' ρ' x v → Q v H'
  | .exc n fs => ∀ dd vs, F' dd = some (.xd vs) → Rf (fun x v => Dp c.K F' v x) fs vs → E (.ref (c.ε n)) (some dd) H'
/-- the promise: what comes back is what sem says -/
def FnZ (c : Cf) (sem : SemF) : Sp := fun vs H Q E => ∃ F ρ μ as, Sta (YB c H F ρ) F ρ μ H ∧ Ras c F ρ as vs ∧ ∃ r μ', sem as μ = some (r, μ') ∧ PostF c H F ρ r μ' Q E
section
variable {c : Cf} {Y : Ctx} {F F' : Hp} {ρ ρ' : List Addr} {μ μ' : Store} {H H' : Hp}
theorem Sta.toW {H0 F0 : Hp} {ρ0 : List Addr} {ex : Option (Nat × Addr)} {W : WX} (S : Sta (YB c H0 F0 ρ0) F ρ μ H) : Sta ⟨c, H0, F0, ρ0, ex, W⟩ F ρ μ H := ⟨S.sub, S.len, S.nd, S.cells, S.fr, S.fz, S.al, S.le, S.new, S.liv⟩
theorem Sta.unW {H0 F0 : Hp} {ρ0 : List Addr} {ex : Option (Nat × Addr)} {W : WX} (S : Sta ⟨c, H0, F0, ρ0, ex, W⟩ F ρ μ H) : Sta (YB c H0 F0 ρ0) F ρ μ H := ⟨S.sub, S.len, S.nd, S.cells, S.fr, S.fz, S.al, S.le, S.new, S.liv⟩
theorem Sta.empty (s : Same F H) : Sta (YB c H F []) F [] [] H :=
  ⟨s, rfl, List.nodup_nil, fun i a x e => by simp at e, fun _ _ e _ => e, fun _ _ _ => rfl, fun _ h => h, Le.refl _ _, fun i a l e => by simp at e, fun a m => by simp at m⟩
theorem Sta.grow (S : Sta Y F ρ μ H) (s : Same H H') : Sta Y F ρ μ H' := by
  have nn : ∀ a, H a ≠ none → H' a = H a := fun a n => by
    cases q : H a with
    | none => exact absurd q n
    | some o => exact s a o q
  refine ⟨S.sub.trans s, S.len, S.nd, fun i a x e1 e2 => (S.cells i a x e1 e2).mono (Le.refl _ _) rfl (nn a (S.liv a (List.mem_of_getElem? e2))), fun a o e n => s _ _ (S.fr a o e n), S.fz, fun a n => by rw [nn a (S.al a n)]; exact S.al a n, S.le, S.new, fun a m => by rw [nn a (S.liv a m)]; exact S.liv a m⟩
/-- behind a call that was lent nothing -/
theorem Sta.afterP (S : Sta Y F ρ μ H) (S' : Sta (YB Y.c H F []) F' ρ' μ' H') : Sta Y F' ρ μ H' ∧ Le F ρ F' ρ := by
  have s : Same H H' := fun a o e => S'.fr a o e (by simp)
  have nn : ∀ a, H a ≠ none → H' a = H a := fun a n => by
    cases q : H a with
    | none => exact absurd q n
    | some o => exact s a o q
  have ff : ∀ a, H a ≠ none → F' a = F a := fun a n => S'.fz a n (by simp)
  have le : Le F ρ F' ρ := Le.same S'.le.sub
  exact ⟨⟨S'.sub, S.len, S.nd, fun i a x e1 e2 => (S.cells i a x e1 e2).mono le (ff a (S.liv a (List.mem_of_getElem? e2))) (nn a (S.liv a (List.mem_of_getElem? e2))), fun a o e n => s _ _ (S.fr a o e n), fun a n m => (ff a (S.al a n)).trans (S.fz a n m),
    fun a n => by rw [nn a (S.al a n)]; exact S.al a n, S.le.trans le, S.new, fun a m => by rw [nn a (S.liv a m)]; exact S.liv a m⟩, le⟩
def shA (k : Nat) : A → A
  | .ref i => .ref (k + i)
  | x => x
def shC (k : Nat) : Cell → Cell
  | .lst xs => .lst (xs.map (shA k))
  | .dK kvs => .dK (kvs.map fun p => (p.1, shA k p.2))
  | .dT kvs => .dT (kvs.map fun p => (p.1, shA k p.2))
  | .ins C fs => .ins C (fs.map fun p => (p.1, shA k p.2))
  | .dead => .dead
theorem ra_sh {x : A} {v : V} {k : Nat} (hk : ρ.length = k) (h : Ra c F ρ' x v) : Ra c F (ρ ++ ρ') (shA k x) v := by
  cases x with
  | d x => exact h
  | ref i =>
    obtain ⟨a, h1, h2⟩ := h
    refine ⟨a, ?_, h2⟩
    rw [List.getElem?_append_right (by omega)]
    rw [show k + i - ρ.length = i by omega]
    exact h1
  | exn => trivial
theorem rf_sh {κ : Type} {xs : List (κ × A)} {vs : List (κ × V)} {k : Nat} (hk : ρ.length = k) (h : Rf (Ra c F ρ') xs vs) : Rf (Ra c F (ρ ++ ρ')) (xs.map fun p => (p.1, shA k p.2)) vs :=
  paired_map (fun a b z => ⟨z.1, ra_sh hk z.2⟩) h
theorem cell_sh {x : Cell} {a : Addr} {k : Nat} (hk : ρ.length = k) (h : CellOk c F ρ' H a x) : CellOk c F (ρ ++ ρ') H a (shC k x) := by
  cases x with
  | lst xs => obtain ⟨f, vs, h1, h2⟩ := h; exact ⟨f, vs, paired_map (fun a b z => ra_sh hk z) h1, h2⟩
  | dK xs => obtain ⟨f, vs, h1, h2⟩ := h; exact ⟨f, vs, rf_sh hk h1, h2⟩
  | dT xs => obtain ⟨f, vs, h1, h2⟩ := h; exact ⟨f, vs, rf_sh hk h1, h2⟩
  | ins C xs => obtain ⟨f, dx, vs, h1, h2⟩ := h; exact ⟨f, dx, vs, rf_sh hk h1, h2⟩
  | dead => trivial
theorem Sta.afterN (S : Sta Y F ρ μ H) (S' : Sta (YB Y.c H F []) F' ρ' μ' H') : Sta Y F' (ρ ++ ρ') (μ ++ μ'.map (shC μ.length)) H' ∧ Le F ρ F' (ρ ++ ρ') := by
  obtain ⟨S1, l1⟩ := S.afterP S'
  have hl : ρ.length = μ.length := S.len
  have le : Le F ρ F' (ρ ++ ρ') := ⟨l1.sub, ρ', rfl⟩
  have l2 : Le F' ρ F' (ρ ++ ρ') := ⟨Same.refl _, ρ', rfl⟩
  refine ⟨⟨S1.sub, by simp [S.len, S'.len], ?_, fun i a x e1 e2 => ?_, S1.fr, S1.fz, S1.al, S.le.trans le, fun i a l e => ?_, fun a m => ?_⟩, le⟩
  · rw [List.nodup_append]
    refine ⟨S.nd, S'.nd, fun a ha b hb z => ?_⟩
    subst z
    obtain ⟨i, ei⟩ := List.getElem?_of_mem hb
    exact S.liv a ha (S'.new i a (Nat.zero_le _) ei)
  · by_cases hi : i < μ.length
    · rw [List.getElem?_append_left hi] at e1
      rw [List.getElem?_append_left (by omega)] at e2
      exact (S1.cells i a x e1 e2).mono l2 rfl rfl
    · rw [List.getElem?_append_right (by omega)] at e1
      rw [List.getElem?_append_right (by omega)] at e2
      rw [List.getElem?_map] at e1
      cases q : μ'[i - μ.length]? with
      | none => rw [q] at e1; cases e1
      | some y =>
        rw [q] at e1
        cases e1
        exact cell_sh hl (S'.cells (i - μ.length) a y q (by rw [← hl]; exact e2))
  · by_cases hi : i < ρ.length
    · rw [List.getElem?_append_left hi] at e; exact S.new i a l e
    · rw [List.getElem?_append_right (by omega)] at e
      have h1 : H a = none := S'.new (i - ρ.length) a (Nat.zero_le _) e
      cases q : Y.H0 a with
      | none => rfl
      | some u => exact absurd h1 (S.al a (by rw [q]; simp))
  · rcases List.mem_append.mp m with m | m
    · exact S1.liv a m
    · exact S'.liv a m
/-! cut back to the lent cells -/
def blA (n : Nat) : A → Bool
  | .ref i => decide (i < n)
  | _ => true
def blC (n : Nat) : Cell → Bool
  | .lst xs => xs.all (blA n)
  | .dK kvs => kvs.all fun p => blA n p.2
  | .dT kvs => kvs.all fun p => blA n p.2
  | .ins _ fs => fs.all fun p => blA n p.2
  | .dead => true
theorem ra_cut {r : List Addr} {x : A} {v : V} (hb : blA ρ.length x = true) (h : Ra c F (ρ ++ r) x v) : Ra c F ρ x v := by
  cases x with
  | d x => exact h
  | ref i =>
    obtain ⟨a, h1, h2⟩ := h
    exact ⟨a, by rw [List.getElem?_append_left (of_decide_eq_true hb)] at h1; exact h1, h2⟩
  | exn => trivial
theorem paired_cut {α β : Type} {r r' : α → β → Prop} {p : α → Bool} (m : ∀ a b, p a = true → r a b → r' a b) : ∀ {xs : List α} {ys : List β}, xs.all p = true → Paired r xs ys → Paired r' xs ys
  | _, _, _, .nil => .nil
  | _, _, hp, .cons h t => by
    rw [List.all_cons, Bool.and_eq_true] at hp
    exact .cons (m _ _ hp.1 h) (paired_cut m hp.2 t)
theorem cell_cut {r : List Addr} {x : Cell} {a : Addr} (hb : blC ρ.length x = true) (h : CellOk c F (ρ ++ r) H a x) : CellOk c F ρ H a x := by
  cases x with
  | lst xs => obtain ⟨f, vs, h1, h2⟩ := h; exact ⟨f, vs, paired_cut (p := blA ρ.length) (fun a b p z => ra_cut p z) (by simpa only [blC] using hb) h1, h2⟩
  | dK xs => obtain ⟨f, vs, h1, h2⟩ := h; exact ⟨f, vs, paired_cut (p := fun (q : Key × A) => blA ρ.length q.2) (fun a b p z => ⟨z.1, ra_cut p z.2⟩) (by simpa only [blC] using hb) h1, h2⟩
  | dT xs => obtain ⟨f, vs, h1, h2⟩ := h; exact ⟨f, vs, paired_cut (p := fun (q : List Key × A) => blA ρ.length q.2) (fun a b p z => ⟨z.1, ra_cut p z.2⟩) (by simpa only [blC] using hb) h1, h2⟩
  | ins C xs => obtain ⟨f, dx, vs, h1, h2⟩ := h; exact ⟨f, dx, vs, paired_cut (p := fun (q : Str × A) => blA ρ.length q.2) (fun a b p z => ⟨z.1, ra_cut p z.2⟩) (by simpa only [blC] using hb) h1, h2⟩
  | dead => trivial
theorem Sta.cut (S : Sta Y F' ρ' μ' H') (l : Le F ρ F' ρ') (l0 : Le Y.F0 Y.ρ0 F ρ) (hb : (μ'.take ρ.length).all (blC ρ.length) = true) : Sta Y F' ρ (μ'.take ρ.length) H' ∧ Le F ρ F' ρ := by
  obtain ⟨r, e⟩ := l.pre
  subst e
  have hlen : ρ.length ≤ μ'.length := by have := S.len; simp at this; omega
  have le : Le F ρ F' ρ := Le.same l.sub
  refine ⟨⟨S.sub, by simp; omega, (List.nodup_append.mp S.nd).1, fun i a x e1 e2 => ?_, S.fr, S.fz, S.al, l0.trans le, fun i a l e => ?_, fun a m => S.liv a (List.mem_append_left _ m)⟩, le⟩
  · have hi := (List.getElem?_eq_some_iff.mp e2).1
    have hx := List.all_eq_true.mp hb x (List.mem_of_getElem? e1)
    rw [List.getElem?_take, if_pos hi] at e1
    exact cell_cut hx (S.cells i a x e1 (by rw [List.getElem?_append_left hi]; exact e2))
  · exact S.new i a l (by rw [List.getElem?_append_left (List.getElem?_eq_some_iff.mp e).1]; exact e)
end

/-! ### calls -/
def callP (sem : SemF) (as : List A) : Sem A := fun _ μ => match allD as with
  | none => none
  | some _ => match sem as [] with
    | some (.ok (.d x), _) => some (.ok (.d x), μ)
    | some (.ok (.ref i), μ') => some (.ok (.ref (μ.length + i)), μ ++ μ'.map (shC μ.length))
    | some (.exc n fs, _) => some (.exc n fs, μ)
    | _ => none
def callL (sem : SemF) (as : List A) : Sem A := fun _ μ => match sem as μ with
  | some (.ok x, μ') => if blA μ.length x && (μ'.take μ.length).all (blC μ.length) then some (.ok x, μ'.take μ.length) else some (.ok x, μ')
  | some (.exc n fs, μ') => some (.exc n fs, μ')
  | none => none
def rds (μ : Store) : List A → Option (List D)
  | [] => some []
  | x :: xs => match rd μ x, rds μ xs with
    | some d, some ds => some (d :: ds)
    | _, _ => none
def callB (sem : SemF) (as : List A) : Sem A := fun _ μ => match rds μ as with
  | none => none
  | some ds => match sem (ds.map .d) [] with
    | some (.ok (.d x), _) => if flatD x then some (.ok (.d x), μ) else none
    | _ => none
inductive Mode where | P | L | B
def callM (m : Mode) (sem : SemF) (as : List A) : Sem A := match m with
  | .P => callP sem as
  | .L => callL sem as
  | .B => callB sem as
def call0 (m : Mode) (sem : SemF) : Sem A := fun Γ μ => match callM m sem [] Γ μ with
  | some (.ok x, μ') => some (.ok x, μ')
  | _ => none
def callE (m : Mode) (sem : SemF) (fa : Sem (List A)) : Sem A := sb fa (callM m sem)
theorem ras_d {c : Cf} {F : Hp} {ρ ρ' : List Addr} {ds : List D} {vs : List V} (h : Ras c F ρ (ds.map .d) vs) : Ras c F ρ' (ds.map .d) vs := dpa_ras (ras_dpa h)
theorem flat_same {K : PySem.W.Frag} {F F' : Hp} {x : D} {v : V} (f : flatD x = true) (h : Dp K F v x) : Dp K F' v x := by
  cases h
  · exact .non
  · exact .bl _
  · exact .int _
  · exact .str _
  · cases f
  · cases f
section
variable {X : Cx} {Y : Ctx} {F : Hp} {ρ : List Addr} {μ μ' : Store} {H : Hp} {σ : St} {Γ : Gam} {r : R A} {Q : VK}
theorem rds_dq (S : Sta Y F ρ μ H) : ∀ {as : List A} {vs : List V} {ds : List D}, Ras Y.c F ρ as vs → rds μ as = some ds → DpAll Y.c.K H vs ds
  | [], _, _, h, e => by cases h; cases e; exact .nil
  | x :: xs, _, _, h, e => by
    cases h with
    | cons h1 h2 =>
      simp only [rds] at e
      split at e
      · rename_i d ds e1 e2
        cases e
        exact .cons (dp_of S.sub (S.rd h1 e1)) (rds_dq S h2 e2)
      · cases e
/-- the promise from the state of the caller -/
theorem callM_ok {m : Mode} {sem : SemF} {as : List A} {vs : List V} {E : XK} (S : Sta Y F ρ μ H) (hv : Ras Y.c F ρ as vs) (e : callM m sem as Γ μ = some (r, μ')) (P : Post Y (relA Y) σ F ρ r μ' Q)
    (hE : ∀ n fs F' ρ' H' dd vs, r = .exc n fs → Le F ρ F' ρ' → Sta Y F' ρ' μ' H' → F' dd = some (.xd vs) → Rf (fun x v => Dp Y.c.K F' v x) fs vs → E (.ref (Y.c.ε n)) (some dd) H') : FnZ Y.c sem vs H Q E := by
  cases m with
  | P =>
    simp only [callM, callP] at e
    split at e
    · cases e
    · rename_i ds ed
      have := allD_eq ed
      subst this
      split at e
      · rename_i x μ2 e2
        cases e
        refine ⟨F, [], [], _, Sta.empty S.sub, ras_d hv, _, _, e2, fun F' ρ' H' S' v hx => ?_⟩
        obtain ⟨S1, l⟩ := S.afterP S'
        exact P _ _ _ l S1 v hx
      · rename_i i μ2 e2
        cases e
        refine ⟨F, [], [], _, Sta.empty S.sub, ras_d hv, _, _, e2, fun F' ρ' H' S' v hx => ?_⟩
        obtain ⟨S1, l⟩ := S.afterN S'
        exact P _ _ _ l S1 v (ra_sh (x := .ref i) S.len hx)
      · rename_i n fs μ2 e2
        cases e
        refine ⟨F, [], [], _, Sta.empty S.sub, ras_d hv, _, _, e2, fun F' ρ' H' S' dd ws hd hf => ?_⟩
        obtain ⟨S1, l⟩ := S.afterP S'
        exact hE n fs F' ρ H' dd ws rfl l S1 hd hf
      · cases e
  | L =>
    simp only [callM, callL] at e
    split at e
    · rename_i x μ2 e2
      refine ⟨F, ρ, μ, as, S.base none WF, hv, _, _, e2, fun F' ρ' H' S' v hx => ?_⟩
      have S1 := S.lift S'
      have l : Le F ρ F' ρ' := S'.le
      split at e
      · rename_i hb
        rw [Bool.and_eq_true] at hb
        cases e
        rw [← S.len] at P hb
        obtain ⟨S2, l2⟩ := S1.cut l S.le hb.2
        obtain ⟨q, eq⟩ := l.pre
        subst eq
        exact P _ _ _ l2 S2 v (ra_cut hb.1 hx)
      · cases e
        exact P _ _ _ l S1 v hx
    · rename_i n fs μ2 e2
      cases e
      refine ⟨F, ρ, μ, as, S.base none WF, hv, _, _, e2, fun F' ρ' H' S' dd ws hd hf => ?_⟩
      exact hE n fs F' ρ' H' dd ws rfl S'.le (S.lift S') hd hf
    · cases e
  | B =>
    simp only [callM, callB] at e
    split at e
    · cases e
    · rename_i ds ed
      split at e
      · rename_i x μ2 e2
        split at e
        · rename_i hf
          cases e
          refine ⟨H, [], [], _, Sta.empty (Same.refl H), dpa_ras (rds_dq S hv ed), _, _, e2, fun F' ρ' H' S' v hx => ?_⟩
          exact P F ρ H' (Le.refl _ _) (S.grow fun a o e => S'.fr a o e (by simp)) v (flat_same hf hx)
        · cases e
      · cases e
variable {k : Nat} {f : Addr} {fd : FuncData} {ps : List Str} {x : Str} {p pos : Pos} {e : Expr} {es : List Expr} {fa : Sem (List A)} {sem : SemF}
theorem z_call (m : Mode) (Fn : FnOk X.prog X.w X.K X.mg X.base (L2.CX X.prog X.w) k f fd ps (FnZ Y.c sem)) (hr : Room k X.A) (hm : X.mg x = some (.ref f)) (hk : PySem.W.keepIn X.K (.ref f) = true) (hb : Binds X.K fd ps []) (tk : Takes X Y.W)
    (ha : PA X (e :: es) (lowA Y fa)) (hg : Gl X x := by rfl) (hdb : (x == ("__debug__" : Str)) = false := by decide) (he : starEach (e :: es) X.env = (false, eval e X.env) :: starEach es X.env := by rfl) (hpl : (backTo pos (starEach es X.env)).any (·.1) = false := by rfl) :
    PE X (.Call (.Name x p) (e :: es) [] pos) (lowE Y (callE m sem fa)) :=
  (pe_callS Fn hr hg hm hk hb (fun σ => passAt tk σ) ha hdb he hpl).imp fun σ H Q h => seq1 h fun F ρ μ Γ H x v r μ' hI S G hx e P => by
    refine callM_ok S hx e P fun n fs F' ρ' H' dd ws er l S1 hd hf => ?_
    subst er
    exact P F' ρ' H' l S1 dd ws hd hf
theorem z_call0 (m : Mode) (Fn : FnOk X.prog X.w X.K X.mg X.base (L2.CX X.prog X.w) k f fd ps (FnZ Y.c sem)) (hr : Room k X.A) (hm : X.mg x = some (.ref f)) (hk : PySem.W.keepIn X.K (.ref f) = true) (hb : Binds X.K fd ps [])
    (hg : Gl X x := by rfl) (hdb : (x == ("__debug__" : Str)) = false := by decide) : PE X (.Call (.Name x p) [] [] pos) (lowE Y (call0 m sem)) := by
  refine (pe_call0 Fn hr hg hm hk hb .nil passL hdb).imp fun σ H Q h => ?_
  obtain ⟨hI, F, ρ, μ, Γ, S, G, r, μ', e, P⟩ := h
  unfold call0 at e
  split at e
  · rename_i x μ1 e1
    cases e
    exact callM_ok S .nil e1 P fun n fs F' ρ' H' dd ws er => by cases er
  · cases e
end
/-! ### a def by its body -/
section
variable {P : Program} {w : World} {K : PySem.W.Frag} {mg : Str → Option Value} {base : Heap} {ε : String → Addr}
theorem z_fn {x qual : Str} {st : Stmt} {f : Addr} {fd : FuncData} {N ps : List Str} {k : Nat} {body : SemS} (F : Fun K x qual st f fd) (S : FnScope N ps (defScope st))
    (hbody : ∀ (cdv : Value) (A : Around) (outer : List Env) (s : Shared) (H : Hp) (E : XK) (F0 : Hp) (ρ0 : List Addr), Room k (A.deeper (envOfC qual (defScope st) s.heap.objs.size f cdv)) →
      PSs (cxOf (L2.CX P w) P w K mg base N qual (defScope st) f cdv A outer s H E) (defBody st) (lowS ⟨⟨K, ε⟩, H, F0, ρ0, none, fun cls d _ H => E cls d H⟩ body)) :
    FnOk P w K mg base (L2.CX P w) (k + 1) f fd ps (FnZ ⟨K, ε⟩ (fnS ps.length N.length body)) := by
  refine F.okX S (fun vs H Q E h => ?_) fun cdv A outer s H vs Q E hr h => ?_
  · obtain ⟨F0, ρ0, μ, as, S, hv, r, μ', e, P⟩ := h
    unfold fnS at e
    split at e
    · rename_i hl
      rw [← paired_len hv, hl]
    · cases e
  · obtain ⟨F0, ρ0, μ, as, S0, hv, r, μ', e, P⟩ := h
    refine ⟨_, hbody cdv A outer s H E F0 ρ0 hr, (fun _ _ e => by cases e), F0, ρ0, μ, as.map some ++ List.replicate (N.length - ps.length) none, S0.toW, ?_, ?_⟩
    · have hlen : vs.length = as.length := (paired_len hv).symm
      unfold fnS at e
      split at e
      · rename_i hl
        unfold L2.start
        rw [hlen, hl]
        exact paired_app (paired_map2 (r' := Ro ⟨K, ε⟩ F0 ρ0) (f := some) (g := some) (fun a b z => z) hv) (paired_rep (show Ro _ _ _ none none from trivial) _)
      · cases e
    · unfold fnS at e
      split at e
      · split at e
        · rename_i Γ μ2 e2
          cases e
          exact ⟨_, _, e2, fun F' ρ' H' l S' σ _ _ => P F' ρ' H' S'.unW .non Dp.non⟩
        · rename_i y μ2 e2
          cases e
          exact ⟨_, _, e2, fun F' ρ' H' l S' v hv => P F' ρ' H' S'.unW v hv⟩
        · rename_i Γ n fs μ2 e2
          cases e
          exact ⟨_, _, e2, fun F' ρ' H' l S' σ dd ws _ _ hd hf => P F' ρ' H' S'.unW dd ws hd hf⟩
        · cases e
      · cases e
end
end ZL

/-! Layer Z, part H: built-ins. -/
namespace ZL
open PySem PySem.Spec PyProof.Rows L2

/-! ### isinstance -/
def tyD : D → String
  | .none => "NoneType"
  | .bool _ => "bool"
  | .int _ => "int"
  | .str _ => "str"
  | .list _ => "list"
  | .tuple _ => "tuple"
  | .dict _ => "dict"
def tyA (μ : Store) : A → Option String
  | .d x => some (tyD x)
  | .ref i => match μ[i]? with
    | some (.lst _) => some "list"
    | some (.dK _) => some "dict"
    | some (.dT _) => some "dict"
    | _ => none
  | .exn => none
def isTy (t T : String) : Bool := t == T || (t == "bool" && T == "int")
def okTy (T : String) : Bool := T == "int" || T == "bool" || T == "str" || T == "list" || T == "tuple" || T == "dict"
def okTs (t : String) : Bool := t == "NoneType" || t == "bool" || t == "int" || t == "str" || t == "list" || t == "tuple" || t == "dict"
theorem kit_is {t T : String} (h1 : okTs t = true) (h2 : okTy T = true) {K : PySem.W.Frag} : PySem.W.kitOne K (.type t) (.type T) = some (isTy t T) := by
  have all : ∀ t ∈ ["NoneType", "bool", "int", "str", "list", "tuple", "dict"], ∀ T ∈ ["int", "bool", "str", "list", "tuple", "dict"], kitB t T = some (isTy t T) := by decide +kernel
  refine kit_ty (all t ?_ T ?_)
  · simp [okTs] at h1 ⊢; rcases h1 with ((((((h|h)|h)|h)|h)|h)|h) <;> simp [h]
  · simp [okTy] at h2 ⊢; rcases h2 with (((((h|h)|h)|h)|h)|h) <;> simp [h]
theorem okTs_D (x : D) : okTs (tyD x) = true := by cases x <;> simp [tyD, okTs]
theorem kitAny_is {t : String} {K : PySem.W.Frag} (h1 : okTs t = true) : ∀ {Ts : List String}, Ts.all okTy = true → PySem.W.kitAny K (.type t) (Ts.map .type) = some (Ts.any (isTy t))
  | [], _ => kitAny_nil
  | T :: Ts, h => by
    rw [List.all_cons, Bool.and_eq_true] at h
    rw [List.map_cons, List.any_cons]
    refine kitAny_cons (kit_is h1 h.1) (fun hb => ?_) (fun hb => by rw [hb]; rfl)
    rw [hb, Bool.false_or]
    exact kitAny_is h1 h.2
theorem sql_ty {K : PySem.W.Frag} {H : Hp} {a : Addr} {vs : List V} (h : SqL K H a vs) : TyX K H (.ref a) (.type "list") := by
  rcases h with (h | ⟨o, h⟩) | ⟨o, its, n, h, hc, _⟩
  · exact .base (.lst h)
  · exact .base (.frz h)
  · exact .kList h hc
theorem sqt_ty {K : PySem.W.Frag} {H : Hp} {a : Addr} {vs : List V} (h : SqT K H a vs) : TyX K H (.ref a) (.type "tuple") := by
  rcases h with (h | ⟨o, h⟩) | ⟨o, its, n, h, hc, _⟩
  · exact .base (.tup h)
  · exact .fTuple h
  · exact .kTuple h hc
theorem dq_ty {K : PySem.W.Frag} {F H : Hp} (s : Same F H) : ∀ {x : D} {v : V}, Dq K F H v x → TyX K H v (.type (tyD x))
  | .none, _, h => by cases h; exact .base .non
  | .bool _, _, h => by cases h; exact .base (.bl _)
  | .int _, _, h => by cases h; exact .base (.int _)
  | .str _, _, h => by cases h; exact .base (.str _)
  | .list _, _, ⟨_, _, e, h, _⟩ => by subst e; exact sql_ty h
  | .tuple _, _, ⟨_, _, e, h, _⟩ => by subst e; exact sqt_ty (sqT_mono s h)
  | .dict _, _, h => h.elim
section
variable {Y : Ctx} {F : Hp} {ρ : List Addr} {μ : Store} {H : Hp}
theorem tyA_ok (S : Sta Y F ρ μ H) {x : A} {v : V} {t : String} (h : Ra Y.c F ρ x v) (e : tyA μ x = some t) : TyX Y.c.K H v (.type t) ∧ okTs t = true := by
  cases x with
  | d x => cases e; exact ⟨dq_ty S.sub (dq_of S.sub h), okTs_D x⟩
  | ref i =>
    simp only [tyA] at e
    split at e
    · rename_i xs ex
      cases e
      obtain ⟨a, rfl, h1, f, vs, h2, h3⟩ := S.at h ex
      exact ⟨.base (.lst h3), by decide⟩
    · rename_i xs ex
      cases e
      obtain ⟨a, rfl, h1, f, vs, h2, h3⟩ := S.at h ex
      exact ⟨.base (.dK h3), by decide⟩
    · rename_i xs ex
      cases e
      obtain ⟨a, rfl, h1, f, vs, h2, h3⟩ := S.at h ex
      exact ⟨.base (.dT h3), by decide⟩
    · cases e
  | exn => cases e
end
def isE (Ts : List String) (fa : Sem A) : Sem A := sb fa fun x _ μ => match tyA μ x with
  | some t => some (.ok (.d (.bool (Ts.any (isTy t)))), μ)
  | none => none
section
variable {X : Cx} {Y : Ctx} {pos p p1 : Pos} {a b c : Expr} {fa fb : Sem A}
theorem pe_ty {T : Str} {n : String} (hm : X.mg T = none) (hv : bootBuiltins T = some (.type n)) (hg : Gl X T := by rfl) (hn : T ≠ "__name__" := by decide) (hd : (T == ("__debug__" : Str)) = false := by decide) : PE X (.Name T p1) (tC (.ty n)) :=
  pe_bltn hg hm hv rfl hn hd
theorem z_is1 {T : Str} {n : String} (hK : Y.c.K = X.K := by rfl) (hi : X.mg "isinstance" = none) (ha : PE X a (lowE Y fa)) (hb : PE X (.Name T p1) (tC (.ty n))) (ok : okTy n = true := by decide) (hg : Gl X "isinstance" := by rfl)
    (hs : starEach [a, .Name T p1] X.env = (false, eval a X.env) :: starEach [.Name T p1] X.env := by rfl) (hs2 : starEach [.Name T p1] X.env = (false, eval (.Name T p1) X.env) :: starEach [] X.env := by rfl)
    (hpl : (backTo pos (starEach [.Name T p1] X.env)).any (·.1) = false := by rfl) :
    PE X (.Call (.Name "isinstance" p) [a, .Name T p1] [] pos) (lowE Y (isE [n] fa)) :=
  (pe_callB call_isi hg hi (by decide +kernel) (pa_cons ha (pa_cons hb pa_nil hs2) hs) (by decide) (by decide) hs hpl).imp fun σ H Q h => seq1 h fun F ρ μ Γ H x v r μ' hI S G hx e P => by
    split at e
    · rename_i t et
      cases e
      obtain ⟨h1, h2⟩ := tyA_ok S hx et
      exact ⟨v, .ty n, .type t, .type n, _, rfl, .ty n, hK ▸ h1, kit_is h2 ok, by simpa using P.val S (.bl _)⟩
    · cases e
theorem z_is2 {T T' : Str} {n n' : String} {p2 p3 : Pos} {k : Nat} (hK : Y.c.K = X.K := by rfl) (hi : X.mg "isinstance" = none) (ha : PE X a (lowE Y fa)) (hb : PE X (.Name T p1) (tC (.ty n))) (hb' : PE X (.Name T' p2) (tC (.ty n'))) (ok : okTy n = true := by decide) (ok' : okTy n' = true := by decide) (hg : Gl X "isinstance" := by rfl)
    (hs : starEach [a, .Tuple [.Name T p1, .Name T' p2] k p3] X.env = (false, eval a X.env) :: starEach [.Tuple [.Name T p1, .Name T' p2] k p3] X.env := by rfl) (hs2 : starEach [.Tuple [.Name T p1, .Name T' p2] k p3] X.env = (false, eval (.Tuple [.Name T p1, .Name T' p2] k p3) X.env) :: starEach [] X.env := by rfl)
    (hs3 : starEach [.Name T p1, .Name T' p2] X.env = (false, eval (.Name T p1) X.env) :: starEach [.Name T' p2] X.env := by rfl) (hs4 : starEach [.Name T' p2] X.env = (false, eval (.Name T' p2) X.env) :: starEach [] X.env := by rfl)
    (hpl : (backTo pos (starEach [.Tuple [.Name T p1, .Name T' p2] k p3] X.env)).any (·.1) = false := by rfl) :
    PE X (.Call (.Name "isinstance" p) [a, .Tuple [.Name T p1, .Name T' p2] k p3] [] pos) (lowE Y (isE [n, n'] fa)) :=
  (pe_callB call_isiT hg hi (by decide +kernel) (pa_cons ha (pa_cons (pe_tup (pa_cons hb (pa_cons hb' pa_nil hs4) hs3)) pa_nil hs2) hs) (by decide) (by decide) hs hpl).imp fun σ H Q h => seq1 h fun F ρ μ Γ H x v r μ' hI S G hx e P => by
    split at e
    · rename_i t et
      cases e
      refine ⟨by show 2 ≤ sizeLine; decide, fun q hq => ?_⟩
      obtain ⟨h1, h2⟩ := tyA_ok (S.junk hq (.tup [.ty n, .ty n'])) hx et
      refine ⟨v, q, _, .type t, [.type n, .type n'], _, rfl, upd_same, .cons (.ty n) (.cons (.ty n') .nil), hK ▸ h1, kitAny_is (Ts := [n, n']) h2 (by simp [ok, ok']), P.val (S.junk hq _) (.bl _)⟩
    · cases e

/-! ### len, int, tuple, list, max, min, abs, all, any, sum -/
def lenD : D → Option Int
  | .str z => if z.length ≤ 1000000 then some z.length else none
  | .list ds => some ds.length
  | .tuple ds => some ds.length
  | _ => none
def lenK (x : A) (μ : Store) : Option Int := match x with
  | .ref i => match μ[i]? with
    | some (.lst xs) => some xs.length
    | _ => none
  | .d z => lenD z
  | .exn => none
def lenE (fa : Sem A) : Sem A := sb fa fun x _ μ => match lenK x μ with
  | some n => some (.ok (.d (.int n)), μ)
  | none => none
theorem lenK_ok {F ρ μ H x v n} (S : Sta Y F ρ μ H) (h : Ra Y.c F ρ x v) (e : lenK x μ = some n) : ∃ k : Nat, n = (k : Int) ∧ LenV Y.c.K v H k := by
  unfold lenK at e
  split at e
  · split at e
    · rename_i xs ex
      cases e
      obtain ⟨a, rfl, h1, f, vs, h2, h3⟩ := S.at h ex
      exact ⟨_, rfl, .inl ⟨vs, SqL.of h3, paired_len h2⟩⟩
    · cases e
  · rename_i z
    have hq := dq_of S.sub h
    cases z with
    | str z =>
      simp only [lenD] at e
      split at e
      · rename_i hz
        cases e; cases hq
        exact ⟨_, rfl, sz hz, rfl⟩
      · cases e
    | list ds => cases e; obtain ⟨a, vs, rfl, h1, h2⟩ := hq; exact ⟨_, rfl, .inl ⟨vs, h1, (dpa_len h2).symm⟩⟩
    | tuple ds => cases e; obtain ⟨a, vs, rfl, h1, h2⟩ := hq; exact ⟨_, rfl, .inr ⟨vs, sqT_mono S.sub h1, (dpa_len h2).symm⟩⟩
    | none => cases e
    | bool _ => cases e
    | int _ => cases e
    | dict _ => cases e
  · cases e
/-- a built-in function, a built-in type of one argument -/
theorem z_b1 {x : Str} {id : String} {r : List V → Hp → VK → Prop} {k : A → Sem A} (hc : CallR X (.builtin id) r) (hm : X.mg x = none) (hv : bootBuiltins x = some (.builtin id)) (ha : PE X a (lowE Y fa))
    (hk : ∀ F ρ μ Γ H σ x v r' μ' (Q : VK), Sta Y F ρ μ H → Ra Y.c F ρ x v → k x Γ μ = some (r', μ') → Post Y (relA Y) σ F ρ r' μ' Q → r [v] H Q)
    (hg : Gl X x := by rfl) (hn : x ≠ "__name__" := by decide) (hdb : (x == ("__debug__" : Str)) = false := by decide) (hs : starEach [a] X.env = (false, eval a X.env) :: starEach [] X.env := by rfl) (hpl : (backTo pos (starEach [] X.env)).any (·.1) = false := by rfl) :
    PE X (.Call (.Name x p) [a] [] pos) (lowE Y (sb fa k)) :=
  (pe_callB hc hg hm hv (pa_cons ha pa_nil hs) hn hdb hs hpl).imp fun σ H Q h => seq1 h fun F ρ μ Γ H x v r μ' hI S G hx e P => hk F ρ μ Γ H σ x v r μ' Q S hx e P
theorem z_t1 {x : Str} {id : String} {r : List V → Hp → VK → Prop} {k : A → Sem A} (hc : CallR X (.type id) r) (hm : X.mg x = none) (hv : bootBuiltins x = some (.type id)) (ha : PE X a (lowE Y fa))
    (hk : ∀ F ρ μ Γ H σ x v r' μ' (Q : VK), Sta Y F ρ μ H → Ra Y.c F ρ x v → k x Γ μ = some (r', μ') → Post Y (relA Y) σ F ρ r' μ' Q → r [v] H Q)
    (hg : Gl X x := by rfl) (hn : x ≠ "__name__" := by decide) (hdb : (x == ("__debug__" : Str)) = false := by decide) (hs : starEach [a] X.env = (false, eval a X.env) :: starEach [] X.env := by rfl) (hpl : (backTo pos (starEach [] X.env)).any (·.1) = false := by rfl) :
    PE X (.Call (.Name x p) [a] [] pos) (lowE Y (sb fa k)) :=
  (pe_callTy hc hg hm hv (pa_cons ha pa_nil hs) hn hdb hs hpl).imp fun σ H Q h => seq1 h fun F ρ μ Γ H x v r μ' hI S G hx e P => hk F ρ μ Γ H σ x v r μ' Q S hx e P
theorem z_b2 {x : Str} {id : String} {r : List V → Hp → VK → Prop} {k : A → A → Sem A} (hc : CallR X (.builtin id) r) (hm : X.mg x = none) (hv : bootBuiltins x = some (.builtin id)) (ha : PE X a (lowE Y fa)) (hb : PE X b (lowE Y fb))
    (hk : ∀ F ρ μ Γ H σ x v y u r' μ' (Q : VK), Sta Y F ρ μ H → Ra Y.c F ρ x v → Ra Y.c F ρ y u → k x y Γ μ = some (r', μ') → Post Y (relA Y) σ F ρ r' μ' Q → r [v, u] H Q)
    (hg : Gl X x := by rfl) (hn : x ≠ "__name__" := by decide) (hdb : (x == ("__debug__" : Str)) = false := by decide) (hs : starEach [a, b] X.env = (false, eval a X.env) :: starEach [b] X.env := by rfl) (hs2 : starEach [b] X.env = (false, eval b X.env) :: starEach [] X.env := by rfl) (hpl : (backTo pos (starEach [b] X.env)).any (·.1) = false := by rfl) :
    PE X (.Call (.Name x p) [a, b] [] pos) (lowE Y (sb fa fun x => sb fb (k x))) :=
  (pe_callB hc hg hm hv (pa_cons ha (pa_cons hb pa_nil hs2) hs) hn hdb hs hpl).imp fun σ H Q h => seq2 h (mono_A Y) fun F ρ μ Γ H x v y u r μ' hI S G hx hy e P => hk F ρ μ Γ H σ x v y u r μ' Q S hx hy e P
section
variable (hK : Y.c.K = X.K := by rfl)
include hK
theorem z_len (hm : X.mg "len" = none) (ha : PE X a (lowE Y fa)) (hg : Gl X "len" := by rfl) (hs : starEach [a] X.env = (false, eval a X.env) :: starEach [] X.env := by rfl) (hpl : (backTo pos (starEach [] X.env)).any (·.1) = false := by rfl) : PE X (.Call (.Name "len" p) [a] [] pos) (lowE Y (lenE fa)) :=
  z_b1 call_len hm PySem.boot_len ha (fun F ρ μ Γ H σ x v r μ' Q S hx e P => by
    split at e
    · rename_i n en
      cases e
      obtain ⟨k, rfl, h⟩ := lenK_ok S hx en
      exact ⟨v, k, rfl, hK ▸ h, P.val S (.int _)⟩
    · cases e) hg (by decide) (by decide) hs hpl
def intE (fa : Sem A) : Sem A := sb fa fun x _ μ => match x with
  | .d (.int i) => some (.ok (.d (.int i)), μ)
  | .d (.bool b) => some (.ok (.d (.int (if b then 1 else 0))), μ)
  | _ => none
omit hK in
theorem z_intOf (hm : X.mg "int" = none) (ha : PE X a (lowE Y fa)) (hg : Gl X "int" := by rfl) (hs : starEach [a] X.env = (false, eval a X.env) :: starEach [] X.env := by rfl) (hpl : (backTo pos (starEach [] X.env)).any (·.1) = false := by rfl) : PE X (.Call (.Name "int" p) [a] [] pos) (lowE Y (intE fa)) :=
  z_t1 call_int1 hm (by decide +kernel) ha (fun F ρ μ Γ H σ x v r μ' Q S hx e P => by
    split at e
    · cases e; cases hx; exact .inl ⟨_, rfl, P.val S (.int _)⟩
    · cases e; cases hx; exact .inr ⟨_, rfl, P.val S (.int _)⟩
    · cases e) hg (by decide) (by decide) hs hpl
def tupOf (fa : Sem A) : Sem A := sb fa fun x _ μ => match rd μ x with
  | some (.list ds) => some (.ok (.d (.tuple ds)), μ)
  | some (.tuple ds) => some (.ok (.d (.tuple ds)), μ)
  | _ => none
theorem z_tupOf (hm : X.mg "tuple" = none) (ha : PE X a (lowE Y fa)) (hg : Gl X "tuple" := by rfl) (hs : starEach [a] X.env = (false, eval a X.env) :: starEach [] X.env := by rfl) : PE X (.Call (.Name "tuple" p) [a] [] pos) (lowE Y (tupOf fa)) :=
  (pe_tupleOf hg hm ha hs).imp fun σ H Q h => seq1 h fun F ρ μ Γ H x v r μ' hI S G hx e P => by
    split at e
    · rename_i ds e1
      cases e
      obtain ⟨a, vs, rfl, h1, h2⟩ := S.rd hx e1
      exact .inl ⟨a, vs, rfl, hK ▸ h1, fun q hq => P.newT S h2 q hq⟩
    · rename_i ds e1
      cases e
      obtain ⟨a, vs, rfl, h1, h2⟩ := S.rd hx e1
      exact .inr ⟨a, vs, rfl, hK ▸ sqT_mono S.sub h1, P.val S (Dp.tup h1 h2)⟩
    · cases e
def lstOf (m : Bool) (fa : Sem A) : Sem A := sb fa fun x _ μ => match rd μ x with
  | some (.list ds) => mkL m ds μ
  | some (.tuple ds) => mkL m ds μ
  | _ => none
theorem z_lstOf (m : Bool) (hm : X.mg "list" = none) (ha : PE X a (lowE Y fa)) (hg : Gl X "list" := by rfl) (hs : starEach [a] X.env = (false, eval a X.env) :: starEach [] X.env := by rfl) (hpl : (backTo pos (starEach [] X.env)).any (·.1) = false := by rfl) : PE X (.Call (.Name "list" p) [a] [] pos) (lowE Y (lstOf m fa)) :=
  z_t1 call_list_of hm (by decide +kernel) ha (fun F ρ μ Γ H σ x v r μ' Q S hx e P => by
    split at e
    · rename_i ds e1
      obtain ⟨a, vs, rfl, h1, h2⟩ := S.rd hx e1
      exact ⟨a, vs, rfl, .inl (hK ▸ h1), fun q hq => P.newL e S h2 q hq⟩
    · rename_i ds e1
      obtain ⟨a, vs, rfl, h1, h2⟩ := S.rd hx e1
      exact ⟨a, vs, rfl, .inr (hK ▸ sqT_mono S.sub h1), fun q hq => P.newL e S h2 q hq⟩
    · cases e) hg (by decide) (by decide) hs hpl
def max2 (fa fb : Sem A) : Sem A := sb fa fun x => sb fb fun y _ μ => match x, y with
  | .d (.int i), .d (.int j) => some (.ok (.d (.int (if j > i then j else i))), μ)
  | _, _ => none
def min2 (fa fb : Sem A) : Sem A := sb fa fun x => sb fb fun y _ μ => match x, y with
  | .d (.int i), .d (.int j) => some (.ok (.d (.int (if j < i then j else i))), μ)
  | _, _ => none
omit hK in
theorem z_max2 (hm : X.mg "max" = none) (ha : PE X a (lowE Y fa)) (hb : PE X b (lowE Y fb)) (hc : X.calm = true := by rfl) (hg : Gl X "max" := by rfl) (hs : starEach [a, b] X.env = (false, eval a X.env) :: starEach [b] X.env := by rfl) (hs2 : starEach [b] X.env = (false, eval b X.env) :: starEach [] X.env := by rfl) (hpl : (backTo pos (starEach [b] X.env)).any (·.1) = false := by rfl) :
    PE X (.Call (.Name "max" p) [a, b] [] pos) (lowE Y (max2 fa fb)) :=
  z_b2 (call_max2 hc) hm (by decide +kernel) ha hb (fun F ρ μ Γ H σ x v y u r μ' Q S hx hy e P => by
    split at e
    · cases e; cases hx; cases hy; exact ⟨_, _, rfl, P.val S (.int _)⟩
    · cases e) hg (by decide) (by decide) hs hs2 hpl
omit hK in
theorem z_min2 (hm : X.mg "min" = none) (ha : PE X a (lowE Y fa)) (hb : PE X b (lowE Y fb)) (hc : X.calm = true := by rfl) (hg : Gl X "min" := by rfl) (hs : starEach [a, b] X.env = (false, eval a X.env) :: starEach [b] X.env := by rfl) (hs2 : starEach [b] X.env = (false, eval b X.env) :: starEach [] X.env := by rfl) (hpl : (backTo pos (starEach [b] X.env)).any (·.1) = false := by rfl) :
    PE X (.Call (.Name "min" p) [a, b] [] pos) (lowE Y (min2 fa fb)) :=
  z_b2 (call_min2 hc) hm (by decide +kernel) ha hb (fun F ρ μ Γ H σ x v y u r μ' Q S hx hy e P => by
    split at e
    · cases e; cases hx; cases hy; exact ⟨_, _, rfl, P.val S (.int _)⟩
    · cases e) hg (by decide) (by decide) hs hs2 hpl
def absE (fa : Sem A) : Sem A := sb fa fun x _ μ => match x with
  | .d (.int i) => some (.ok (.d (.int (if i < 0 then -i else i))), μ)
  | _ => none
omit hK in
theorem z_abs (hm : X.mg "abs" = none) (ha : PE X a (lowE Y fa)) (hg : Gl X "abs" := by rfl) (hs : starEach [a] X.env = (false, eval a X.env) :: starEach [] X.env := by rfl) (hpl : (backTo pos (starEach [] X.env)).any (·.1) = false := by rfl) : PE X (.Call (.Name "abs" p) [a] [] pos) (lowE Y (absE fa)) :=
  z_b1 call_abs hm (by decide +kernel) ha (fun F ρ μ Γ H σ x v r μ' Q S hx e P => by
    split at e
    · cases e; cases hx; exact ⟨_, rfl, P.val S (.int _)⟩
    · cases e) hg (by decide) (by decide) hs hpl
def boolsD : List D → Option (List Bool)
  | [] => some []
  | .bool b :: xs => (boolsD xs).map (b :: ·)
  | _ :: _ => none
def intsD : List D → Option (List Int)
  | [] => some []
  | .int b :: xs => (intsD xs).map (b :: ·)
  | _ :: _ => none
omit hK in
theorem boolsD_eq : ∀ {ds : List D} {bs : List Bool}, boolsD ds = some bs → ds = bs.map .bool
  | [], _, h => by cases h; rfl
  | .bool b :: xs, _, h => by
    simp only [boolsD, Option.map_eq_some_iff] at h
    obtain ⟨r, h1, rfl⟩ := h
    rw [List.map_cons, ← boolsD_eq h1]
  | .none :: _, _, h | .int _ :: _, _, h | .str _ :: _, _, h | .list _ :: _, _, h | .tuple _ :: _, _, h | .dict _ :: _, _, h => by cases h
omit hK in
theorem intsD_eq : ∀ {ds : List D} {bs : List Int}, intsD ds = some bs → ds = bs.map .int
  | [], _, h => by cases h; rfl
  | .int b :: xs, _, h => by
    simp only [intsD, Option.map_eq_some_iff] at h
    obtain ⟨r, h1, rfl⟩ := h
    rw [List.map_cons, ← intsD_eq h1]
  | .none :: _, _, h | .bool _ :: _, _, h | .str _ :: _, _, h | .list _ :: _, _, h | .tuple _ :: _, _, h | .dict _ :: _, _, h => by cases h
omit hK in
@[simp] theorem intsD_map : ∀ ns : List Int, intsD (ns.map .int) = some ns
  | [] => rfl
  | n :: ns => by simp [intsD, intsD_map ns]
omit hK in
@[simp] theorem boolsD_map : ∀ ns : List Bool, boolsD (ns.map .bool) = some ns
  | [] => rfl
  | n :: ns => by simp [boolsD, boolsD_map ns]
omit hK in
theorem dpa_ints {K : PySem.W.Frag} {F : Hp} : ∀ {ns : List Int} {vs : List V}, DpAll K F vs (ns.map .int) → vs = ns.map V.int
  | [], _, h => by cases h; rfl
  | n :: ns, _, h => by
    cases h with
    | cons h1 h2 => cases h1; rw [dpa_ints h2]; rfl
omit hK in
theorem dpa_bools {K : PySem.W.Frag} {F : Hp} : ∀ {ns : List Bool} {vs : List V}, DpAll K F vs (ns.map .bool) → vs = ns.map V.bl
  | [], _, h => by cases h; rfl
  | n :: ns, _, h => by
    cases h with
    | cons h1 h2 => cases h1; rw [dpa_bools h2]; rfl
def allE (fa : Sem A) : Sem A := sb fa fun x _ μ => match rd μ x with
  | some (.list ds) => match boolsD ds with
    | some bs => some (.ok (.d (.bool (bs.all id))), μ)
    | none => none
  | _ => none
def anyE (fa : Sem A) : Sem A := sb fa fun x _ μ => match rd μ x with
  | some (.list ds) => match boolsD ds with
    | some bs => some (.ok (.d (.bool (bs.any id))), μ)
    | none => none
  | _ => none
def sumE (fa : Sem A) : Sem A := sb fa fun x _ μ => match rd μ x with
  | some (.list ds) => match intsD ds with
    | some ns => some (.ok (.d (.int ns.sum)), μ)
    | none => none
  | _ => none
theorem z_all (hm : X.mg "all" = none) (ha : PE X a (lowE Y fa)) (hc : X.calm = true := by rfl) (hg : Gl X "all" := by rfl) (hs : starEach [a] X.env = (false, eval a X.env) :: starEach [] X.env := by rfl) (hpl : (backTo pos (starEach [] X.env)).any (·.1) = false := by rfl) : PE X (.Call (.Name "all" p) [a] [] pos) (lowE Y (allE fa)) :=
  z_b1 (cr_all hc) hm (by decide +kernel) ha (fun F ρ μ Γ H σ x v r μ' Q S hx e P => by
    split at e
    · rename_i ds e1
      split at e
      · rename_i bs e2
        cases e
        obtain ⟨a, vs, rfl, h1, h2⟩ := S.rd hx e1
        have := boolsD_eq e2
        subst this
        have := dpa_bools h2
        subst this
        exact ⟨a, bs, rfl, hK ▸ h1, P.val S (.bl _)⟩
      · cases e
    · cases e) hg (by decide) (by decide) hs hpl
theorem z_any (hm : X.mg "any" = none) (ha : PE X a (lowE Y fa)) (hc : X.calm = true := by rfl) (hg : Gl X "any" := by rfl) (hs : starEach [a] X.env = (false, eval a X.env) :: starEach [] X.env := by rfl) (hpl : (backTo pos (starEach [] X.env)).any (·.1) = false := by rfl) : PE X (.Call (.Name "any" p) [a] [] pos) (lowE Y (anyE fa)) :=
  z_b1 (cr_any hc) hm (by decide +kernel) ha (fun F ρ μ Γ H σ x v r μ' Q S hx e P => by
    split at e
    · rename_i ds e1
      split at e
      · rename_i bs e2
        cases e
        obtain ⟨a, vs, rfl, h1, h2⟩ := S.rd hx e1
        have := boolsD_eq e2
        subst this
        have := dpa_bools h2
        subst this
        exact ⟨a, bs, rfl, hK ▸ h1, P.val S (.bl _)⟩
      · cases e
    · cases e) hg (by decide) (by decide) hs hpl
theorem z_sum (hm : X.mg "sum" = none) (ha : PE X a (lowE Y fa)) (hc : X.calm = true := by rfl) (hg : Gl X "sum" := by rfl) (hs : starEach [a] X.env = (false, eval a X.env) :: starEach [] X.env := by rfl) (hpl : (backTo pos (starEach [] X.env)).any (·.1) = false := by rfl) : PE X (.Call (.Name "sum" p) [a] [] pos) (lowE Y (sumE fa)) :=
  z_b1 (cr_sum hc) hm (by decide +kernel) ha (fun F ρ μ Γ H σ x v r μ' Q S hx e P => by
    split at e
    · rename_i ds e1
      split at e
      · rename_i bs e2
        cases e
        obtain ⟨a, vs, rfl, h1, h2⟩ := S.rd hx e1
        have := intsD_eq e2
        subst this
        have := dpa_ints h2
        subst this
        exact ⟨a, bs, rfl, hK ▸ h1, P.val S (.int _)⟩
      · cases e
    · cases e) hg (by decide) (by decide) hs hpl
end

/-! ### the methods of a list cell -/
def isL (μ : Store) : A → Option (Nat × List A)
  | .ref j => match μ[j]? with
    | some (.lst xs) => some (j, xs)
    | _ => none
  | _ => none
theorem isL_ok {F ρ μ H x v j xs} (S : Sta Y F ρ μ H) (h : Ra Y.c F ρ x v) (e : isL μ x = some (j, xs)) : ∃ a vs, v = .ref a ∧ μ[j]? = some (.lst xs) ∧ ρ[j]? = some a ∧ F a = none ∧ Ras Y.c F ρ xs vs ∧ H a = some (.lst vs) := by
  unfold isL at e
  split at e
  · split at e
    · rename_i ex
      cases e
      obtain ⟨a, rfl, h1, f, vs, h2, h3⟩ := S.at h ex
      exact ⟨a, vs, rfl, ex, h1, f, h2, h3⟩
    · cases e
  · cases e
def gd (k : A → Sem A) : A → Sem A := fun x Γ μ => match isL μ x with
  | some _ => k x Γ μ
  | none => none
/-- a method with one argument -/
def mt1 (k : Nat → List A → A → Store → Option (A × Cell)) (fo fa : Sem A) : Sem A := sb fo (gd fun x => sb (acons fa anil) fun as _ μ => match isL μ x, as with
  | some (j, xs), [y] => match k j xs y μ with
    | some (z, c) => some (.ok z, μ.set j c)
    | none => none
  | _, _ => none)
def mt0 (k : Nat → List A → Store → Option (A × Cell)) (fo : Sem A) : Sem A := sb fo fun x _ μ => match isL μ x with
  | some (j, xs) => match k j xs μ with
    | some (z, c) => some (.ok z, μ.set j c)
    | none => none
  | _ => none
theorem z_mt1 {name : Str} {id : String} {apos : Pos} {r : V → List V → Hp → VK → Prop} {k : Nat → List A → A → Store → Option (A × Cell)} (slot : Slot "list" name id) (hty : typeOf (.builtin id) = pure (.type "method_descriptor")) (hm : MtR X id r)
    (hk : ∀ F ρ μ H j xs y z c a vs u (Q : VK), Sta Y F ρ μ H → μ[j]? = some (.lst xs) → ρ[j]? = some a → F a = none → Ras Y.c F ρ xs vs → H a = some (.lst vs) → Ra Y.c F ρ y u → k j xs y μ = some (z, c) →
      (∀ ws w, (∃ ys, c = .lst ys ∧ Ras Y.c F ρ ys ws) → Ra Y.c F ρ z w → Q w (upd H a (.lst ws))) → r (.ref a) [u] H Q)
    (ho : PE X a (lowE Y fa)) (hb : PE X b (lowE Y fb)) (hK : Y.c.K = X.K := by rfl)
    (hbase : attributeBase a name X.env (eval a X.env) = eval a X.env := by rfl)
    (hfew : ((backTo pos (starEach (b :: []) X.env)).all (fun x => !x.1) && (backToKw pos (keywordEach [] X.env)).all (fun x => x.1.isSome)
      && decide ((b :: []).length + ([] : List Keyword).length + (if ([] : List Keyword).isEmpty then 0 else 1) < 30)) = true := by rfl)
    (hline : (apos.endLine == pos.line) = true := by rfl) (hs : starEach (b :: []) X.env = (false, eval b X.env) :: starEach [] X.env := by rfl) (hplain : (backTo pos (starEach [] X.env)).any (·.1) = false := by rfl) :
    PE X (.Call (.Attribute a name apos) [b] [] pos) (lowE Y (mt1 k fa fb)) := by
  refine (pe_bm PySem.F.plainAttrs_list slot hty hm ho (z_cons hb z_nil hs) hbase hfew hline hs hplain).imp fun σ H Q h => ?_
  obtain ⟨hI, F, ρ, μ, Γ, S, G, rs, μ', e, P⟩ := h
  refine seqV (ra := relA Y) hI S G e P fun F1 ρ1 μ1 H1 x v l S1 hx e1 => ?_
  unfold gd at e1
  split at e1
  · rename_i q eq
    obtain ⟨j, xs⟩ := q
    obtain ⟨ad, vs, rfl, h1, h2, h3, h4, h5⟩ := isL_ok S1 hx eq
    refine ⟨.inl ⟨rfl, _, by rw [← hK]; exact SqL.of h5⟩, seqV (ra := relAs Y) hI S1 (G.mono l) e1 (P.mono l) fun F2 ρ2 μ2 H2 as us l2 S2 has e2 => ?_⟩
    split at e2
    · rename_i j2 xs2 y eq2
      split at e2
      · rename_i z c ek
        cases e2
        obtain ⟨ad2, vs2, ead, g1, g2, g3, g4, g5⟩ := isL_ok S2 (Ra.mono l2 hx) eq2
        cases ead
        cases has with
        | cons hy hn =>
          cases hn
          refine hk F2 ρ2 μ2 H2 j2 xs2 _ z c ad vs2 _ Q S2 g1 g2 g3 g4 g5 hy ek fun ws w hc hz => ?_
          obtain ⟨ys, rfl, hys⟩ := hc
          exact P F2 ρ2 _ (l.trans l2) (S2.write g1 g2 (by simp) _ ⟨g3, ws, hys, upd_same⟩) w hz
      · cases e2
    · cases e2
  · cases e1
theorem z_mt0 {name : Str} {id : String} {apos : Pos} {r : V → List V → Hp → VK → Prop} {k : Nat → List A → Store → Option (A × Cell)} (slot : Slot "list" name id) (hty : typeOf (.builtin id) = pure (.type "method_descriptor")) (hm : MtR X id r)
    (hk : ∀ F ρ μ H j xs z c a vs (Q : VK), Sta Y F ρ μ H → μ[j]? = some (.lst xs) → ρ[j]? = some a → F a = none → Ras Y.c F ρ xs vs → H a = some (.lst vs) → k j xs μ = some (z, c) →
      (∀ ws w, (∃ ys, c = .lst ys ∧ Ras Y.c F ρ ys ws) → Ra Y.c F ρ z w → Q w (upd H a (.lst ws))) → r (.ref a) [] H Q)
    (ho : PE X a (lowE Y fa)) (hK : Y.c.K = X.K := by rfl)
    (hbase : attributeBase a name X.env (eval a X.env) = eval a X.env := by rfl) (hline : (apos.endLine == pos.line) = true := by rfl) :
    PE X (.Call (.Attribute a name apos) [] [] pos) (lowE Y (mt0 k fa)) :=
  (pe_bm0 PySem.F.plainAttrs_list slot hty hm ho hbase hline).imp fun σ H Q h => seq1 h fun F ρ μ Γ H x v r μ' hI S G hx e P => by
    split at e
    · rename_i j xs eq
      split at e
      · rename_i z c ek
        cases e
        obtain ⟨ad, vs, rfl, h1, h2, h3, h4, h5⟩ := isL_ok S hx eq
        refine ⟨.inl ⟨rfl, _, by rw [← hK]; exact SqL.of h5⟩, hk F ρ μ H j xs z c ad vs Q S h1 h2 h3 h4 h5 ek fun ws w hc hz => ?_⟩
        obtain ⟨ys, rfl, hys⟩ := hc
        exact P F ρ _ (Le.refl _ _) (S.write h1 h2 (by simp) _ ⟨h3, ws, hys, upd_same⟩) w hz
      · cases e
    · cases e
def kApp : Nat → List A → A → Store → Option (A × Cell) := fun _ xs y _ => if xs.length < 1000000 then some (.d .none, .lst (xs ++ [y])) else none
def appE := mt1 kApp
theorem z_append {apos : Pos} (ho : PE X a (lowE Y fa)) (hb : PE X b (lowE Y fb)) (hK : Y.c.K = X.K := by rfl)
    (hbase : attributeBase a "append" X.env (eval a X.env) = eval a X.env := by rfl)
    (hfew : ((backTo pos (starEach (b :: []) X.env)).all (fun x => !x.1) && (backToKw pos (keywordEach [] X.env)).all (fun x => x.1.isSome)
      && decide ((b :: []).length + ([] : List Keyword).length + (if ([] : List Keyword).isEmpty then 0 else 1) < 30)) = true := by rfl)
    (hline : (apos.endLine == pos.line) = true := by rfl) (hs : starEach (b :: []) X.env = (false, eval b X.env) :: starEach [] X.env := by rfl) (hplain : (backTo pos (starEach [] X.env)).any (·.1) = false := by rfl) :
    PE X (.Call (.Attribute a "append" apos) [b] [] pos) (lowE Y (appE fa fb)) :=
  z_mt1 PySem.F.slot_list_append PySem.F.type_list_append mt_append (fun F ρ μ H j xs y z c a vs u Q S h1 h2 h3 h4 h5 hy e q => by
    unfold kApp at e
    split at e
    · rename_i hz
      cases e
      exact ⟨a, vs, u, rfl, rfl, h5, by rw [← paired_len h4]; exact sz1 hz, q _ _ ⟨_, rfl, paired_app h4 (.cons hy .nil)⟩ Dp.non⟩
    · cases e) ho hb hK hbase hfew hline hs hplain
def kPop0 : Nat → List A → Store → Option (A × Cell) := fun _ xs _ => match xs[xs.length - 1]? with
  | some y => some (y, .lst xs.dropLast)
  | none => none
def popE := mt0 kPop0
theorem paired_dropLast {α β : Type} {r : α → β → Prop} {xs : List α} {ys : List β} (h : Paired r xs ys) : Paired r xs.dropLast ys.dropLast := by
  rw [List.dropLast_eq_take, List.dropLast_eq_take, paired_len h]
  exact paired_take _ h
where
  paired_take {α β : Type} {r : α → β → Prop} : ∀ {xs : List α} {ys : List β} (n : Nat), Paired r xs ys → Paired r (xs.take n) (ys.take n)
    | _, _, 0, _ => by simp; exact .nil
    | _, _, _ + 1, .nil => by simp; exact .nil
    | _, _, n + 1, .cons h t => by simp; exact .cons h (paired_take n t)
theorem paired_eraseIdx {α β : Type} {r : α → β → Prop} : ∀ {xs : List α} {ys : List β} (n : Nat), Paired r xs ys → Paired r (xs.eraseIdx n) (ys.eraseIdx n)
  | _, _, _, .nil => .nil
  | _, _, 0, .cons _ t => t
  | _, _, n + 1, .cons h t => .cons h (paired_eraseIdx n t)
theorem z_pop {apos : Pos} (ho : PE X a (lowE Y fa)) (hK : Y.c.K = X.K := by rfl) (hbase : attributeBase a "pop" X.env (eval a X.env) = eval a X.env := by rfl) (hline : (apos.endLine == pos.line) = true := by rfl) :
    PE X (.Call (.Attribute a "pop" apos) [] [] pos) (lowE Y (popE fa)) :=
  z_mt0 PySem.F.slot_list_pop PySem.F.type_list_pop mt_pop (fun F ρ μ H j xs z c a vs Q S h1 h2 h3 h4 h5 e q => by
    unfold kPop0 at e
    split at e
    · rename_i y ey
      cases e
      obtain ⟨u, e1, e2⟩ := paired_get h4 ey
      exact ⟨a, vs, u, rfl, rfl, h5, by rw [← paired_len h4]; exact e1, q _ _ ⟨_, rfl, paired_dropLast h4⟩ e2⟩
    · cases e) ho hK hbase hline
def kPopAt : Nat → List A → A → Store → Option (A × Cell) := fun _ xs y _ => match y with
  | .d (.int i) => match ixN xs.length i with
    | some k => match xs[k]? with
      | some z => if decide (-(2 ^ 63) ≤ i) && decide (i < 2 ^ 63) then some (z, .lst (xs.eraseIdx k)) else none
      | none => none
    | none => none
  | _ => none
def popAtE := mt1 kPopAt
theorem z_popAt {apos : Pos} (ho : PE X a (lowE Y fa)) (hb : PE X b (lowE Y fb)) (hK : Y.c.K = X.K := by rfl)
    (hbase : attributeBase a "pop" X.env (eval a X.env) = eval a X.env := by rfl)
    (hfew : ((backTo pos (starEach (b :: []) X.env)).all (fun x => !x.1) && (backToKw pos (keywordEach [] X.env)).all (fun x => x.1.isSome)
      && decide ((b :: []).length + ([] : List Keyword).length + (if ([] : List Keyword).isEmpty then 0 else 1) < 30)) = true := by rfl)
    (hline : (apos.endLine == pos.line) = true := by rfl) (hs : starEach (b :: []) X.env = (false, eval b X.env) :: starEach [] X.env := by rfl) (hplain : (backTo pos (starEach [] X.env)).any (·.1) = false := by rfl) :
    PE X (.Call (.Attribute a "pop" apos) [b] [] pos) (lowE Y (popAtE fa fb)) :=
  z_mt1 PySem.F.slot_list_pop PySem.F.type_list_pop mt_popAt (fun F ρ μ H j xs y z c a vs u Q S h1 h2 h3 h4 h5 hy e q => by
    unfold kPopAt at e
    split at e
    · rename_i i
      split at e
      · rename_i k ek
        split at e
        · rename_i z ez
          split at e
          · rename_i hb
            simp only [Bool.and_eq_true, decide_eq_true_eq] at hb
            cases e
            cases hy
            obtain ⟨w, e1, e2⟩ := paired_get h4 ez
            exact ⟨a, vs, i, k, w, rfl, rfl, h5, hb.1, hb.2, by rw [← paired_len h4]; exact (ixN_seq ek).1, e1, q _ _ ⟨_, rfl, paired_eraseIdx k h4⟩ e2⟩
          · cases e
        · cases e
      · cases e
    · cases e) ho hb hK hbase hfew hline hs hplain
end
end ZL

/-! Layer Z, part I: raise, try .. except, the suite's questions. -/
namespace PySem.W
open PySem PySem.Spec PySem.Calls PyProof.Rows
section
variable {prog : Program} {w : World} {A : Around} {E : Value → Shared → Prop} {s : Shared} {K : Frag} {x D : Addr} {ox : Obj} {od : Option Obj}
theorem z_findObj_data {C : Addr} {name : Str} {a g : Value} (hc : (clsIn K C).isSome = true) (ha : findIn K (.ref C) name = some (some a)) (hg : specialIn K a "__get__" = some (some g)) (ht : takesIn K a = some true) : findObj K C od name = some (.bind g a) := by
  obtain ⟨cd, hc⟩ := Option.isSome_iff_exists.mp hc
  unfold findObj
  rw [hc, Option.bind_some, ha, Option.bind_some]
  simp [hg, ht]
theorem z_kin_class {Q : Option Value → Shared → Prop} (hga : findIn K (.ref D) "__getattribute__" = some (some (.builtin "BaseException.__getattribute__"))) (hgt : findIn K (.ref D) "__getattr__" = some none) (hsub : subIn K (.ref D) (.type "BaseException") = some true)
    (hdct : hasDictIn K D = true) (ha : findIn K (.ref D) "__class__" = some (some (.builtin "object.__class__")))
    (hn : specialIn K (.builtin "object.__class__") "__get__" = some (some (.builtin "getset_descriptor.__get__"))) (htk : takesIn K (.builtin "object.__class__") = some true) (hm : mroIn K D (.type "object") = some true)
    (X : K.In s.heap) (I : InstAt s.heap x ox D od) (h : Q (some (.ref D)) { s with toks := s.toks + 1 }) : wpAny (model prog w) A (getAttr? (.ref x) "__class__") Q E s := by
  have hf : findObj K D od "__class__" = some (.bind (.builtin "getset_descriptor.__get__") (.builtin "object.__class__")) := z_findObj_data (by obtain ⟨cd, hc, _⟩ := any_some hdct; rw [hc]; rfl) ha hn htk
  obtain ⟨hp, g, d, t, os⟩ := s
  have L0 := I.type (M := model prog w)
  have L1 := looks_findIn (M := model prog w) X hga
  have L2 := looks_findIn (M := model prog w) X hgt
  have L3 := looks_find (M := model prog w) X I hf
  have sub : Looks (model prog w) hp (isInstance (.ref x) (.type "BaseException")) true := L0.andThen (looks_subIn X hsub)
  have hx0 : (false && onTheHeap (Value.builtin "BaseException.__getattribute__")) = false := rfl
  have hx2 : (Value.builtin "BaseException.__getattribute__" == Value.builtin "object.__getattribute__") = false := by decide +kernel
  have hx1 : (onTheHeap (Value.ref D) && Value.builtin "BaseException.__getattribute__" == Value.builtin "object.__getattribute__") = false := by rw [hx2]; rfl
  unfold getAttr? getAttrBy? getAttrBy
  refine wpAny_bind (wpAny_mkText (wpAny_bind (wpAny_attempt (wpAny_holding (wpAny_bind (L0.at (wpAny_bind (L1.at ?_))))))))
  show wpAny _ _ (if (onTheHeap (Value.ref D) && Value.builtin "BaseException.__getattribute__" == Value.builtin "object.__getattribute__") = true then _ else _) _ _ _
  rw [hx1, if_neg Bool.false_ne_true]
  unfold getAttrByItsOwn hookBefore
  refine wpAny_bind ?_
  rw [if_pos (show onTheHeap (Value.ref D) = true from rfl)]
  refine L2.at ?_
  refine wpAny_bind (wpAny_attempt (wpAny_holding ?_))
  unfold callGetattribute
  rw [hx0, if_neg Bool.false_ne_true]
  unfold boundAndCalled
  rw [PySem.F.excAttr_ValueError.ga.bind (.ref x)]
  refine wpAny_bind (wpAny_pure ?_)
  show wpAny _ _ (call (.builtin "BaseException.__getattribute__") [.ref x, .str "__class__" t]) _ _ _
  refine wpAny_call (codeAny_call_builtin PySem.F.excAttr_ValueError.ga.plain PySem.F.entry_bexc_ga ?_)
  refine @check_slot (model prog w) _ _ ⟨hp, g, d, t + 1, os⟩ "BaseException.__getattribute__" "BaseException" "__getattribute__" (.ref x) [.str "__class__" t] [] _ (by decide +kernel) (by decide +kernel) sub (PySem.F.args_bexc_ga (.ref x) (.str "__class__" t)) ?_
  unfold Builtin.«object.__getattribute__»
  refine wpAny_bind (wpAny_of_eq (a := ((Value.ref x : Value), [Value.str "__class__" t])) (by first | rfl | (simp only [slotArgs]; rfl)) ?_)
  refine wpAny_bind (wpAny_pure (wpAny_bind (L0.at (wpAny_bind (L3.at ?_)))))
  show wpAny _ _ (holding [Value.builtin "object.__class__"] (call (.builtin "getset_descriptor.__get__") [.builtin "object.__class__", .ref x, .ref D]) >>= ret) _ _ _
  refine wpAny_bind (wpAny_holding (wpAny_call (class_get (s := ⟨hp, g, d, t + 1, os⟩) (ox := ox) (od := od) X I hm ?_)))
  refine wpAny_pure ?_
  show wpAny _ _ (handedOut (.ref D)) _ _ _
  rw [handedOut_of (v := .ref D) rfl]
  first
    | exact wpAny_pure (wpAny_pure h)
    | exact wpAny_pure h
    | exact wpAny_pure (wpAny_bind (wpAny_pure (wpAny_pure h)))
theorem z_kitx_exc (hga : findIn K (.ref D) "__getattribute__" = some (some (.builtin "BaseException.__getattribute__"))) (hgt : findIn K (.ref D) "__getattr__" = some none) (hsub : subIn K (.ref D) (.type "BaseException") = some true) (hdct : hasDictIn K D = true) (ha : findIn K (.ref D) "__class__" = some (some (.builtin "object.__class__")))
    (hn : specialIn K (.builtin "object.__class__") "__get__" = some (some (.builtin "getset_descriptor.__get__"))) (htk : takesIn K (.builtin "object.__class__") = some true) (hm : mroIn K D (.type "object") = some true) :
    KitX K (.ref x) (.ref D) (fun h => InstAt h x ox D od) where
  ty := fun _ _ _ I => I.type
  it := fun _ _ X _ => by
    obtain ⟨cdD, hcD, _⟩ := any_some hdct
    unfold clsIn at hcD
    split at hcD
    · rename_i c' d' cd' sl' ho
      intro A' Q' E' s' k q
      unfold isType loadHead
      exact wpAny_bind (wpAny_loadPart (k _ _ (X _ _ ho)) (wpAny_pure q))
    · cases hcD
  ne := fun h tp dd its n sl X htp => by
    obtain ⟨cdD, hcD, _⟩ := any_some hdct
    refine Bool.eq_false_iff.mpr fun q => ?_
    have e : D = tp := Value.ref.inj (beq_iff_eq.mp q)
    subst e
    unfold clsIn at hcD
    split at hcD
    · rename_i c' d' cd' sl' ho
      have z := (X _ _ ho).symm.trans htp
      cases z
    · cases hcD
  ca := fun X I k => z_kin_class hga hgt hsub hdct ha hn htk hm X I k
end
end PySem.W
namespace ZL
open PySem PySem.Spec PyProof.Rows L2

/-! ### an own exception's __init__: self.f = f -/
def spInit (C : Addr) (f : Str) : Sp := fun vs H Q _ => ∃ a y, vs = [.ref a, y] ∧ H a = some (exo a C none) ∧ ∀ dx, H dx = none → dx ≠ a → Q .non (upd (upd H dx (exd dx [(f, y)])) a (exo a C (some dx)))
section
variable {P : Program} {w : World} {K : PySem.W.Frag} {mg : Str → Option Value} {base : Heap}
theorem ok_excInit {f : Addr} {fd : FuncData} {qual : Str} {st : Stmt} {C : Addr} {fn : Str} {p1 p2 p3 p4 : Pos} (F : Fun K "__init__" qual st f fd) (S : FnScope ["self", fn] ["self", fn] (defScope st)) (T : OexC K C) (hno : PySem.W.findIn K (.ref C) fn = some none)
    (hb : defBody st = [.Assign [.Attribute (.Name "self" p1) fn p2] (.Name fn p3) p4]) (hl : (defScope st).names.lookup ("self" : Str) = some NameKind.local) (hl2 : (defScope st).names.lookup fn = some NameKind.local) (hd : (fn == ("__debug__" : Str)) = false) (hcd : (fn == ("__classdict__" : Str)) = false)
    (hsw : ∀ env, swapsWith (.Name fn p3) (some (.Attribute (.Name "self" p1) fn p2)) p4.line env = pure false) : FnOk P w K mg base (L2.CX P w) 1 f fd ["self", fn] (spInit C fn) := by
  refine F.okX (k := 0) S (fun vs H Q E h => ?_) fun cdv A outer s H vs Q E hr h => ?_
  · obtain ⟨a, y, rfl, _⟩ := h
    rfl
  · obtain ⟨a, y, rfl, ha, k⟩ := h
    rw [hb]
    refine ⟨_, pss_one (ps_ost (X := cxOf (L2.CX P w) P w K mg base ["self", fn] qual (defScope st) f cdv A outer s H E) (pe_var (i := 0) rfl (.inl hl) (by decide) (by decide)) (pe_var (i := 1) rfl (.inl hl2) hd hcd) (hsw _)), ?_⟩
    exact ⟨_, rfl, _, rfl, a, C, rfl, T, hno, .inl ⟨ha, fun dx h1 h2 => k dx h1 h2⟩⟩
end
/-- what is known of the own exception class x (n its name): its field f -/
structure ExK (P : Program) (w : World) (K : PySem.W.Frag) (mg : Str → Option Value) (base : Heap) (ε : String → Addr) (n : String) (x : Str) (f : Str) : Prop where
  T : OexC K (ε n)
  gC : mg x = some (.ref (ε n))
  nf : PySem.W.findIn K (.ref (ε n)) f = some none
  init : ∃ fI fd, PySem.W.findIn K (.ref (ε n)) "__init__" = some (some (.ref fI)) ∧ PySem.W.typeIn K (.ref fI) = some (.type "function") ∧ FnOk P w K mg base (L2.CX P w) 1 fI fd ["self", f] (spInit (ε n) f) ∧ Binds K fd ["self", f] []
  C : ExcC K (ε n)
def raiseS (n : String) (f : Str) (fe : Sem A) : SemS := eS fe fun x Γ μ => match x with
  | .d z => some (.ex Γ n [(f, z)], μ)
  | _ => none
section
variable {X : Cx} {Y : Ctx} {pos p p2 : Pos} {e : Expr} {fe : Sem A}
theorem heap_raise {H1 : Hp} {a dx C : Addr} {f : Str} {y : V} (ha : H1 a = none) (hne : dx ≠ a) :
    upd (del (upd (upd (upd H1 a (exo a C none)) dx (exd dx [(f, y)])) a (exo a C (some dx))) a) dx (.xd [(f, y)]) = upd H1 dx (.xd [(f, y)]) := by
  funext b
  by_cases h1 : b = dx
  · subst h1; rw [upd_same, upd_same]
  · rw [upd_ne h1, upd_ne h1]
    by_cases h2 : b = a
    · subst h2; rw [del_same, ha]
    · rw [del_ne h2, upd_ne h2, upd_ne h1, upd_ne h2]
theorem z_raise {x : Str} {f : Str} {n : String} (Ek : ExK X.prog X.w X.K X.mg X.base Y.c.ε n x f) {k : Nat} (hr : Room (k + 2) X.A) (tk : Takes X Y.W) (he : PE X e (lowE Y fe)) (hc : X.calm = true := by rfl) (hg : Gl X x := by rfl)
    (hdb : (x == ("__debug__" : Str)) = false := by decide) (hs : starEach (e :: []) X.env = (false, eval e X.env) :: starEach [] X.env := by rfl) (hpl : (backTo pos (starEach [] X.env)).any (·.1) = false := by rfl) :
    PS X (.Raise (some (.Call (.Name x p) [e] [] pos)) none p2) (lowS Y (raiseS n f fe)) := by
  obtain ⟨fI, fd, h1, h2, F1, hb⟩ := Ek.init
  refine (ps_raise hc tk (pmk_oex (k := 1) Ek.T h1 h2 F1 (hr.mono (by omega)) hb .nil passL hg Ek.gC (pa_cons he pa_nil hs) hdb hs hpl)).imp fun D σ H h => ?_
  refine seqS (ra := relA Y) h fun F ρ μ Γ H1 x v o μ' hI S G hx e P => ⟨by show 1 ≤ 1000; decide, fun a ha => ⟨a, v, rfl, upd_same, fun dx hdx hne => ⟨rfl, dx, [(f, v)], upd_same, by rw [upd_ne hne, upd_same], ?_, ?_⟩⟩⟩
  · by_cases q : dx = a
    · exact absurd q hne
    · rw [upd_ne q] at hdx; exact hdx
  · have hdx1 : H1 dx = none := by rw [upd_ne hne] at hdx; exact hdx
    rw [heap_raise ha hne]
    split at e
    · rename_i z
      cases e
      obtain ⟨S1, l, s⟩ := S.laid hdx1 (.xd [(f, v)])
      exact P _ _ _ l S1 σ dx [(f, v)] hI (G.mono l) upd_same (.cons ⟨rfl, dp_mono l.sub hx⟩ .nil)
    · cases e
end

/-! ### try: several clauses, with names or without -/
def wMix (K : PySem.W.Frag) (Wout : WX) (D : Ends) : List (Value × Option Nat × (Addr → Value → Option Addr → TS)) → WX
  | [] => Wout
  | (c, none, ts) :: r => fun cls d σ H => ∃ b, PySem.W.exmOne K cls c = some b ∧ (b = true → ∀ a, H a = none → ts a cls d D σ H) ∧ (b = false → wMix K Wout D r cls d σ H)
  | (c, some i, ts) :: r => fun cls d σ H => ∃ b, PySem.W.exmOne K cls c = some b ∧
      (b = true → ∀ a, H a = none → ts a cls d { nx := fun σ' H' => D.nx (σ'.set i none) H', rt := D.rt, bk := fun σ' H' => D.bk (σ'.set i none) H', ct := fun σ' H' => D.ct (σ'.set i none) H' } (σ.set i (some (.ref a))) H) ∧
      (b = false → wMix K Wout D r cls d σ H)
inductive HdsZ (X : Cx) : List ExceptHandler → List (Value × Option Nat × (Addr → Value → Option Addr → TS)) → Prop
  | nil : HdsZ X [] []
  | cons {x : Str} {c : Value} {ts : Addr → Value → Option Addr → TS} {b₀ : Stmt} {suite : List Stmt} {np pos' : Pos} {hds : List ExceptHandler} {l : List (Value × Option Nat × (Addr → Value → Option Addr → TS))} (hc : Names X x c)
      (hsu : ∀ (a : Addr) (oe : Obj) (cls : Value) (d : Option Addr) (pn : List (Addr × Obj)), Zc cls d oe → (∃ vs, oe.data = .fields vs) → PSs (X.suite a ((a, oe) :: pn)) (b₀ :: suite) (ts a cls d)) (r : HdsZ X hds l) :
      HdsZ X (.ExceptHandler (some (.Name x np)) none (b₀ :: suite) pos' :: hds) ((c, none, ts) :: l)
  | consN {x n : Str} {i : Nat} {c : Value} {ts : Addr → Value → Option Addr → TS} {b₀ : Stmt} {suite : List Stmt} {np pos' : Pos} {hds : List ExceptHandler} {l : List (Value × Option Nat × (Addr → Value → Option Addr → TS))} (hc : Names X x c)
      (hN : X.N.Nodup) (hi : X.N[i]? = some n) (hln : X.env.kindOf n = some .local)
      (hsu : ∀ (a : Addr) (oe : Obj) (cls : Value) (d : Option Addr) (pn : List (Addr × Obj)), Zc cls d oe → (∃ vs, oe.data = .fields vs) → PSs (X.suite a ((a, oe) :: pn)) (b₀ :: suite) (ts a cls d)) (r : HdsZ X hds l) :
      HdsZ X (.ExceptHandler (some (.Name x np)) (some n) (b₀ :: suite) pos' :: hds) ((c, some i, ts) :: l)
section
variable {X : Cx} {body : List Stmt} {h₀ : ExceptHandler} {hds : List ExceptHandler} {l : List (Value × Option Nat × (Addr → Value → Option Addr → TS))} {pos : Pos} {tb : WX → TS} {Wout : WX}
theorem ps_try_mix (hs : X.stack = X.env :: X.outer) (hf : X.env.frame = some X.env.locals) (tk : Takes X Wout)
    (hb : ∀ (W : WX) (pn : List (Addr × Obj)) (xe : Value → Shared → Prop), Takes (X.tr pn xe) W → PassesOwn (model X.prog X.w) X.A X.env xe → PSs (X.tr pn xe) body (tb W))
    (hh : HdsZ X (h₀ :: hds) l) : PS X (.Try body (h₀ :: hds) [] [] pos) (fun D σ H => tb (wMix X.K Wout D l) D σ H) := by
  refine ⟨fun pins s σ H D I h => ?_⟩
  have ok := I.ok
  have hfr : X.A.frames = some (X.env :: X.outer) := by rw [ok.frames, hs]
  refine wpAny_Try_except ?_
  refine wpAny_mono ((hb (wMix X.K Wout D l) (X.pn ++ pins) (fun e s₁ => wpAny (model X.prog X.w) X.A (noteFrame e X.env) (fun _ s₂ => wpAny (model X.prog X.w) X.A (setFlight e none) (fun _ s₃ =>
    wpAny (model X.prog X.w) X.A (handleBy e X.env (h₀ :: hds)) (SP X pins D) X.xe s₃) X.xe s₂) X.xe s₁) (fun u s' xx => ?_) PassesOwn.looking).run [] s σ H D (I.toTry _) h) (fun f s1 hsp => ?_) (fun e s1 he => he)
  · -- the catch
    obtain ⟨a, B, sI, pins', σ', H', cls, d, rfl, J', nb, up, sky, na, os, ag, w⟩ := xx
    have J : Inv X pins σ' H' sI := J'.ofTry ok
    have sky' : Sky B (X.env :: X.outer) a (Zc cls d) X.env.locals s'.heap := by rw [← hs]; exact sky
    show wpAny (model X.prog X.w) X.A (noteFrame (.ref a) X.env) _ _ _
    refine Sky.land Zc.steady hfr hf sky' fun h3 fl3 up3 => ?_
    have J3 : Inv X pins σ' H' { s' with heap := h3 } := J.landed nb fl3.1 (up.trans up3) os ag
    obtain ⟨oe3, vs3, he3, hz3, hd3⟩ := fl3.there
    have notFr : ∀ {h : Heap} {o : Obj} {vs : Array Value}, h.FunFrames B (X.env :: X.outer) → h.get? a = some o → o.data = .fields vs → a ∉ frs (X.env :: X.outer) := fun {h o vs} ff e dd hm => by
      obtain ⟨_, o', e', hnf⟩ := ff.mem hm
      rw [e] at e'; cases e'
      exact hnf _ dd
    have nfr := notFr fl3.2.2.1 he3 hd3
    have nL : a ≠ X.env.locals := fun z => nfr (List.mem_filterMap.mpr ⟨X.env, List.mem_cons_self, by rw [hf, z]⟩)
    have nF : a ∉ X.fs := fun hm => by
      obtain ⟨e, he, q⟩ := List.mem_filterMap.mp hm
      exact nfr (List.mem_filterMap.mpr ⟨e, List.mem_cons_of_mem _ he, q⟩)
    have S3 := J3.suite he3 hd3 na nL nF
    have go : ∀ {hds' : List ExceptHandler} {l' : List (Value × Option Nat × (Addr → Value → Option Addr → TS))}, HdsZ X hds' l' → wMix X.K Wout D l' cls d σ' H' →
        wpAny (model X.prog X.w) X.A (handleBy (.ref a) X.env hds') (SP X pins D) X.xe { s' with heap := h3 } := by
      intro hds' l' hk
      have LT : PySem.W.Looks (model X.prog X.w) h3 (typeOf (.ref a)) cls := fun A Q E s k q => wpAny_typeOf_ref (k _ _ he3) (by rw [hz3.1]; exact q)
      have test : ∀ {x : Str} {np : Pos} {c : Value} {Q : Value → Shared → Prop} {E : Value → Shared → Prop}, Names X x c → Q c { s' with heap := h3 } → wpAny (model X.prog X.w) (X.A.mark (some (.ref a))) (eval (.Name x np) X.env) Q E { s' with heap := h3 } := fun {x np c Q E} hc q => by
        obtain ⟨hg, hdbg, hm | ⟨hm, hv, hnn⟩⟩ := hc
        · exact ld_glob (X := X.suite a ((a, oe3) :: (X.pn ++ pins))) S3 hg hm q hdbg
        · exact ld_blt (X := X.suite a ((a, oe3) :: (X.pn ++ pins))) S3 hg hm hv q hnn hdbg
      induction hk with
      | nil =>
        intro w
        refine wpAny_handleBy_nil ?_
        obtain ⟨k1, k2, k3, oe, vs, T, oT, ts', he, hz, hd, h1, hr⟩ := id fl3
        unfold PySem.passOn
        refine wpAny_bind (wpAny_field he hd h1 ?_)
        rw [if_neg (show ¬ ((Value.ref T == Value.none) = true) from by simp)]
        have fin : wpAny (model X.prog X.w) X.A (setFlight (.ref a) X.env.frame) (fun _ s4 => wpAny (model X.prog X.w) X.A (throw (.ref a) : PySem.Sem Flow) (SP X pins D) X.xe s4) X.xe { s' with heap := h3 } := by
          rw [hf]
          refine HandSPX.setFlight_upZ fl3 fun h4 hh4 up4 => wpAny_throw (tk _ _ ?_)
          exact ⟨a, B, sI, pins, σ', H', cls, d, rfl, J, nb, (up.trans up3).trans up4, .inr (.inr (by rw [hs]; exact hh4)), na, os, ag, w⟩
        first
          | exact wpAny_bind (wpAny_pure (wpAny_bind fin))
          | exact wpAny_bind fin
      | @cons x c ts b₀ suite np pos' hds2 l2 hc hsu r ih =>
        intro w
        obtain ⟨b, hb1, hyes, hno⟩ := w
        refine wpAny_handleBy_cons (codeAny_handlers_test ?_) (by intro q; cases q)
        have LM := PySem.W.exm_one (M := model X.prog X.w) (J3.kIn) LT hb1
        refine test hc (LM.here ?_)
        cases b with
        | true =>
          refine codeAny_handlers_suite ?_
          refine HandSPX.lands_againZ fl3 fun h4 fl4 up4 => ?_
          have J4 : Inv X pins σ' H' { s' with heap := h4 } := J.landed nb fl4.1 ((up.trans up3).trans up4) os ag
          obtain ⟨oe4, vs4, he4, hz4, hd4⟩ := fl4.there
          have S4 := J4.suite he4 hd4 na nL nF
          refine wpAny_mono ((hsu a oe4 cls d (X.pn ++ pins) hz4 ⟨_, hd4⟩).run [] _ _ H' _ S4 (hyes rfl a na)) (fun f s6 hsp => ?_) (fun _ _ z => False.elim z)
          cases f with
          | next =>
            obtain ⟨σ6, H6, S6, q6⟩ := hsp
            exact ⟨_, _, S6.unsuite ok, q6⟩
          | brk =>
            obtain ⟨σ6, H6, S6, q6⟩ := hsp
            exact ⟨_, _, S6.unsuite ok, q6⟩
          | cont =>
            obtain ⟨σ6, H6, S6, q6⟩ := hsp
            exact ⟨_, _, S6.unsuite ok, q6⟩
          | ret u =>
            obtain ⟨v6, σ6, H6, S6, r6, q6⟩ := hsp
            exact ⟨_, _, _, S6.unsuite ok, r6, q6⟩
        | false =>
          show wpAny _ X.A (handleBy (.ref a) X.env hds2) _ _ _
          exact ih (hno rfl)
      | @consN x n i c ts b₀ suite np pos' hds2 l2 hc hN hi hln hsu r ih =>
        intro w
        obtain ⟨b, hb1, hyes, hno⟩ := w
        have hloc : Loc X.env.scope n := .inl hln
        refine wpAny_handleBy_cons (codeAny_handlers_test ?_) (by intro q; cases q)
        have LM := PySem.W.exm_one (M := model X.prog X.w) (J3.kIn) LT hb1
        refine test hc (LM.here ?_)
        cases b with
        | true =>
          refine codeAny_handlers_suite_as ?_
          refine HandSPX.lands_againZ fl3 fun h4 fl4 up4 => ?_
          have J4 : Inv X pins σ' H' { s' with heap := h4 } := J.landed nb fl4.1 ((up.trans up3).trans up4) os ag
          obtain ⟨oe4, vs4, he4, hz4, hd4⟩ := fl4.there
          have S4 := J4.suite he4 hd4 na nL nF
          refine store_ok (X := X.suite a ((a, oe4) :: (X.pn ++ pins))) (v := .ref a) S4 hN hi hloc rfl (fun s5 S5 => ?_) (.inr hln)
          refine wpAny_mono ((hsu a oe4 cls d (X.pn ++ pins) hz4 ⟨_, hd4⟩).run [] s5 _ H' _ S5 (hyes rfl a na)) (fun f s6 hsp => ?_) (fun _ _ z => False.elim z)
          have end_ : ∀ {σ6 : St} {H6 : Hp} {Q : Shared → Prop}, Inv (X.suite a ((a, oe4) :: (X.pn ++ pins))) [] σ6 H6 s6 → (∀ s7, Inv X pins (σ6.set i none) H6 s7 → Q s7) →
              wpAny (model X.prog X.w) X.A (do bindName X.env n .none; unbindBehindTheSuite X.env n pos') (fun _ s7 => Q s7) X.xe s6 := fun {σ6 H6 Q} S6 hq => gone_ok (S6.unsuite ok) hN hi hln hq
          cases f with
          | next =>
            obtain ⟨σ6, H6, S6, q6⟩ := hsp
            exact end_ S6 fun s7 J7 => ⟨_, _, J7, q6⟩
          | brk =>
            obtain ⟨σ6, H6, S6, q6⟩ := hsp
            exact end_ S6 fun s7 J7 => ⟨_, _, J7, q6⟩
          | cont =>
            obtain ⟨σ6, H6, S6, q6⟩ := hsp
            exact end_ S6 fun s7 J7 => ⟨_, _, J7, q6⟩
          | ret u =>
            obtain ⟨v6, σ6, H6, S6, r6, q6⟩ := hsp
            exact end_ S6 fun s7 J7 => ⟨_, _, _, J7, r6, q6⟩
        | false =>
          show wpAny _ X.A (handleBy (.ref a) X.env hds2) _ _ _
          exact ih (hno rfl)
    exact go hh w
  · cases f with
    | next =>
      obtain ⟨σ', H', J', q⟩ := hsp
      exact wpAny_execs_nil ⟨σ', H', J'.ofTry ok, q⟩
    | brk =>
      obtain ⟨σ', H', J', q⟩ := hsp
      exact ⟨σ', H', J'.ofTry ok, q⟩
    | cont =>
      obtain ⟨σ', H', J', q⟩ := hsp
      exact ⟨σ', H', J'.ofTry ok, q⟩
    | ret u =>
      obtain ⟨v, σ', H', J', r, q⟩ := hsp
      exact ⟨v, σ', H', J'.ofTry ok, r, q⟩
end
end ZL

/-! Layer Z, part J: try as a statement, the suite's questions, the end. -/
namespace ZL
open PySem PySem.Spec PyProof.Rows L2

abbrev Flds := List (Str × D)
structure Hd where
  mt : String → Option Bool
  slot : Option Nat
  su : String → Flds → SemS
def unset (i : Nat) : Option (Out × Store) → Option (Out × Store)
  | some (.nx Γ, μ) => some (.nx (Γ.set i none), μ)
  | some (.bk Γ, μ) => some (.bk (Γ.set i none), μ)
  | some (.ct Γ, μ) => some (.ct (Γ.set i none), μ)
  | some (.rt x, μ) => some (.rt x, μ)
  | _ => none
def noEx : Option (Out × Store) → Option (Out × Store)
  | some (.ex _ _ _, _) => none
  | o => o
def handle : List Hd → String → Flds → SemS
  | [], n, fs => fun Γ μ => some (.ex Γ n fs, μ)
  | h :: r, n, fs => fun Γ μ => match h.mt n with
    | some true => match h.slot with
      | none => noEx (h.su n fs Γ μ)
      | some i => if i < Γ.length then unset i (h.su n fs (Γ.set i (some .exn)) μ) else none
    | some false => handle r n fs Γ μ
    | none => none
def tryS (body : SemS) (hs : List Hd) : SemS := fun Γ μ => match body Γ μ with
  | some (.ex Γ1 n fs, μ1) => handle hs n fs Γ1 μ1
  | o => o
/-- a suite's reading -/
def exSu (c : Cf) (slot : Option Nat) (g : String → Flds → SemS) : Addr → Value → Option Addr → TS := fun a cls d D σ H =>
  ∃ n fs dd vs H0 F0 ρ0, cls = .ref (c.ε n) ∧ d = some dd ∧ F0 dd = some (.xd vs) ∧ Rf (fun x v => Dp c.K F0 v x) fs vs ∧ lowS ⟨c, H0, F0, ρ0, slot.map fun i => (i, a), WF⟩ (g n fs) D σ H
inductive HdsY (X : Cx) (c : Cf) : List ExceptHandler → List Hd → Prop
  | nil : HdsY X c [] []
  | cons {x : Str} {cv : Value} {mt : String → Option Bool} {su : String → Flds → SemS} {b₀ : Stmt} {suite : List Stmt} {np pos' : Pos} {hds : List ExceptHandler} {l : List Hd} (hc : Names X x cv)
      (hm : ∀ n b, mt n = some b → PySem.W.exmOne X.K (.ref (c.ε n)) cv = some b)
      (hsu : ∀ (a : Addr) (oe : Obj) (pn : List (Addr × Obj)) n fs dd vs H0 F0 ρ0, Zc (.ref (c.ε n)) (some dd) oe → (∃ vs, oe.data = .fields vs) → F0 dd = some (.xd vs) → Rf (fun x v => Dp c.K F0 v x) fs vs →
        PSs (X.suite a ((a, oe) :: pn)) (b₀ :: suite) (lowS ⟨c, H0, F0, ρ0, none, WF⟩ (su n fs))) (r : HdsY X c hds l) :
      HdsY X c (.ExceptHandler (some (.Name x np)) none (b₀ :: suite) pos' :: hds) (⟨mt, none, su⟩ :: l)
  | consN {x nm : Str} {i : Nat} {cv : Value} {mt : String → Option Bool} {su : String → Flds → SemS} {b₀ : Stmt} {suite : List Stmt} {np pos' : Pos} {hds : List ExceptHandler} {l : List Hd} (hc : Names X x cv)
      (hm : ∀ n b, mt n = some b → PySem.W.exmOne X.K (.ref (c.ε n)) cv = some b) (hN : X.N.Nodup) (hi : X.N[i]? = some nm) (hln : X.env.kindOf nm = some .local)
      (hsu : ∀ (a : Addr) (oe : Obj) (pn : List (Addr × Obj)) n fs dd vs H0 F0 ρ0, Zc (.ref (c.ε n)) (some dd) oe → (∃ vs, oe.data = .fields vs) → F0 dd = some (.xd vs) → Rf (fun x v => Dp c.K F0 v x) fs vs →
        PSs (X.suite a ((a, oe) :: pn)) (b₀ :: suite) (lowS ⟨c, H0, F0, ρ0, some (i, a), WF⟩ (su n fs))) (r : HdsY X c hds l) :
      HdsY X c (.ExceptHandler (some (.Name x np)) (some nm) (b₀ :: suite) pos' :: hds) (⟨mt, some i, su⟩ :: l)
/-- the two lists agree -/
def mixOf (c : Cf) : List (Hd × Value) → List (Value × Option Nat × (Addr → Value → Option Addr → TS)) := List.map fun p => (p.2, p.1.slot, exSu c p.1.slot p.1.su)
theorem wMix_of {X : Cx} {Y : Ctx} {D : Ends} {σ : St} : ∀ {l : List (Hd × Value)}, (∀ p ∈ l, ∀ n b, p.1.mt n = some b → PySem.W.exmOne X.K (.ref (Y.c.ε n)) p.2 = some b) → Y.ex = none →
    ∀ {F ρ μ H Γ n fs dd vs o μ'}, Sta Y F ρ μ H → Rg Y.c F ρ Γ σ → F dd = some (.xd vs) → Rf (fun x v => Dp Y.c.K F v x) fs vs → handle (l.map (·.1)) n fs Γ μ = some (o, μ') → PostS Y F ρ o μ' D → wMix X.K Y.W D (mixOf Y.c l) (.ref (Y.c.ε n)) (some dd) σ H
  | [], _, hex, F, ρ, μ, H, Γ, n, fs, dd, vs, o, μ', S, G, hd, hf, e, P => by
    cases e
    exact P F ρ H (Le.refl _ _) S σ dd vs (fun i a e => by rw [hex] at e; cases e) G hd hf
  | (⟨mt, slot, su⟩, cv) :: r, hm, hex, F, ρ, μ, H, Γ, n, fs, dd, vs, o, μ', S, G, hd, hf, e, P => by
    have keep : ∀ {σ : St}, Y.I σ := fun {σ} i a e => by rw [hex] at e; cases e
    simp only [List.map_cons, handle] at e
    cases slot with
    | none =>
      split at e
      · rename_i hb
        refine ⟨true, hm _ List.mem_cons_self n true hb, fun _ a ha => ?_, fun q => by cases q⟩
        refine ⟨n, fs, dd, vs, H, F, ρ, rfl, rfl, hd, hf, (fun i a e => by cases e), F, ρ, μ, Γ, (S.base none WF).toW, G, ?_⟩
        dsimp only at e
        unfold noEx at e
        split at e
        · cases e
        · rename_i hne
          refine ⟨o, μ', e, fun F' ρ' H' l' S' => ?_⟩
          have S1 := S.lift S'.unW
          cases o with
          | nx Γ' => exact fun σ' _ G' => P F' ρ' H' l' S1 σ' keep G'
          | rt x => exact fun v hv => P F' ρ' H' l' S1 v hv
          | bk Γ' => exact fun σ' _ G' => P F' ρ' H' l' S1 σ' keep G'
          | ct Γ' => exact fun σ' _ G' => P F' ρ' H' l' S1 σ' keep G'
          | ex Γ' n' fs' => exact absurd e (hne _ _ _ _)
      · rename_i hb
        exact ⟨false, hm _ List.mem_cons_self n false hb, (fun q => by cases q), fun _ => wMix_of (X := X) (Y := Y) (D := D) (σ := σ) (l := r) (fun p m => hm p (List.mem_cons_of_mem _ m)) hex S G hd hf e P⟩
      · cases e
    | some i =>
      split at e
      · rename_i hb
        refine ⟨true, hm _ List.mem_cons_self n true hb, fun _ a ha => ?_, fun q => by cases q⟩
        dsimp only at e
        split at e
        case isFalse => cases e
        rename_i hi0
        have hi : i < σ.length := by rw [← paired_len G]; exact hi0
        refine ⟨n, fs, dd, vs, H, F, ρ, rfl, rfl, hd, hf, (fun j b e => by cases e; exact List.getElem?_set_self hi), F, ρ, μ, Γ.set i (some .exn), (S.base none WF).toW, paired_set (show Ro Y.c F ρ (some .exn) (some (.ref a)) from trivial) i G, ?_⟩
        unfold unset at e
        split at e
        · rename_i Γ' μ2 eg
          cases e
          exact ⟨_, _, eg, fun F' ρ' H' l' S' σ' _ G' => P F' ρ' H' l' (S.lift S'.unW) _ keep (paired_set (show Ro Y.c F' ρ' none none from trivial) i G')⟩
        · rename_i Γ' μ2 eg
          cases e
          exact ⟨_, _, eg, fun F' ρ' H' l' S' σ' _ G' => P F' ρ' H' l' (S.lift S'.unW) _ keep (paired_set (show Ro Y.c F' ρ' none none from trivial) i G')⟩
        · rename_i Γ' μ2 eg
          cases e
          exact ⟨_, _, eg, fun F' ρ' H' l' S' σ' _ G' => P F' ρ' H' l' (S.lift S'.unW) _ keep (paired_set (show Ro Y.c F' ρ' none none from trivial) i G')⟩
        · rename_i x μ2 eg
          cases e
          exact ⟨_, _, eg, fun F' ρ' H' l' S' v hv => P F' ρ' H' l' (S.lift S'.unW) v hv⟩
        · cases e
      · rename_i hb
        exact ⟨false, hm _ List.mem_cons_self n false hb, (fun q => by cases q), fun _ => wMix_of (X := X) (Y := Y) (D := D) (σ := σ) (l := r) (fun p m => hm p (List.mem_cons_of_mem _ m)) hex S G hd hf e P⟩
      · cases e
theorem HdsY.mix {X : Cx} {c : Cf} : ∀ {hds : List ExceptHandler} {l : List Hd}, HdsY X c hds l → ∃ l' : List (Hd × Value), l'.map (·.1) = l ∧ HdsZ X hds (mixOf c l') ∧ (∀ p ∈ l', ∀ n b, p.1.mt n = some b → PySem.W.exmOne X.K (.ref (c.ε n)) p.2 = some b)
  | _, _, .nil => ⟨[], rfl, .nil, (fun _ m => by simp at m)⟩
  | _, _, .cons (mt := mt) (su := su) (cv := cv) hc hm hsu r => by
    obtain ⟨l', e, h, h1⟩ := HdsY.mix r
    refine ⟨(⟨mt, none, su⟩, cv) :: l', by simp [e], .cons hc (fun a oe cls d pn hz hf => ⟨fun pins s σ H D I ⟨n, fs, dd, vs, H0, F0, ρ0, e1, e2, e3, e4, w⟩ => ?_⟩) h, fun p m => ?_⟩
    · subst e1 e2
      exact (hsu a oe pn n fs dd vs H0 F0 ρ0 hz hf e3 e4).run pins s σ H D I w
    · rcases List.mem_cons.mp m with e | m
      · subst e; exact hm
      · exact h1 p m
  | _, _, .consN (mt := mt) (su := su) (cv := cv) (i := i) hc hm hN hi hln hsu r => by
    obtain ⟨l', e, h, h1⟩ := HdsY.mix r
    refine ⟨(⟨mt, some i, su⟩, cv) :: l', by simp [e], .consN hc hN hi hln (fun a oe cls d pn hz hf => ⟨fun pins s σ H D I ⟨n, fs, dd, vs, H0, F0, ρ0, e1, e2, e3, e4, w⟩ => ?_⟩) h, fun p m => ?_⟩
    · subst e1 e2
      exact (hsu a oe pn n fs dd vs H0 F0 ρ0 hz hf e3 e4).run pins s σ H D I w
    · rcases List.mem_cons.mp m with e | m
      · subst e; exact hm
      · exact h1 p m
section
variable {X : Cx} {c : Cf} {H0 F0 : Hp} {ρ0 : List Addr} {W : WX} {body : List Stmt} {h₀ : ExceptHandler} {hds : List ExceptHandler} {pos : Pos} {gb : SemS} {l : List Hd}
theorem Sta.reW {c : Cf} {H0 F0 : Hp} {ρ0 : List Addr} {ex ex' : Option (Nat × Addr)} {W W' : WX} {F : Hp} {ρ : List Addr} {μ : Store} {H : Hp} (S : Sta ⟨c, H0, F0, ρ0, ex, W⟩ F ρ μ H) : Sta ⟨c, H0, F0, ρ0, ex', W'⟩ F ρ μ H := S.unW.toW
theorem z_try (hb : ∀ (W' : WX) (pn : List (Addr × Obj)) (xe : Value → Shared → Prop), Takes (X.tr pn xe) W' → PassesOwn (model X.prog X.w) X.A X.env xe → PSs (X.tr pn xe) body (lowS ⟨c, H0, F0, ρ0, none, W'⟩ gb))
    (hh : HdsY X c (h₀ :: hds) l) (tk : Takes X W) (hs : X.stack = X.env :: X.outer := by rfl) (hf : X.env.frame = some X.env.locals := by rfl) : PS X (.Try body (h₀ :: hds) [] [] pos) (lowS ⟨c, H0, F0, ρ0, none, W⟩ (tryS gb l)) := by
  obtain ⟨l', el, hz, hm⟩ := hh.mix
  refine (ps_try_mix (tb := fun W' => lowS ⟨c, H0, F0, ρ0, none, W'⟩ gb) (Wout := W) (l := mixOf c l') hs hf tk hb hz).imp fun D σ H h => ?_
  obtain ⟨hI, F, ρ, μ, Γ, S, G, o, μ', e, P⟩ := h
  unfold tryS at e
  refine ⟨(fun i a e => by cases e), F, ρ, μ, Γ, S.reW, G, ?_⟩
  split at e
  · rename_i Γ1 n fs μ1 eb
    refine ⟨_, _, eb, fun F1 ρ1 H1 l1 S1 σ1 dd vs _ G1 hd hf => ?_⟩
    exact wMix_of (X := X) (Y := ⟨c, H0, F0, ρ0, none, W⟩) (D := D) (l := l') hm rfl S1.reW G1 hd hf (by rw [el]; exact e) (P.mono l1)
  · rename_i hne
    refine ⟨o, μ', e, fun F1 ρ1 H1 l1 S1 => ?_⟩
    have q := P F1 ρ1 H1 l1 S1.reW
    cases o with
    | nx Γ' => exact fun σ' _ G' => q σ' (fun i a e => by cases e) G'
    | rt x => exact q
    | bk Γ' => exact fun σ' _ G' => q σ' (fun i a e => by cases e) G'
    | ct Γ' => exact fun σ' _ G' => q σ' (fun i a e => by cases e) G'
    | ex Γ' n' fs' => exact absurd e (hne _ _ _ _)
end

/-! ### in a suite: e.f, isinstance(e, ..) -/
def tK (vs : List V) : TA := fun _ H Q => Q vs H
section
variable {X : Cx} {e : Expr} {es : List Expr} {v : V} {vs : List V}
theorem pa_k0 : PA X [] (tK []) := pa_nil
theorem pa_kc (he : PE X e (tC v)) (hr : PA X es (tK vs)) (hs : starEach (e :: es) X.env = (false, eval e X.env) :: starEach es X.env := by rfl) : PA X (e :: es) (tK (v :: vs)) := pa_cons he hr hs
end
def exF (fs : Flds) (f : Str) : Sem A := fun _ μ => match fs.lookup f with
  | some z => some (.ok (.d z), μ)
  | none => none
/-- the classes that are known, and which is under which -/
structure XT (K : PySem.W.Frag) (ε : String → Addr) (kn : List String) (sub : String → String → Bool) : Prop where
  cl : ∀ n ∈ kn, ExcC K (ε n)
  kit : ∀ n ∈ kn, ∀ m ∈ kn, PySem.W.kitOne K (.ref (ε n)) (.ref (ε m)) = some (sub n m)
  ve : ∀ n ∈ kn, PySem.W.kitOne K (.ref (ε n)) (.type "ValueError") = some true
  exm : ∀ n ∈ kn, ∀ m ∈ kn, PySem.W.exmOne K (.ref (ε n)) (.ref (ε m)) = some (sub n m)
def exI (kn : List String) (sub : String → String → Bool) (n : String) (Ts : List String) : Sem A := fun _ μ => if kn.contains n && Ts.all (kn.contains ·) then some (.ok (.d (.bool (Ts.any (sub n)))), μ) else none
def exV (kn : List String) (n : String) : Sem A := fun _ μ => if kn.contains n then some (.ok (.d (.bool true)), μ) else none
def mtX (kn : List String) (sub : String → String → Bool) (m : String) : String → Option Bool := fun n => if kn.contains n && kn.contains m then some (sub n m) else none
section
variable {K : PySem.W.Frag} {ε : String → Addr} {kn : List String} {sub : String → String → Bool}
theorem XT.mt (T : XT K ε kn sub) (m : String) (n : String) (b : Bool) (h : mtX kn sub m n = some b) : PySem.W.exmOne K (.ref (ε n)) (.ref (ε m)) = some b := by
  unfold mtX at h
  split at h
  · rename_i hc
    rw [Bool.and_eq_true] at hc
    cases h
    exact T.exm n (by simpa using hc.1) m (by simpa using hc.2)
  · cases h
end
section
variable {X : Cx} {c : Cf} {H0 F0 : Hp} {ρ0 : List Addr} {a : Addr} {i : Nat} {oe : Obj} {pn : List (Addr × Obj)} {n : String} {fs : Flds} {dd : Addr} {ws : List (Str × V)} {e : Expr} {pos p p1 : Pos} {nm : Str}
theorem rf_look {F : Hp} {K : PySem.W.Frag} {f : Str} {z : D} : ∀ {fs : Flds} {vs : List (Str × V)}, Rf (fun x v => Dp K F v x) fs vs → fs.lookup f = some z → ∃ v, vs.lookup f = some v ∧ Dp K F v z
  | [], _, _, h => by simp [List.lookup] at h
  | (g, x) :: r, _, h, e => by
    cases h with
    | cons h1 h2 =>
      rename_i q qs
      obtain ⟨g', v⟩ := q
      obtain ⟨rfl, hv⟩ := h1
      rw [List.lookup_cons] at e
      rw [List.lookup_cons]
      dsimp only at *
      split at e
      · cases e
        rename_i hb
        exact ⟨v, rfl, hv⟩
      · rename_i hb
        exact rf_look h2 e
theorem z_exF {f : Str} (T : ExcC X.K (c.ε n)) (hno : PySem.W.findIn X.K (.ref (c.ε n)) f = some none) (hz : Zc (.ref (c.ε n)) (some dd) oe) (hf : ∃ vs, oe.data = .fields vs) (hd : F0 dd = some (.xd ws)) (hr : Rf (fun x v => Dp c.K F0 v x) fs ws)
    (he : PE (X.suite a ((a, oe) :: pn)) e (tVar i)) (hb : attributeBase e f X.env (eval e X.env) = eval e X.env := by rfl) :
    PE (X.suite a ((a, oe) :: pn)) (.Attribute e f pos) (lowE ⟨c, H0, F0, ρ0, some (i, a), WF⟩ (exF fs f)) :=
  (pe_xf ⟨T.hg, T.hk, T.hs, T.hd⟩ hno hz hf he hb).imp fun σ H Q h => by
    obtain ⟨hI, F, ρ, μ, Γ, S, G, r, μ', e, P⟩ := h
    unfold exF at e
    split at e
    · rename_i z ez
      cases e
      obtain ⟨v, h1, h2⟩ := rf_look hr ez
      have l := S.le
      exact ⟨.ref a, hI i a rfl, rfl, rfl, dd, ws, v, rfl, S.sub _ _ (l.sub _ _ hd), h1, P.val S (dp_mono l.sub h2)⟩
    · cases e
def rIsX (K : PySem.W.Frag) (D a : Addr) : List V → Hp → VK → Prop := fun xs H Q => ∃ (c : V) (cv : Value) (b : Bool), xs = [.ref a, c] ∧ ClsV c cv ∧ PySem.W.kitOne K (.ref D) cv = some b ∧ Q (.bl b) H
def rIsXT (K : PySem.W.Frag) (D a : Addr) : List V → Hp → VK → Prop := fun xs H Q => ∃ (tp : Addr) (cs : List V) (us : List Value) (b : Bool), xs = [.ref a, .ref tp] ∧ H tp = some (.tup cs) ∧ Paired ClsV cs us ∧ PySem.W.kitAny K (.ref D) us = some b ∧ Q (.bl b) H
theorem inst_at {D : Addr} {H : Hp} {σ : St} {pins : List (Addr × Obj)} {s : Shared} (I : Inv (X.suite a ((a, oe) :: pn)) pins σ H s) (hz : Zc (.ref D) (some dd) oe) (hf : ∃ vs, oe.data = .fields vs) (hd : H dd = some (.xd ws)) : ∃ od, PySem.W.InstAt s.heap a oe D (some od) := by
  obtain ⟨ha, _⟩ := I.pin (a, oe) (List.mem_append_left _ List.mem_cons_self)
  obtain ⟨vs, hv⟩ := hf
  have hx : ObjOk X.prog X.w H s.heap dd (.xd ws) := I.hok dd _ hd
  obtain ⟨mA, hns, hr⟩ := hx
  obtain ⟨od, ho, hl⟩ := lookIn_ns hns
  exact ⟨od, ha, hz.1, by unfold PySem.W.notCls; rw [hv] <;> rfl, by rw [hz.2]; exact ho⟩
theorem call_isX {D : Addr} (C : ExcC X.K D) (hz : Zc (.ref D) (some dd) oe) (hf : ∃ vs, oe.data = .fields vs) : CallR (X.suite a ((a, oe) :: pn)) (.builtin "isinstance") (fun xs H Q => (∃ ws, H dd = some (.xd ws)) ∧ rIsX X.K D a xs H Q) := by
  intro pins s σ H xs us Q I r h
  obtain ⟨⟨ws, hd⟩, c, cv, b, rfl, hcv, e, q⟩ := h
  obtain ⟨u1, u2, rfl, r1, r2⟩ := vals2 r
  cases (show u1 = Value.ref a from r1)
  have ec := hcv.eq r2
  subst ec
  obtain ⟨od, J⟩ := inst_at I hz hf hd
  exact PySem.W.kia_one (PySem.W.z_kitx_exc C.hg C.hk C.hs C.hd C.ha C.hn C.ht C.hm) I.kIn J e (fun z => nomatch z) fun tk => ⟨.bl b, H, I.kept (t' := tk) fun _ _ z => z, rfl, q⟩
theorem call_isXT {D : Addr} (C : ExcC X.K D) (hz : Zc (.ref D) (some dd) oe) (hf : ∃ vs, oe.data = .fields vs) : CallR (X.suite a ((a, oe) :: pn)) (.builtin "isinstance") (fun xs H Q => (∃ ws, H dd = some (.xd ws)) ∧ rIsXT X.K D a xs H Q) := by
  intro pins s σ H xs us Q I r h
  obtain ⟨⟨ws, hd⟩, tp, cs, ws', b, rfl, hT, k, e, q⟩ := h
  obtain ⟨u1, u2, rfl, r1, r2⟩ := vals2 r
  cases (show u1 = Value.ref a from r1)
  cases (show u2 = Value.ref tp from r2)
  obtain ⟨od, J⟩ := inst_at I hz hf hd
  obtain ⟨_, its, rv, o, h1, h2, n, h3⟩ := (show ObjOk X.prog X.w H s.heap tp (.tup cs) from I.hok tp _ hT)
  have e3 := ClsV.all k rv
  subst e3
  obtain ⟨oc, od', dt, sl⟩ := o
  simp only at h2 h3
  subst h2 h3
  exact PySem.W.kia_tup (PySem.W.z_kitx_exc C.hg C.hk C.hs C.hd C.ha C.hn C.ht C.hm) I.kIn J h1 e (fun z => nomatch z) fun tk => ⟨.bl b, H, I.tok tk, rfl, q⟩
theorem kitAny_ex {K : PySem.W.Frag} {ε : String → Addr} {kn : List String} {sub : String → String → Bool} (T : XT K ε kn sub) (hn : n ∈ kn) : ∀ {Ts : List String}, (∀ m ∈ Ts, m ∈ kn) → PySem.W.kitAny K (.ref (ε n)) (Ts.map fun m => .ref (ε m)) = some (Ts.any (sub n))
  | [], _ => kitAny_nil
  | m :: Ts, h => by
    rw [List.map_cons, List.any_cons]
    refine kitAny_cons (T.kit n hn m (h m List.mem_cons_self)) (fun hb => ?_) (fun hb => by rw [hb]; rfl)
    rw [hb, Bool.false_or]
    exact kitAny_ex T hn fun m' hm => h m' (List.mem_cons_of_mem _ hm)
theorem clsv_refs {ε : String → Addr} : ∀ Ts : List String, Paired ClsV (Ts.map fun m => V.ref (ε m)) (Ts.map fun m => Value.ref (ε m))
  | [] => .nil
  | _ :: r => .cons (.own _) (clsv_refs r)
variable {kn : List String} {sub : String → String → Bool} {q1 q2 : Pos} {k : Nat} {es : List Expr}
/-- isinstance(e, (A, B, ..)) -/
theorem z_exIT {Ts : List String} (T : XT X.K c.ε kn sub) (hi : X.mg "isinstance" = none) (hz : Zc (.ref (c.ε n)) (some dd) oe) (hf : ∃ vs, oe.data = .fields vs) (hd : F0 dd = some (.xd ws))
    (he : PE (X.suite a ((a, oe) :: pn)) e (tVar i)) (ht : PA (X.suite a ((a, oe) :: pn)) es (tK (Ts.map fun m => V.ref (c.ε m)))) (hl : Ts.length ≤ 100 := by decide) (hg : Gl (X.suite a ((a, oe) :: pn)) "isinstance" := by rfl)
    (hs : starEach [e, .Tuple es k q2] X.env = (false, eval e X.env) :: starEach [.Tuple es k q2] X.env := by rfl) (hs2 : starEach [.Tuple es k q2] X.env = (false, eval (.Tuple es k q2) X.env) :: starEach [] X.env := by rfl)
    (hpl : (backTo pos (starEach [.Tuple es k q2] X.env)).any (·.1) = false := by rfl) :
    PE (X.suite a ((a, oe) :: pn)) (.Call (.Name "isinstance" p) [e, .Tuple es k q2] [] pos) (lowE ⟨c, H0, F0, ρ0, some (i, a), WF⟩ (exI kn sub n Ts)) := by
  by_cases hn : n ∈ kn
  · refine (pe_callB (call_isXT (T.cl n hn) hz hf) hg hi (by decide +kernel) (pa_cons he (pa_cons (pe_tup ht) pa_nil hs2) hs) (by decide) (by decide) hs hpl).imp fun σ H Q h => ?_
    obtain ⟨hI, F, ρ, μ, Γ, S, G, r, μ', e, P⟩ := h
    unfold exI at e
    split at e
    · rename_i hc
      rw [Bool.and_eq_true] at hc
      cases e
      have l := S.le
      refine ⟨.ref a, hI i a rfl, by rw [List.length_map]; exact sz (by omega), fun q hq => ?_⟩
      have hdH : H dd = some (.xd ws) := S.sub _ _ (l.sub _ _ hd)
      exact ⟨⟨ws, by rw [upd_ne (ne_of_none hdH hq)]; exact hdH⟩, q, _, _, _, rfl, upd_same, clsv_refs Ts, kitAny_ex T hn (fun m hm => by have := List.all_eq_true.mp hc.2 m hm; simpa using this), P.val (S.junk hq _) (.bl _)⟩
    · cases e
  · refine ⟨fun pins s σ H Q I h => ?_⟩
    obtain ⟨hI, F, ρ, μ, Γ, S, G, r, μ', e, P⟩ := h
    unfold exI at e
    rw [if_neg (by simp [hn])] at e
    cases e
theorem z_exI {m : String} {T' : Str} (T : XT X.K c.ε kn sub) (hi : X.mg "isinstance" = none) (hz : Zc (.ref (c.ε n)) (some dd) oe) (hf : ∃ vs, oe.data = .fields vs) (hd : F0 dd = some (.xd ws))
    (he : PE (X.suite a ((a, oe) :: pn)) e (tVar i)) (ht : PE (X.suite a ((a, oe) :: pn)) (.Name T' p1) (tC (.ref (c.ε m)))) (hg : Gl (X.suite a ((a, oe) :: pn)) "isinstance" := by rfl)
    (hs : starEach [e, .Name T' p1] X.env = (false, eval e X.env) :: starEach [.Name T' p1] X.env := by rfl) (hs2 : starEach [.Name T' p1] X.env = (false, eval (.Name T' p1) X.env) :: starEach [] X.env := by rfl)
    (hpl : (backTo pos (starEach [.Name T' p1] X.env)).any (·.1) = false := by rfl) :
    PE (X.suite a ((a, oe) :: pn)) (.Call (.Name "isinstance" p) [e, .Name T' p1] [] pos) (lowE ⟨c, H0, F0, ρ0, some (i, a), WF⟩ (exI kn sub n [m])) := by
  by_cases hn : n ∈ kn
  · refine (pe_callB (call_isX (T.cl n hn) hz hf) hg hi (by decide +kernel) (pa_cons he (pa_cons ht pa_nil hs2) hs) (by decide) (by decide) hs hpl).imp fun σ H Q h => ?_
    obtain ⟨hI, F, ρ, μ, Γ, S, G, r, μ', e, P⟩ := h
    unfold exI at e
    split at e
    · rename_i hc
      simp only [Bool.and_eq_true, List.all_cons, List.all_nil, Bool.and_true] at hc
      cases e
      have l := S.le
      have hdH : H dd = some (.xd ws) := S.sub _ _ (l.sub _ _ hd)
      exact ⟨.ref a, hI i a rfl, ⟨ws, hdH⟩, _, _, _, rfl, .own _, T.kit n hn m (by simpa using hc.2), by simpa using P.val S (.bl _)⟩
    · cases e
  · refine ⟨fun pins s σ H Q I h => ?_⟩
    obtain ⟨hI, F, ρ, μ, Γ, S, G, r, μ', e, P⟩ := h
    unfold exI at e
    rw [if_neg (by simp [hn])] at e
    cases e
theorem z_exV (T : XT X.K c.ε kn sub) (hi : X.mg "isinstance" = none) (hv : X.mg "ValueError" = none) (hz : Zc (.ref (c.ε n)) (some dd) oe) (hf : ∃ vs, oe.data = .fields vs) (hd : F0 dd = some (.xd ws))
    (he : PE (X.suite a ((a, oe) :: pn)) e (tVar i)) (hg : Gl (X.suite a ((a, oe) :: pn)) "isinstance" := by rfl) (hg2 : Gl (X.suite a ((a, oe) :: pn)) "ValueError" := by rfl)
    (hs : starEach [e, .Name "ValueError" p1] X.env = (false, eval e X.env) :: starEach [.Name "ValueError" p1] X.env := by rfl) (hs2 : starEach [.Name "ValueError" p1] X.env = (false, eval (.Name "ValueError" p1) X.env) :: starEach [] X.env := by rfl)
    (hpl : (backTo pos (starEach [.Name "ValueError" p1] X.env)).any (·.1) = false := by rfl) :
    PE (X.suite a ((a, oe) :: pn)) (.Call (.Name "isinstance" p) [e, .Name "ValueError" p1] [] pos) (lowE ⟨c, H0, F0, ρ0, some (i, a), WF⟩ (exV kn n)) := by
  by_cases hn : n ∈ kn
  · refine (pe_callB (call_isX (T.cl n hn) hz hf) hg hi (by decide +kernel) (pa_cons he (pa_cons (pe_ty (n := "ValueError") hv (by decide +kernel) hg2) pa_nil hs2) hs) (by decide) (by decide) hs hpl).imp fun σ H Q h => ?_
    obtain ⟨hI, F, ρ, μ, Γ, S, G, r, μ', e, P⟩ := h
    unfold exV at e
    split at e
    · cases e
      have l := S.le
      have hdH : H dd = some (.xd ws) := S.sub _ _ (l.sub _ _ hd)
      exact ⟨.ref a, hI i a rfl, ⟨ws, hdH⟩, _, _, _, rfl, .ty _, T.ve n hn, P.val S (.bl _)⟩
    · cases e
  · refine ⟨fun pins s σ H Q I h => ?_⟩
    obtain ⟨hI, F, ρ, μ, Γ, S, G, r, μ', e, P⟩ := h
    unfold exV at e
    rw [if_neg (by simp [hn])] at e
    cases e
end

/-! ### the end -/
def spLaw (K : PySem.W.Frag) : Sp := fun vs H Q _ => ∃ (a : Addr) (ns : List Int), vs = [.ref a] ∧ SqL K H a (ns.map V.int) ∧ ns.length ≤ 63 ∧ ∀ H', Q (.bl true) H'
theorem dpa_of_ints {K : PySem.W.Frag} {F : Hp} : ∀ ns : List Int, DpAll K F (ns.map V.int) (ns.map .int)
  | [] => .nil
  | _ :: r => .cons (.int _) (dpa_of_ints r)
theorem z_law {P : Program} {w : World} {K : PySem.W.Frag} {mg : Str → Option Value} {base : Heap} {ε : String → Addr} {k : Nat} {f : Addr} {fd : FuncData} {ps : List Str} {sem : SemF} (F : FnOk P w K mg base (L2.CX P w) k f fd ps (FnZ ⟨K, ε⟩ sem))
    (hp : ps.length = 1) (h : ∀ ns : List Int, ns.length ≤ 63 → ∃ μ, sem [.d (.list (ns.map .int))] [] = some (.ok (.d (.bool true)), μ)) : FnOk P w K mg base CX0 k f fd ps (spLaw K) where
  len := fun vs H Q E ⟨a, ns, e, _⟩ => by subst e; exact hp.symm
  run := fun A outer s H args us vs Q E hr e0 hb rv ⟨a, ns, e, hs, hl, q⟩ => by
    obtain ⟨μ, e1⟩ := h ns hl
    subst e
    refine codeAny_mono (F.run A outer s H args us _ Q (fun _ _ _ => False) hr e0 hb rv ⟨H, [], [], _, Sta.empty (Same.refl H), .cons (show Ra ⟨K, ε⟩ H [] (.d (.list (ns.map .int))) (.ref a) from Dp.lst hs (dpa_of_ints ns)) .nil, _, _, e1, fun F' ρ' H' S' v hv => ?_⟩) fun r s' hq => ?_
    · cases hv
      exact q H'
    · cases r with
      | ok fl =>
        cases fl with
        | ret u => exact hq
        | next => exact hq
        | brk => exact hq
        | cont => exact hq
      | error er =>
        obtain ⟨_, _, _, _, _, _, _, _, _, _, _, _, z⟩ := hq
        exact z.elim
end ZL

/-! Layer Z, part K: calls by a bundle, keywords, further methods, len(set(..)). -/
namespace ZL
open PySem PySem.Spec PyProof.Rows L2
/-- a def of the module, as the calls want it -/
structure CalZ (P : Program) (w : World) (K : PySem.W.Frag) (mg : Str → Option Value) (base : Heap) (c : Cf) (k : Nat) (x : Str) (ps : List Str) (sem : SemF) : Prop where
  ex : ∃ f fd, FnOk P w K mg base (L2.CX P w) k f fd ps (FnZ c sem) ∧ mg x = some (.ref f) ∧ PySem.W.keepIn K (.ref f) = true ∧ Binds K fd ps [] ∧ ∃ oc od osl, K.lookup f = some ⟨oc, od, .func fd, osl⟩
section
variable {X : Cx} {Y : Ctx} {k j : Nat} {ps : List Str} {x : Str} {p pos : Pos} {e : Expr} {es : List Expr} {fa : Sem (List A)} {sem : SemF}
theorem z_callC (m : Mode) (C : CalZ X.prog X.w X.K X.mg X.base Y.c k x ps sem) (hr : Room j X.A) (tk : Takes X Y.W) (ha : PA X (e :: es) (lowA Y fa)) (hkj : k ≤ j := by decide) (hg : Gl X x := by rfl) (hdb : (x == ("__debug__" : Str)) = false := by decide)
    (he : starEach (e :: es) X.env = (false, eval e X.env) :: starEach es X.env := by rfl) (hpl : (backTo pos (starEach es X.env)).any (·.1) = false := by rfl) : PE X (.Call (.Name x p) (e :: es) [] pos) (lowE Y (callE m sem fa)) := by
  obtain ⟨f, fd, F, hm, hk, hb, _⟩ := C.ex
  exact z_call m F (hr.mono hkj) hm hk hb tk ha hg hdb he hpl
theorem z_callC0 (m : Mode) (C : CalZ X.prog X.w X.K X.mg X.base Y.c k x ps sem) (hr : Room j X.A) (hkj : k ≤ j := by decide) (hg : Gl X x := by rfl) (hdb : (x == ("__debug__" : Str)) = false := by decide) : PE X (.Call (.Name x p) [] [] pos) (lowE Y (call0 m sem)) := by
  obtain ⟨f, fd, F, hm, hk, hb, _⟩ := C.ex
  exact z_call0 m F (hr.mono hkj) hm hk hb hg hdb
/-! keywords alone: ix tells, parameter by parameter, which keyword's value it gets -/
def permL {α : Type} (ix : List Nat) (xs : List α) : List α := ix.filterMap fun i => xs[i]?
theorem perm_rel {α β : Type} {r : α → β → Prop} {xs : List α} {ys : List β} (h : Paired r xs ys) : ∀ ix : List Nat, Paired r (permL ix xs) (permL ix ys)
  | [] => .nil
  | i :: ix => by
    have t := perm_rel h ix
    unfold permL at t ⊢
    rw [List.filterMap_cons, List.filterMap_cons]
    cases e : xs[i]? with
    | none =>
      have e' : ys[i]? = none := by rw [List.getElem?_eq_none_iff] at e ⊢; rw [← paired_len h]; exact e
      rw [e']; exact t
    | some x =>
      obtain ⟨y, e', hr⟩ := paired_get h e
      rw [e']; exact .cons hr t
structure CalK (P : Program) (w : World) (K : PySem.W.Frag) (mg : Str → Option Value) (base : Heap) (c : Cf) (k : Nat) (x : Str) (ps ks : List Str) (ix : List Nat) (sem : SemF) : Prop where
  ex : ∃ f fd, FnOk P w K mg base (L2.CX P w) k f fd ps (FnZ c sem) ∧ mg x = some (.ref f) ∧ PySem.W.keepIn K (.ref f) = true ∧ ∀ (s : Shared) (ws : List Value), (permL ix ws).length = ps.length → BindsTo s fd ⟨[], ks.zip ws⟩ (ps.zip (permL ix ws))
theorem z_kwnil {kws : List Keyword} (h : kws = [] := by rfl) : PK X kws (lowA Y anil) := by
  subst h
  refine ⟨fun pos pins s σ H Q I h => ?_⟩
  obtain ⟨hI, F, ρ, μ, Γ, S, G, r, μ', e, P⟩ := h
  cases e
  exact (pk_nil (X := X)).run pos pins s σ H Q I (P F ρ H (Le.refl _ _) S [] .nil)
theorem z_kwcons {nm : Option Str} {kpos : Pos} {e : Expr} {kws : List Keyword} {fe : Sem A} {fr : Sem (List A)} (he : PE X e (lowE Y fe)) (hr : PK X kws (lowA Y fr)) : PK X (⟨nm, e, kpos⟩ :: kws) (lowA Y (acons fe fr)) := by
  refine ⟨fun pos pins s σ H Q I h => (pk_cons he hr).run pos pins s σ H Q I ?_⟩
  exact seq2 (rb := relAs Y) h (mono_A Y) fun F ρ μ Γ H x v y u r μ' hI S G hx hy e P => by
    cases e
    exact P F ρ H (Le.refl _ _) S _ (.cons hx hy)
def kwG {α : Type} (ps : List Str) (ix : List Nat) (z : α) (us ws : List α) : List α := match us with
  | [] => permL ix ws
  | _ => List.replicate (ps.length + 1) z
theorem kwG_rel {α β : Type} {r : α → β → Prop} {ps : List Str} {ix : List Nat} {z : α} {z' : β} (hz : r z z') : ∀ {vs : List α} {us : List β} {zs : List α} {ws : List β}, Paired r vs us → Paired r zs ws → Paired r (kwG ps ix z vs zs) (kwG ps ix z' us ws)
  | _, _, _, _, .nil, h => perm_rel h ix
  | _, _, _, _, .cons _ _, _ => paired_rep hz _
theorem z_callKw (m : Mode) {ks : List Str} {ix : List Nat} {kws : List Keyword} (C : CalK X.prog X.w X.K X.mg X.base Y.c k x ps ks ix sem) (hr : Room j X.A) (tk : Takes X Y.W) (hkw : PK X kws (lowA Y fa)) (hkj : k ≤ j := by decide) (hg : Gl X x := by rfl) (hdb : (x == ("__debug__" : Str)) = false := by decide)
    (hall : (backToKw pos (keywordEach kws X.env)).all (·.1.isSome) = true := by rfl) (hks : (backToKw pos (keywordEach kws X.env)).filterMap (·.1) = ks := by rfl)
    (hpl : ((backTo pos (starEach [] X.env)).any (·.1) || (backToKw pos (keywordEach kws X.env)).any (·.1.isNone)) = false := by rfl) :
    PE X (.Call (.Name x p) [] kws pos) (lowE Y (callE m sem (sb fa fun xs _ μ => some (.ok (permL ix xs), μ)))) := by
  obtain ⟨f, fd, F, hm, hk, hb⟩ := C.ex
  have hB : KBinds X.K fd ps ks (kwG ps ix Value.none) (kwG ps ix V.non) := ⟨fun s us ws _ hl => by
    cases us with
    | nil => exact hb s ws hl
    | cons u us => exact absurd hl (by simp [kwG]), fun r rz => kwG_rel (r := RelV) (show RelV V.non Value.none from rfl) r rz⟩
  refine ⟨fun pins s σ H Q I h => ?_⟩
  refine wpAny_Call_Name_kw (ld_glob I hg hm ?_ hdb)
  refine PySem.W.callWith_KW0 (h₀ := X.base) I.ok.mod.kin hk hall ?_ hpl
  obtain ⟨hI, F0, ρ, μ, Γ, S, G, r, μ', e, P⟩ := h
  refine thn (hkw.run pos pins s σ H (fun zs H2 => FnZ Y.c sem (permL ix zs) H2 Q (fun cls d H' => Y.W cls d σ H')) I ?_) fun ws s2 ⟨zs, H2, I2, rz, q2⟩ => ⟨I2.kIn, ?_⟩
  · unfold callE at e
    refine seqV (ra := relAs Y) hI S G (fa := fa) (k := fun xs => callM m sem (permL ix xs)) (r := r) (μ' := μ') (rc := relA Y) ?_ P fun F1 ρ1 μ1 H1 x v l S1 hx e1 => ?_
    · unfold sb at e ⊢
      rcases h0 : fa Γ μ with _ | ⟨r0, μ0⟩
      · rw [h0] at e; exact e
      · rw [h0] at e
        cases r0 with
        | ok x => exact e
        | exc n fs => exact e
    · refine callM_ok S1 (perm_rel hx ix) e1 (P.mono l) fun n fs F' ρ' H' dd ws er l S1 hd hf => ?_
      subst er
      exact P F' ρ' H' (Le.trans (by assumption) l) S1 dd ws hd hf
  · rw [hks]
    have r2 := hB.rel (vs := []) (us := []) .nil rz
    have hl : (kwG ps ix Value.none [] ws).length = ps.length := r2.length.symm.trans (F.len _ _ _ _ q2)
    have hrun := F.run X.A X.stack s2 H2 ⟨[], ks.zip ws⟩ _ _ Q _ (hr.mono hkj) I2.env0 (hB.to s2 [] ws I2.kIn hl) r2 q2
    refine wpAny_call (codeAny_mono hrun fun fin s' hq => ?_)
    match fin, hq with
    | .error u, hq => exact passAt tk σ pins H2 s2 u s' I2 hq
    | .ok (.ret u), hq => exact I2.after hq
end
/-! ### further methods of a list cell -/
section
variable {X : Cx} {Y : Ctx} {pos p p1 : Pos} {a b c : Expr} {fa fb fc : Sem A}
/-- a method with two arguments -/
def mt2 (k : Nat → List A → A → A → Store → Option (A × Cell)) (fo fa fb : Sem A) : Sem A := sb fo (gd fun x => sb (acons fa (acons fb anil)) fun as _ μ => match isL μ x, as with
  | some (j, xs), [y, z] => match k j xs y z μ with
    | some (z, c) => some (.ok z, μ.set j c)
    | none => none
  | _, _ => none)
def kIns : Nat → List A → A → A → Store → Option (A × Cell) := fun _ xs y z _ => match y with
  | .d (.int i) => if xs.length < 1000000 then (if 0 ≤ i then (if i < 1000000000 then some (.d .none, .lst (xs.take i.toNat ++ [z] ++ xs.drop i.toNat)) else none) else none) else none
  | _ => none
def insE := mt2 kIns
theorem paired_take {α β : Type} {r : α → β → Prop} : ∀ {xs : List α} {ys : List β} (n : Nat), Paired r xs ys → Paired r (xs.take n) (ys.take n)
  | _, _, n, .nil => by simp; exact .nil
  | _, _, 0, .cons _ _ => by simp; exact .nil
  | _, _, n + 1, .cons h t => by simp only [List.take_succ_cons]; exact .cons h (paired_take n t)
theorem paired_drop {α β : Type} {r : α → β → Prop} : ∀ {xs : List α} {ys : List β} (n : Nat), Paired r xs ys → Paired r (xs.drop n) (ys.drop n)
  | _, _, n, .nil => by simp; exact .nil
  | _, _, 0, .cons h t => by simp only [List.drop_zero]; exact .cons h t
  | _, _, n + 1, .cons h t => by simp only [List.drop_succ_cons]; exact paired_drop n t
theorem z_insert {apos : Pos} (ho : PE X a (lowE Y fa)) (hb : PE X b (lowE Y fb)) (hc : PE X c (lowE Y fc)) (hK : Y.c.K = X.K := by rfl)
    (hbase : attributeBase a "insert" X.env (eval a X.env) = eval a X.env := by rfl)
    (hfew : ((backTo pos (starEach (b :: [c]) X.env)).all (fun x => !x.1) && (backToKw pos (keywordEach [] X.env)).all (fun x => x.1.isSome)
      && decide ((b :: [c]).length + ([] : List Keyword).length + (if ([] : List Keyword).isEmpty then 0 else 1) < 30)) = true := by rfl)
    (hline : (apos.endLine == pos.line) = true := by rfl) (hs : starEach (b :: [c]) X.env = (false, eval b X.env) :: starEach [c] X.env := by rfl) (hs2 : starEach (c :: []) X.env = (false, eval c X.env) :: starEach [] X.env := by rfl) (hplain : (backTo pos (starEach [c] X.env)).any (·.1) = false := by rfl) :
    PE X (.Call (.Attribute a "insert" apos) [b, c] [] pos) (lowE Y (insE fa fb fc)) := by
  refine (pe_bm PySem.F.plainAttrs_list PySem.F.slot_list_insert PySem.F.type_list_insert mt_insert ho (z_cons hb (z_cons hc z_nil hs2) hs) hbase hfew hline hs hplain).imp fun σ H Q h => ?_
  obtain ⟨hI, F, ρ, μ, Γ, S, G, rs, μ', e, P⟩ := h
  refine seqV (ra := relA Y) hI S G e P fun F1 ρ1 μ1 H1 x v l S1 hx e1 => ?_
  unfold gd at e1
  split at e1
  · rename_i q eq
    obtain ⟨j, xs⟩ := q
    obtain ⟨ad, vs, rfl, h1, h2, h3, h4, h5⟩ := isL_ok S1 hx eq
    refine ⟨.inl ⟨rfl, _, by rw [← hK]; exact SqL.of h5⟩, seqV (ra := relAs Y) hI S1 (G.mono l) e1 (P.mono l) fun F2 ρ2 μ2 H2 as us l2 S2 has e2 => ?_⟩
    split at e2
    · rename_i j2 xs2 y z eq2
      split at e2
      · rename_i z' c ek
        cases e2
        obtain ⟨ad2, vs2, ead, g1, g2, g3, g4, g5⟩ := isL_ok S2 (Ra.mono l2 hx) eq2
        cases ead
        unfold kIns at ek
        split at ek
        · rename_i i
          split at ek
          · rename_i hz
            split at ek
            · rename_i hi0
              split at ek
              · rename_i hi1
                cases ek
                cases has with
                | cons hy hn =>
                  cases hn with
                  | cons hz' hn =>
                    cases hn
                    cases hy
                    refine ⟨ad, vs2, i, _, rfl, rfl, g5, by rw [← paired_len g4]; exact sz1 hz, hi0, by omega, ?_⟩
                    exact P F2 ρ2 _ (l.trans l2) (S2.write g1 g2 (by simp) _ ⟨g3, _, paired_app (paired_app (paired_take _ g4) (.cons hz' .nil)) (paired_drop _ g4), upd_same⟩) .non .non
              · cases ek
            · cases ek
          · cases ek
        · cases ek
      · cases e2
    · cases e2
  · cases e1
def kExt : Nat → List A → A → Store → Option (A × Cell) := fun _ xs y μ => match isL μ y with
  | some (_, zs) => if xs.length + zs.length ≤ 1000000 then some (.d .none, .lst (xs ++ zs)) else none
  | none => none
def extE := mt1 kExt
theorem z_extend {apos : Pos} (ho : PE X a (lowE Y fa)) (hb : PE X b (lowE Y fb)) (hK : Y.c.K = X.K := by rfl)
    (hbase : attributeBase a "extend" X.env (eval a X.env) = eval a X.env := by rfl)
    (hfew : ((backTo pos (starEach (b :: []) X.env)).all (fun x => !x.1) && (backToKw pos (keywordEach [] X.env)).all (fun x => x.1.isSome)
      && decide ((b :: []).length + ([] : List Keyword).length + (if ([] : List Keyword).isEmpty then 0 else 1) < 30)) = true := by rfl)
    (hline : (apos.endLine == pos.line) = true := by rfl) (hs : starEach (b :: []) X.env = (false, eval b X.env) :: starEach [] X.env := by rfl) (hplain : (backTo pos (starEach [] X.env)).any (·.1) = false := by rfl) :
    PE X (.Call (.Attribute a "extend" apos) [b] [] pos) (lowE Y (extE fa fb)) :=
  z_mt1 PySem.F.slot_list_extend PySem.F.type_list_extend mt_extend (fun F ρ μ H j xs y z c a vs u Q S h1 h2 h3 h4 h5 hy e q => by
    unfold kExt at e
    split at e
    · rename_i i zs eq
      split at e
      · rename_i hz
        cases e
        obtain ⟨b, ws, rfl, g1, g2, g3, g4, g5⟩ := isL_ok S hy eq
        exact ⟨a, b, vs, ws, rfl, rfl, h5, g5, by rw [← paired_len h4, ← paired_len g4]; exact sz hz, q _ _ ⟨_, rfl, paired_app h4 g4⟩ Dp.non⟩
      · cases e
    · cases e) ho hb hK hbase hfew hline hs hplain
/-! len(set(..)) of a list of ints -/
def lenSet (ns : List Int) : Nat := (PyProof.Rows.firstMet (fun i => ns.getD i 0) ns.length).length
def lenSetE (fa : Sem A) : Sem A := sb fa fun x _ μ => match rd μ x with
  | some (.list ds) => match intsD ds with
    | some ns => if ns.length ≤ 4000 then some (.ok (.d (.int (lenSet ns))), μ) else none
    | none => none
  | _ => none
theorem z_lenSet {q : Pos} (hK : Y.c.K = X.K := by rfl) (hm : X.mg "len" = none) (hm2 : X.mg "set" = none) (ha : PE X a (lowE Y fa)) (hg : Gl X "len" := by rfl) (hg2 : Gl X "set" := by rfl) (hc : X.calm = true := by rfl)
    (na : starEach [a] X.env = (false, eval a X.env) :: starEach [] X.env := by rfl) : PE X (.Call (.Name "len" p) [.Call (.Name "set" p1) [a] [] q] [] pos) (lowE Y (lenSetE fa)) := by
  refine ⟨fun pins s σ H Q I h => ?_⟩
  refine Call_ (ld_blt I hg hm PySem.boot_len ?_)
  refine PyProof.Rows.callWith_builtin1 (PyProof.Rows.args_cons ?_ rfl) rfl rfl
  refine Call_ (ld_blt I hg2 hm2 boot_set ?_)
  have h1 : lowE Y fa σ H fun v H1 => ∃ (l : Addr) (ns : List Int), v = .ref l ∧ SqL Y.c.K H1 l (ns.map V.int) ∧ ns.length ≤ 4000 ∧ Q (.int (lenSet ns : Nat)) H1 := seq1 h fun F ρ μ Γ H x v r μ' hI S G hx e P => by
    split at e
    · rename_i ds er
      split at e
      · rename_i ns en
        split at e
        · rename_i hl
          cases e
          obtain ⟨l, vs, rfl, h1, h2⟩ := S.rd hx er
          have := intsD_eq en
          subst this
          have := dpa_ints h2
          subst this
          exact ⟨l, ns, rfl, h1, hl, P.val S (.int _)⟩
        · cases e
      · cases e
    · cases e
  refine PyProof.Rows.callWith_type1 (PyProof.Rows.args_cons (thn (ha.run pins s σ H _ I h1) fun v s1 z => PyProof.Rows.args_nil ?_) na) na rfl
  obtain ⟨x, H1, I1, r1, l, ns, ex, hq, hl, q1⟩ := z
  subst ex
  cases r1
  rw [hK] at hq
  obtain ⟨its, r, pl, hz⟩ := I1.list hq
  have hlen : its.toArray.size = ns.length := by rw [List.size_toArray, ← r.length, List.length_map]
  refine call_set_list (I1.ok.hd hc) pl.isList (by simpa using RZ.intsAre_vals r) (by rw [hlen]; unfold scanBound; omega) fun h' tk hS hk => ?_
  refine PyProof.Rows.args_nil ?_
  rw [hlen] at hS
  obtain ⟨o, es, ep, t, ho, hex, hd, _, _, _, hf, hn⟩ := hS
  have I2 : Inv X pins σ H1 { s1 with heap := h', toks := tk } := I1.kept fun b o e => hk b o (Heap.lt_size e) e
  have hb : (PyProof.Rows.firstMet (fun i => ns.getD i 0) ns.length).length ≤ ns.length := PyProof.Rows.firstMet_length_le _ _
  exact call_len_set ho hex hd hf (by rw [hn]; omega) ⟨.int (lenSet ns : Nat), H1, I2.tok _, ⟨_, by rw [hn]; rfl⟩, q1⟩
end
end ZL

/-! Layer Z, part M: defs of the module, guards, recursion. -/
namespace ZL
open PySem PySem.Spec PyProof.Rows L2
/-- a def as the top has made it -/
structure DefZ (K : PySem.W.Frag) (mg : Str → Option Value) (x : Str) (st : Stmt) (ps : List Str) : Prop where
  ex : ∃ f fd, Fun K x x st f fd ∧ mg x = some (.ref f) ∧ Binds K fd ps []
section
variable {P : Program} {w : World} {K : PySem.W.Frag} {mg : Str → Option Value} {base : Heap} {ε : String → Addr} {x : Str} {st : Stmt} {N ps : List Str} {k : Nat} {body : SemS}
theorem z_def (D : DefZ K mg x st ps) (S : FnScope N ps (defScope st))
    (hbody : ∀ (f : Addr) (cdv : Value) (A : Around) (outer : List Env) (s : Shared) (H : Hp) (E : XK) (F0 : Hp) (ρ0 : List Addr), Room k (A.deeper (envOfC x (defScope st) s.heap.objs.size f cdv)) →
      PSs (cxOf (L2.CX P w) P w K mg base N x (defScope st) f cdv A outer s H E) (defBody st) (lowS ⟨⟨K, ε⟩, H, F0, ρ0, none, fun cls d _ H => E cls d H⟩ body)) :
    CalZ P w K mg base ⟨K, ε⟩ (k + 1) x ps (fnS ps.length N.length body) := by
  obtain ⟨f, fd, F, hm, hb⟩ := D.ex
  obtain ⟨_, _, _, _, _, _, _, _, _, _, lk, _⟩ := F.ex
  exact ⟨f, fd, z_fn F S (hbody f), hm, F.kp, hb, _, _, _, lk⟩
theorem z_nodef (D : DefZ K mg x st ps) (c : Cf) (k : Nat) : CalZ P w K mg base c k x ps (fun _ _ => none) := by
  obtain ⟨f, fd, F, hm, hb⟩ := D.ex
  refine ⟨f, fd, ⟨fun vs H Q E h => ?_, fun A st s H args us vs Q E _ _ _ _ h => ?_⟩, hm, F.kp, hb, (by obtain ⟨_, _, _, _, _, _, _, _, _, _, lk, _⟩ := F.ex; exact ⟨_, _, _, lk⟩)⟩
  · obtain ⟨_, _, _, _, _, _, _, _, e, _⟩ := h
    cases e
  · obtain ⟨_, _, _, _, _, _, _, _, e, _⟩ := h
    cases e
end
/-! ### a guard -/
def gdS (b : Bool) (g : SemS) : SemS := if b then g else never
section
variable {X : Cx} {Y : Ctx} {g : SemS}
theorem z_nevers : ∀ sts : List Stmt, PSs X sts (lowS Y never)
  | [] => (z_snil (X := X) (Y := Y)).imp fun D σ H h => by
    obtain ⟨_, _, _, _, _, _, _, _, _, e, _⟩ := h
    cases e
  | st :: rest => (z_seq (X := X) (Y := Y) (z_never (st := st)) (z_nevers rest)).imp fun D σ H h => by
    obtain ⟨_, _, _, _, _, _, _, _, _, e, _⟩ := h
    cases e
theorem z_gdS {b : Bool} {sts : List Stmt} (h : b = true → PSs X sts (lowS Y g)) : PSs X sts (lowS Y (gdS b g)) := by
  unfold gdS
  cases b with
  | true => exact h rfl
  | false => exact z_nevers sts
theorem z_gdS1 {b : Bool} {st : Stmt} (h : b = true → PS X st (lowS Y g)) : PS X st (lowS Y (gdS b g)) := by
  unfold gdS
  cases b with
  | true => exact h rfl
  | false => exact z_never
end
theorem mem_of {n : String} {kn : List String} (h : kn.contains n = true) : n ∈ kn := List.contains_iff_mem.mp h
/-- which class is what, by questions of the top -/
theorem exm_by {K : PySem.W.Frag} {n m : Addr} {b : Bool} (h1 : PySem.W.subIn K (.ref m) (.type "BaseException") = some true) (h2 : PySem.W.isClsIn K m = true) (h3 : PySem.W.typeIn K (.ref m) = some (.type "type")) (h4 : PySem.W.subIn K (.ref n) (.ref m) = some b) :
    PySem.W.exmOne K (.ref n) (.ref m) = some b ∧ PySem.W.kitCls K (.ref n) (.ref m) = some b := by
  have e2 : ((PySem.W.clsIn K m).isSome && PySem.W.typeIn K (.ref m) == some (.type "type")) = true := by
    have h2' : (PySem.W.clsIn K m).isSome = true := h2
    rw [h2', h3] <;> rfl
  have e3 : PySem.W.kitCls K (.ref n) (.ref m) = some b := by
    unfold PySem.W.kitCls
    simp only [e2, if_true]
    exact h4
  have e1 : (PySem.W.subIn K (.ref m) (.type "BaseException") == some true) = true := by rw [h1] <;> rfl
  refine ⟨?_, e3⟩
  unfold PySem.W.exmOne
  rw [if_pos e1]
  exact e3
theorem kitV_by {K : PySem.W.Frag} {n : Addr} (h : PySem.W.subIn K (.ref n) (.type "ValueError") = some true) : PySem.W.kitOne K (.ref n) (.type "ValueError") = some true := by
  have e1 : PySem.W.kitMeta "ValueError" = true := by first | rfl | decide +kernel
  unfold PySem.W.kitOne PySem.W.kitCls
  dsimp only
  rw [e1, if_pos rfl, h]
  split <;> rfl
theorem kit_by {K : PySem.W.Frag} {n m : Addr} {b : Bool} (h : PySem.W.kitCls K (.ref n) (.ref m) = some b) (hs : PySem.W.subIn K (.ref n) (.ref n) = some true) (h4 : PySem.W.subIn K (.ref n) (.ref m) = some b) : PySem.W.kitOne K (.ref n) (.ref m) = some b := by
  unfold PySem.W.kitOne
  split
  · rename_i e
    have e' : n = m := by simpa using e
    subst e'
    rw [hs] at h4
    exact h4
  · exact h
end ZL

/-! Layer Z, part R: calls within an except suite of defs that let nothing out (no loop in them). -/
namespace ZL
open PySem PySem.Spec PyProof.Rows L2
abbrev RoomQ := L2H.RoomH
abbrev noX : XK := fun _ _ _ => False
structure FnQ (P : Program) (w : World) (K : PySem.W.Frag) (mg : Str → Option Value) (base : Heap) (k : Nat) (f : Addr) (fd : FuncData) (ps : List Str) (sp : Sp) : Prop where
  len : ∀ vs H Q E, sp vs H Q E → vs.length = ps.length
  go : ∀ (A : Around) (outer : List Env) (s : Shared) (H : Hp) (as : Args) (us : List Value) (vs : List V) (Q : VK), RoomQ k A → Env0 P w K mg base A outer s H → BindsTo s fd as (ps.zip us) → Vals vs us → sp vs H Q noX →
    codeAny (model P w) A (.call (.ref f) as) (CR (L2.CX P w) outer P w H s Q noX) s
/-- the context of a body that runs while something is handled -/
def cxQ (P : Program) (w : World) (K : PySem.W.Frag) (mg : Str → Option Value) (base : Heap) (N : List Str) (qual : Str) (scope : Scope) (f : Addr) (cd : Value) (A : Around) (outer : List Env) (s : Shared) (H : Hp) : Cx :=
  { cxOf (L2.CX P w) P w K mg base N qual scope f cd A outer s H noX with calm := false }
section
variable {P : Program} {w : World} {K : PySem.W.Frag} {mg : Str → Option Value} {base : Heap} {N ps : List Str} {qual : Str} {scope : Scope} {f : Addr} {cd : Value} {A : Around} {outer : List Env} {s : Shared} {H : Hp}
theorem Env0.unmark (e : Env0 P w K mg base A outer s H) : Env0 P w K mg base { A with handled := none } outer s H := ⟨e.frames, e.mod, e.bs, e.bsz, e.funs, e.frf, e.hok, e.bare⟩
theorem inv_quiet {pins : List (Addr × Obj)} {σ : St} {H1 : Hp} {s1 : Shared} (hfr : (A.deeper (envOfC qual scope s.heap.objs.size f cd)).frames = some (envOfC qual scope s.heap.objs.size f cd :: outer)) (I : Inv (cxOf (L2.CX P w) P w K mg base N qual scope f cd { A with handled := none } outer s H noX) pins σ H1 s1) :
    Inv (cxQ P w K mg base N qual scope f cd A outer s H) pins σ H1 s1 :=
  ⟨⟨I.ok.mod, I.ok.kind, I.ok.glob, I.ok.blt, I.ok.above, I.ok.inj, I.ok.has, I.ok.cab, fun z => Bool.noConfusion (show false = true from z), hfr, I.ok.stk, I.ok.exf, I.ok.bs, I.ok.bsz, I.ok.noex, I.ok.exfs, I.ok.funs, I.ok.frf⟩,
    I.os, I.bare, I.base, I.loc, I.cell, I.free, I.freeC, I.pin, I.hok, I.len⟩
end
section
variable {P : Program} {w : World} {K : PySem.W.Frag} {mg : Str → Option Value} {base : Heap} {ε : String → Addr}
theorem fn_quiet {x qual : Str} {st : Stmt} {f : Addr} {fd : FuncData} {N ps : List Str} {k : Nat} {sp : Sp} (F : Fun K x qual st f fd) (S : FnScope N ps (defScope st)) (len : ∀ vs H Q E, sp vs H Q E → vs.length = ps.length)
    (hbody : ∀ (cd : Value) (A : Around) (outer : List Env) (s : Shared) (H : Hp) (vs : List V) (Q : VK), RoomQ k (A.deeper (envOfC qual (defScope st) s.heap.objs.size f cd)) → sp vs H Q noX →
      ∃ t, PSs (cxQ P w K mg base N qual (defScope st) f cd A outer s H) (defBody st) t ∧ t { nx := fun _ H' => Q .non H', rt := Q } (L2.start N vs) H) : FnQ P w K mg base (k + 1) f fd ps sp := by
  obtain ⟨oc, od, kV, doc, pm, an, cd, ct, osl, rfl, lk, hcd⟩ := F.ex
  refine ⟨len, fun A outer s H as us vs Q hr e0 hb rv hsp => ?_⟩
  have hlen := len _ _ _ _ hsp
  have kin : K.In s.heap := e0.mod.kin.keeps fun b o e => (e0.bs b o e).1
  have nl : s.heap.NoLimit := e0.mod.nolimit.keeps fun b o e => (e0.bs b o e).1
  have kinds : ∀ y ∈ ps.zip us, (defScope st).names.lookup y.1 = some .local ∨ ((defScope st).names.lookup y.1 = some .cell ∧ ((cellsFrom (s.heap.objs.size + 1) (defScope st).names []).lookup y.1).isSome = true) := by
    rintro ⟨n, v⟩ hy
    rcases S.par n (List.of_mem_zip hy).1 with l | l
    · exact Or.inl l
    · exact Or.inr ⟨l, PySem.W.cellsFrom_some _ _ _ (Or.inl l)⟩
  refine codeAny_call_function hr.depth (kin _ _ lk) rfl S.co S.gen rfl (PySem.W.codeRec_of kin hcd) (hb _ _ _ _ ?_)
  refine wpAny_newFunctionEnv_cells S.kind kinds fun env he s1 x1 => ?_
  subst he
  refine ⟨nl.keeps x1.toInCall.keep, codeAny_func ?_⟩
  obtain ⟨t, ht, hq⟩ := hbody cd A outer s H vs Q (hr.deeper _) hsp
  have I0 := inv_start (CX := L2.CX P w) (E := noX) (N := N) (A := { A with handled := none }) S rfl (Env0.unmark e0) hlen rv x1
  have I : Inv (cxQ P w K mg base N qual (defScope st) f cd A outer s H) [] (L2.start N vs) H s1 := inv_quiet (Around.frames_deeper e0.frames) I0
  refine wpAny_mono (ht.run [] s1 (L2.start N vs) H _ I hq) (fun fl s2 hs => ?_) fun e s2 hs => hs
  have done : ∀ {σ2 : St} {H2 : Hp} {v : V} {u : Value}, Inv (cxQ P w K mg base N qual (defScope st) f cd A outer s H) [] σ2 H2 s2 → RelV v u → Q v H2 → CE outer P w H s Q u s2 :=
    fun {σ2 H2 v u} J r2 q2 => ⟨v, H2, J.os, J.bare, J.base, J.hok, r2, q2⟩
  cases fl with
  | ret u => obtain ⟨v, σ2, H2, J, r2, q2⟩ := hs; exact done J r2 q2
  | next => obtain ⟨σ2, H2, J, q2⟩ := hs; exact done (v := V.non) (u := Value.none) J rfl q2
  | brk => obtain ⟨_, _, _, q2⟩ := hs; exact q2.elim
  | cont => obtain ⟨_, _, _, q2⟩ := hs; exact q2.elim
theorem z_fnQ {x qual : Str} {st : Stmt} {f : Addr} {fd : FuncData} {N ps : List Str} {k : Nat} {body : SemS} (F : Fun K x qual st f fd) (S : FnScope N ps (defScope st))
    (hbody : ∀ (cd : Value) (A : Around) (outer : List Env) (s : Shared) (H : Hp) (F0 : Hp) (ρ0 : List Addr), RoomQ k (A.deeper (envOfC qual (defScope st) s.heap.objs.size f cd)) →
      PSs (cxQ P w K mg base N qual (defScope st) f cd A outer s H) (defBody st) (lowS ⟨⟨K, ε⟩, H, F0, ρ0, none, WF⟩ body)) :
    FnQ P w K mg base (k + 1) f fd ps (FnZ ⟨K, ε⟩ (fnS ps.length N.length body)) := by
  refine fn_quiet F S (fun vs H Q E h => ?_) fun cd A outer s H vs Q hr h => ?_
  · obtain ⟨F0, ρ0, μ, as, S, hv, r, μ', e, P⟩ := h
    unfold fnS at e
    split at e
    · rename_i hl
      rw [← paired_len hv, hl]
    · cases e
  · obtain ⟨F0, ρ0, μ, as, S0, hv, r, μ', e, P⟩ := h
    refine ⟨_, hbody cd A outer s H F0 ρ0 hr, (fun _ _ e => by cases e), F0, ρ0, μ, as.map some ++ List.replicate (N.length - ps.length) none, S0.toW, ?_, ?_⟩
    · have hlen : vs.length = as.length := (paired_len hv).symm
      unfold fnS at e
      split at e
      · rename_i hl
        unfold L2.start
        rw [hlen, hl]
        exact paired_app (paired_map2 (r' := Ro ⟨K, ε⟩ F0 ρ0) (f := some) (g := some) (fun a b z => z) hv) (paired_rep (show Ro _ _ _ none none from trivial) _)
      · cases e
    · unfold fnS at e
      split at e
      · split at e
        · rename_i Γ μ2 e2
          cases e
          exact ⟨_, _, e2, fun F' ρ' H' l S' σ _ _ => P F' ρ' H' S'.unW .non Dp.non⟩
        · rename_i y μ2 e2
          cases e
          exact ⟨_, _, e2, fun F' ρ' H' l S' v hv => P F' ρ' H' S'.unW v hv⟩
        · rename_i Γ n fs μ2 e2
          cases e
          exact ⟨_, _, e2, fun F' ρ' H' l S' σ dd ws _ _ hd hf => P F' ρ' H' S'.unW dd ws hd hf⟩
        · cases e
      · cases e
end
/-- such a def, as the calls want it -/
structure CalQ (P : Program) (w : World) (K : PySem.W.Frag) (mg : Str → Option Value) (base : Heap) (c : Cf) (k : Nat) (x : Str) (ps : List Str) (sem : SemF) : Prop where
  ex : ∃ f fd, FnQ P w K mg base k f fd ps (FnZ c sem) ∧ mg x = some (.ref f) ∧ PySem.W.keepIn K (.ref f) = true ∧ Binds K fd ps []
theorem z_defQ {P : Program} {w : World} {K : PySem.W.Frag} {mg : Str → Option Value} {base : Heap} {ε : String → Addr} {x : Str} {st : Stmt} {N ps : List Str} {k : Nat} {body : SemS} (D : DefZ K mg x st ps) (S : FnScope N ps (defScope st))
    (hbody : ∀ (f : Addr) (cd : Value) (A : Around) (outer : List Env) (s : Shared) (H : Hp) (F0 : Hp) (ρ0 : List Addr), RoomQ k (A.deeper (envOfC x (defScope st) s.heap.objs.size f cd)) →
      PSs (cxQ P w K mg base N x (defScope st) f cd A outer s H) (defBody st) (lowS ⟨⟨K, ε⟩, H, F0, ρ0, none, WF⟩ body)) :
    CalQ P w K mg base ⟨K, ε⟩ (k + 1) x ps (fnS ps.length N.length body) := by
  obtain ⟨f, fd, F, hm, hb⟩ := D.ex
  exact ⟨f, fd, z_fnQ F S (hbody f), hm, F.kp, hb⟩
theorem z_nodefQ {P : Program} {w : World} {K : PySem.W.Frag} {mg : Str → Option Value} {base : Heap} {x : Str} {st : Stmt} {ps : List Str} (D : DefZ K mg x st ps) (c : Cf) (k : Nat) : CalQ P w K mg base c k x ps (fun _ _ => none) := by
  obtain ⟨f, fd, F, hm, hb⟩ := D.ex
  refine ⟨f, fd, ⟨fun vs H Q E h => ?_, fun A st s H as us vs Q _ _ _ _ h => ?_⟩, hm, F.kp, hb⟩
  · obtain ⟨_, _, _, _, _, _, _, _, e, _⟩ := h
    cases e
  · obtain ⟨_, _, _, _, _, _, _, _, e, _⟩ := h
    cases e
theorem RoomQ.units {k : Nat} {A : Around} (r : RoomQ k A) : A.units + 64 < cLine := by have := r.un; omega
theorem room_suite {k : Nat} {X : Cx} {a : Addr} {pn : List (Addr × Obj)} (r : Room k X.A) : RoomQ k (X.suite a pn).A := ⟨r.dp, r.un⟩
section
variable {X : Cx} {Y : Ctx} {k j : Nat} {ps : List Str} {x : Str} {p pos : Pos} {a b e : Expr} {es : List Expr} {fa : Sem (List A)} {ga gb : Sem A} {sem : SemF}
theorem z_callQ (m : Mode) (C : CalQ X.prog X.w X.K X.mg X.base Y.c k x ps sem) (hr : RoomQ j X.A) (hW : Y.W = WF := by rfl) (ha : PA X (e :: es) (lowA Y fa)) (hkj : k ≤ j := by decide) (hg : Gl X x := by rfl) (hdb : (x == ("__debug__" : Str)) = false := by decide)
    (hs : starEach (e :: es) X.env = (false, eval e X.env) :: starEach es X.env := by rfl) (hpl : (backTo pos (starEach es X.env)).any (·.1) = false := by rfl) : PE X (.Call (.Name x p) (e :: es) [] pos) (lowE Y (callE m sem fa)) := by
  obtain ⟨f, fd, F, hm, hk, hb⟩ := C.ex
  refine ⟨fun pins s σ H Q I h => ?_⟩
  refine wpAny_Call_Name_kw (ld_glob I hg hm ?_ hdb)
  refine PySem.W.callWith_K (h₀ := X.base) I.ok.mod.kin hk (thn (ha.run pos pins s σ H (fun vs H1 => FnZ Y.c sem vs H1 Q noX) I ?_) fun us s1 ⟨vs, H1, I1, r1, q1⟩ => ⟨I1.kIn, ?_⟩) hs hpl
  · exact seq1 h fun F ρ μ Γ H x v r μ' hI S G hx e P => callM_ok S hx e P fun n fs F' ρ' H' dd ws er l S1 hd hf => by
      subst er
      have := P F' ρ' H' l S1 dd ws hd hf
      rw [hW] at this
      exact this
  · have b1 := hb s1 us I1.kIn (by rw [List.append_nil, ← r1.length]; exact F.len _ _ _ _ q1)
    rw [List.append_nil] at b1
    have hr' : RoomQ k X.A := hr.mono hkj
    refine wpAny_call (codeAny_mono (F.go X.A X.stack s1 H1 ⟨us, []⟩ us vs Q hr' I1.env0 b1 r1 q1) fun r s2 hq => ?_)
    cases r with
    | error er =>
      obtain ⟨_, _, _, _, _, _, _, _, _, _, _, _, z⟩ := hq
      exact z.elim
    | ok fl =>
      cases fl with
      | ret u => exact I1.after hq
      | next => exact False.elim hq
      | brk => exact False.elim hq
      | cont => exact False.elim hq
variable (hK : Y.c.K = X.K := by rfl)
include hK
theorem z_eqTQ (hr : RoomQ k X.A) (ha : PE X a (lowE Y ga)) (hb : PE X b (lowE Y gb)) : PT X (.Compare a [.Eq] [b] pos) (lowT Y (cmp cEq ga gb)) := z_cmpT (op_eqD (RoomQ.units hr)) (cz_eq hK) ha hb (nomark _)
theorem z_neTQ (hr : RoomQ k X.A) (ha : PE X a (lowE Y ga)) (hb : PE X b (lowE Y gb)) : PT X (.Compare a [.NotEq] [b] pos) (lowT Y (cmp cNe ga gb)) := z_cmpT (op_neD (RoomQ.units hr)) (cz_ne hK) ha hb (nomark _)
theorem z_eqVQ (hr : RoomQ k X.A) (ha : PE X a (lowE Y ga)) (hb : PE X b (lowE Y gb)) : PE X (.Compare a [.Eq] [b] pos) (lowE Y (bv (cmp cEq ga gb))) := z_cmpV (op_eqD (RoomQ.units hr)) (cz_eq hK) ha hb (nomark _)
theorem z_neVQ (hr : RoomQ k X.A) (ha : PE X a (lowE Y ga)) (hb : PE X b (lowE Y gb)) : PE X (.Compare a [.NotEq] [b] pos) (lowE Y (bv (cmp cNe ga gb))) := z_cmpV (op_neD (RoomQ.units hr)) (cz_ne hK) ha hb (nomark _)
end
end ZL

/-! Layer Z, part N: reckoning with what the defs compute. -/
namespace ZL
open PySem PySem.Spec PyProof.Rows L2
def W {α : Type} (f : ZL.Sem α) (Γ : Gam) (μ : Store) (Q : α → Store → Prop) : Prop := ∃ x μ', f Γ μ = some (.ok x, μ') ∧ Q x μ'
def WS (g : SemS) (Γ : Gam) (μ : Store) (Q : Out → Store → Prop) : Prop := ∃ o μ', g Γ μ = some (o, μ') ∧ Q o μ'
def WQ (s : SemF) (as : List A) (μ : Store) (Q : A → Store → Prop) : Prop := ∃ x μ', s as μ = some (.ok x, μ') ∧ Q x μ'
section
variable {α β : Type} {Γ : Gam} {μ : Store}
theorem W.mono {f : ZL.Sem α} {Q Q' : α → Store → Prop} (h : W f Γ μ Q) (m : ∀ x μ', Q x μ' → Q' x μ') : W f Γ μ Q' := by
  obtain ⟨x, μ', e, q⟩ := h
  try dsimp only at e
  exact ⟨x, μ', e, m _ _ q⟩
theorem WS.mono {f : SemS} {Q Q' : Out → Store → Prop} (h : WS f Γ μ Q) (m : ∀ x μ', Q x μ' → Q' x μ') : WS f Γ μ Q' := by
  obtain ⟨x, μ', e, q⟩ := h
  try dsimp only at e
  exact ⟨x, μ', e, m _ _ q⟩
theorem WQ.mono {s : SemF} {as : List A} {Q Q' : A → Store → Prop} (h : WQ s as μ Q) (m : ∀ x μ', Q x μ' → Q' x μ') : WQ s as μ Q' := by
  obtain ⟨x, μ', e, q⟩ := h
  try dsimp only at e
  exact ⟨x, μ', e, m _ _ q⟩
@[simp] theorem W_sb {f : ZL.Sem α} {g : α → ZL.Sem β} {Q : β → Store → Prop} : W (sb f g) Γ μ Q ↔ W f Γ μ fun x μ1 => W (g x) Γ μ1 Q := by
  unfold W sb
  constructor
  · rintro ⟨x, μ', e, q⟩
    split at e
    · rename_i y μ1 e1
      exact ⟨y, μ1, e1, x, μ', e, q⟩
    · cases e
    · cases e
  · rintro ⟨y, μ1, e1, x, μ', e, q⟩
    exact ⟨x, μ', by (try dsimp only); rw [e1]; exact e, q⟩
theorem W_fn {k : Gam → Store → Option (R α × Store)} {Q : α → Store → Prop} : W k Γ μ Q ↔ ∃ x μ', k Γ μ = some (.ok x, μ') ∧ Q x μ' := Iff.rfl
theorem W_some {x : α} {μ1 : Store} {Q : α → Store → Prop} {k : ZL.Sem α} (h : k Γ μ = some (.ok x, μ1)) : W k Γ μ Q ↔ Q x μ1 := by
  unfold W
  rw [h]
  constructor
  · rintro ⟨_, _, e, q⟩; cases e; exact q
  · intro q; exact ⟨_, _, rfl, q⟩
theorem W_var {i : Nat} {Q : A → Store → Prop} : W (var i) Γ μ Q ↔ ∃ x, Γ[i]? = some (some x) ∧ Q x μ := by
  unfold W var
  constructor
  · rintro ⟨x, μ', e, q⟩
    split at e
    · rename_i y hy; cases e; exact ⟨_, hy, q⟩
    · cases e
  · rintro ⟨x, h, q⟩
    exact ⟨x, μ, by rw [h], q⟩
@[simp] theorem W_con {d : D} {Q : A → Store → Prop} : W (con d) Γ μ Q ↔ Q (.d d) μ := W_some rfl
theorem W_bin {op : D → D → Option D} {fa fb : ZL.Sem A} {Q : A → Store → Prop} : W (bin op fa fb) Γ μ Q ↔ W fa Γ μ fun x μ1 => W fb Γ μ1 fun y μ2 => ∃ a b z, rd μ2 x = some a ∧ rd μ2 y = some b ∧ op a b = some z ∧ Q (.d z) μ2 := by
  unfold bin
  simp only [W_sb]
  constructor <;> (intro h; refine h.mono fun x μ1 h => h.mono fun y μ2 h => ?_)
  · obtain ⟨r, μ', e, q⟩ := h
    try dsimp only at e
    unfold biD at e
    split at e
    · rename_i a b ea eb
      split at e
      · rename_i z ez
        cases e
        exact ⟨a, b, _, ea, eb, ez, q⟩
      · cases e
    · cases e
  · obtain ⟨a, b, z, ea, eb, ez, q⟩ := h
    exact ⟨_, _, by unfold biD; rw [ea, eb]; simp only; rw [ez], q⟩
theorem W_cmp {op : D → D → Option Bool} {fa fb : ZL.Sem A} {Q : Bool → Store → Prop} : W (cmp op fa fb) Γ μ Q ↔ W fa Γ μ fun x μ1 => W fb Γ μ1 fun y μ2 => ∃ a b k, rd μ2 x = some a ∧ rd μ2 y = some b ∧ op a b = some k ∧ Q k μ2 := by
  unfold cmp
  simp only [W_sb]
  constructor <;> (intro h; refine h.mono fun x μ1 h => h.mono fun y μ2 h => ?_)
  · obtain ⟨r, μ', e, q⟩ := h
    try dsimp only at e
    unfold cmpD at e
    split at e
    · rename_i a b ea eb
      split at e
      · rename_i z ez
        cases e
        exact ⟨a, b, _, ea, eb, ez, q⟩
      · cases e
    · cases e
  · obtain ⟨a, b, z, ea, eb, ez, q⟩ := h
    exact ⟨_, _, by unfold cmpD; rw [ea, eb]; simp only; rw [ez], q⟩
@[simp] theorem W_bv {f : ZL.Sem Bool} {Q : A → Store → Prop} : W (bv f) Γ μ Q ↔ W f Γ μ fun b μ1 => Q (.d (.bool b)) μ1 := by
  unfold bv
  simp only [W_sb]
  constructor <;> (intro h; refine h.mono fun x μ1 h => ?_)
  · exact (W_some rfl).mp h
  · exact (W_some rfl).mpr h
@[simp] theorem W_andT {f g : ZL.Sem Bool} {Q : Bool → Store → Prop} : W (andT f g) Γ μ Q ↔ W f Γ μ fun b μ1 => (b = true → W g Γ μ1 Q) ∧ (b = false → Q false μ1) := by
  unfold andT
  simp only [W_sb]
  constructor <;> (intro h; refine h.mono fun x μ1 h => ?_)
  · cases x with
    | true => exact ⟨fun _ => h, fun e => by cases e⟩
    | false => exact ⟨fun e => (by cases e), fun _ => (W_some rfl).mp h⟩
  · cases x with
    | true => exact h.1 rfl
    | false => exact (W_some rfl).mpr (h.2 rfl)
@[simp] theorem W_orT {f g : ZL.Sem Bool} {Q : Bool → Store → Prop} : W (orT f g) Γ μ Q ↔ W f Γ μ fun b μ1 => (b = true → Q true μ1) ∧ (b = false → W g Γ μ1 Q) := by
  unfold orT
  simp only [W_sb]
  constructor <;> (intro h; refine h.mono fun x μ1 h => ?_)
  · cases x with
    | true => exact ⟨fun _ => (W_some rfl).mp h, fun e => by cases e⟩
    | false => exact ⟨fun e => (by cases e), fun _ => h⟩
  · cases x with
    | true => exact (W_some rfl).mpr (h.1 rfl)
    | false => exact h.2 rfl
@[simp] theorem W_notT {f : ZL.Sem Bool} {Q : Bool → Store → Prop} : W (notT f) Γ μ Q ↔ W f Γ μ fun b μ1 => Q (!b) μ1 := by
  unfold notT
  simp only [W_sb]
  constructor <;> (intro h; refine h.mono fun x μ1 h => ?_)
  · exact (W_some rfl).mp h
  · exact (W_some rfl).mpr h
def tru (μ : Store) (x : A) : Option Bool := match rd μ x with | some a => truD a | none => none
theorem W_truE {fa : ZL.Sem A} {Q : Bool → Store → Prop} : W (truE fa) Γ μ Q ↔ W fa Γ μ fun x μ1 => ∃ b, tru μ1 x = some b ∧ Q b μ1 := by
  unfold truE
  simp only [W_sb]
  constructor <;> (intro h; refine h.mono fun x μ1 h => ?_)
  · obtain ⟨r, μ', e, q⟩ := h
    try dsimp only at e
    split at e
    · rename_i a ea
      split at e
      · rename_i z ez
        cases e
        exact ⟨_, by unfold tru; rw [ea]; exact ez, q⟩
      · cases e
    · cases e
  · obtain ⟨b, e, q⟩ := h
    try dsimp only at e
    unfold tru at e
    split at e
    · rename_i a ea
      exact ⟨b, μ1, by (try dsimp only); rw [ea]; simp only; rw [e], q⟩
    · cases e
theorem W_tsel {fa : ZL.Sem A} {k : A → Bool → ZL.Sem A} {Q : A → Store → Prop} : W (tsel fa k) Γ μ Q ↔ W fa Γ μ fun x μ1 => ∃ b, tru μ1 x = some b ∧ W (k x b) Γ μ1 Q := by
  unfold tsel
  simp only [W_sb]
  constructor <;> (intro h; refine h.mono fun x μ1 h => ?_)
  · obtain ⟨r, μ', e, q⟩ := h
    try dsimp only at e
    split at e
    · rename_i b eb
      exact ⟨b, eb, r, μ', e, q⟩
    · cases e
  · obtain ⟨b, e, r, μ', e', q⟩ := h
    exact ⟨r, μ', by show (match tru μ1 x with | some b => k x b Γ μ1 | none => none) = _; rw [e]; exact e', q⟩
theorem W_andV {fa fb : ZL.Sem A} {Q : A → Store → Prop} : W (andV fa fb) Γ μ Q ↔ W fa Γ μ fun x μ1 => ∃ b, tru μ1 x = some b ∧ (b = true → W fb Γ μ1 Q) ∧ (b = false → Q x μ1) := by
  unfold andV
  simp only [W_tsel]
  constructor <;> (intro h; refine h.mono fun x μ1 h => ?_) <;> (obtain ⟨b, e, q⟩ := h; refine ⟨b, e, ?_⟩)
  · cases b with
    | true => exact ⟨fun _ => q, fun e => by cases e⟩
    | false => exact ⟨fun e => (by cases e), fun _ => (W_some rfl).mp q⟩
  · cases b with
    | true => exact q.1 rfl
    | false => exact (W_some rfl).mpr (q.2 rfl)
theorem W_orV {fa fb : ZL.Sem A} {Q : A → Store → Prop} : W (orV fa fb) Γ μ Q ↔ W fa Γ μ fun x μ1 => ∃ b, tru μ1 x = some b ∧ (b = true → Q x μ1) ∧ (b = false → W fb Γ μ1 Q) := by
  unfold orV
  simp only [W_tsel]
  constructor <;> (intro h; refine h.mono fun x μ1 h => ?_) <;> (obtain ⟨b, e, q⟩ := h; refine ⟨b, e, ?_⟩)
  · cases b with
    | true => exact ⟨fun _ => (W_some rfl).mp q, fun e => by cases e⟩
    | false => exact ⟨fun e => (by cases e), fun _ => q⟩
  · cases b with
    | true => exact (W_some rfl).mpr (q.1 rfl)
    | false => exact q.2 rfl
theorem W_notV {fa : ZL.Sem A} {Q : A → Store → Prop} : W (notV fa) Γ μ Q ↔ W fa Γ μ fun x μ1 => ∃ b, tru μ1 x = some b ∧ Q (.d (.bool (!b))) μ1 := by
  unfold notV
  simp only [W_tsel]
  constructor <;> (intro h; refine h.mono fun x μ1 h => ?_) <;> (obtain ⟨b, e, q⟩ := h; refine ⟨b, e, ?_⟩)
  · exact (W_some rfl).mp q
  · exact (W_some rfl).mpr q
@[simp] theorem W_ife {f : ZL.Sem Bool} {fa fb : ZL.Sem A} {Q : A → Store → Prop} : W (ife f fa fb) Γ μ Q ↔ W f Γ μ fun b μ1 => (b = true → W fa Γ μ1 Q) ∧ (b = false → W fb Γ μ1 Q) := by
  unfold ife
  simp only [W_sb]
  constructor <;> (intro h; refine h.mono fun x μ1 h => ?_) <;> cases x
  · exact ⟨fun e => (by cases e), fun _ => h⟩
  · exact ⟨fun _ => h, fun e => by cases e⟩
  · exact h.2 rfl
  · exact h.1 rfl
theorem W_chn {op op' : D → D → Option Bool} {fa fb fc : ZL.Sem A} {Q : Bool → Store → Prop} : W (chn op op' fa fb fc) Γ μ Q ↔ W fa Γ μ fun x μ1 => W fb Γ μ1 fun y μ2 => ∃ a b k, rd μ2 x = some a ∧ rd μ2 y = some b ∧ op a b = some k ∧
    (k = true → W fc Γ μ2 fun z μ3 => ∃ b c k, rd μ3 y = some b ∧ rd μ3 z = some c ∧ op' b c = some k ∧ Q k μ3) ∧ (k = false → Q false μ2) := by
  unfold chn
  simp only [W_sb]
  have key : ∀ {o : D → D → Option Bool} {x y : A} {μ : Store} {Q : Bool → Store → Prop}, W (cmpD o x y) Γ μ Q ↔ ∃ a b k, rd μ x = some a ∧ rd μ y = some b ∧ o a b = some k ∧ Q k μ := by
    intro o x y μ Q
    constructor
    · rintro ⟨r, μ', e, q⟩
      unfold cmpD at e
      split at e
      · rename_i a b ea eb
        split at e
        · rename_i z ez
          cases e
          exact ⟨a, b, _, ea, eb, ez, q⟩
        · cases e
      · cases e
    · rintro ⟨a, b, z, ea, eb, ez, q⟩
      exact ⟨_, _, by unfold cmpD; rw [ea, eb]; simp only; rw [ez], q⟩
  constructor <;> (intro h; refine h.mono fun x μ1 h => h.mono fun y μ2 h => ?_)
  · obtain ⟨a, b, k, ea, eb, ek, h⟩ := key.mp h
    refine ⟨a, b, k, ea, eb, ek, ?_⟩
    cases k with
    | true =>
      refine ⟨fun _ => ?_, fun e => by cases e⟩
      exact (W_sb.mp h).mono fun z μ3 h => key.mp h
    | false => exact ⟨fun e => (by cases e), fun _ => (W_some rfl).mp h⟩
  · obtain ⟨a, b, k, ea, eb, ek, h⟩ := h
    refine key.mpr ⟨a, b, k, ea, eb, ek, ?_⟩
    cases k with
    | true => exact W_sb.mpr ((h.1 rfl).mono fun z μ3 h => key.mpr h)
    | false => exact (W_some rfl).mpr (h.2 rfl)
/-! one value on: a look at it -/
theorem W_one {fa : ZL.Sem A} {k : A → Store → Option (R β × Store)} {Q : β → Store → Prop} : W (sb fa fun x _ μ => k x μ) Γ μ Q ↔ W fa Γ μ fun x μ1 => ∃ y μ', k x μ1 = some (.ok y, μ') ∧ Q y μ' := W_sb
theorem W_isN {neg : Bool} {fa : ZL.Sem A} {Q : Bool → Store → Prop} : W (isN neg fa) Γ μ Q ↔ W fa Γ μ fun x μ1 => ∃ b, isNk neg x μ1 = some (.ok b, μ1) ∧ Q b μ1 := by
  unfold isN
  simp only [W_sb]
  constructor <;> (intro h; refine h.mono fun x μ1 h => ?_)
  · obtain ⟨b, μ', e, q⟩ := h
    try dsimp only at e
    have : μ' = μ1 := by
      unfold isNk at e
      split at e <;> cases e <;> rfl
    subst this
    exact ⟨b, e, q⟩
  · obtain ⟨b, e, q⟩ := h
    try dsimp only at e
    exact ⟨b, μ1, e, q⟩
theorem W_isE {Ts : List String} {fa : ZL.Sem A} {Q : A → Store → Prop} : W (isE Ts fa) Γ μ Q ↔ W fa Γ μ fun x μ1 => ∃ t, tyA μ1 x = some t ∧ Q (.d (.bool (Ts.any (isTy t)))) μ1 := by
  unfold isE
  simp only [W_sb]
  constructor <;> (intro h; refine h.mono fun x μ1 h => ?_)
  · obtain ⟨b, μ', e, q⟩ := h
    try dsimp only at e
    split at e
    · rename_i t et; cases e; exact ⟨t, et, q⟩
    · cases e
  · obtain ⟨t, e, q⟩ := h
    try dsimp only at e
    exact ⟨_, μ1, by (try dsimp only); rw [e], q⟩
theorem W_lenE {fa : ZL.Sem A} {Q : A → Store → Prop} : W (lenE fa) Γ μ Q ↔ W fa Γ μ fun x μ1 => ∃ n, lenK x μ1 = some n ∧ Q (.d (.int n)) μ1 := by
  unfold lenE
  simp only [W_sb]
  constructor <;> (intro h; refine h.mono fun x μ1 h => ?_)
  · obtain ⟨b, μ', e, q⟩ := h
    try dsimp only at e
    split at e
    · rename_i t et; cases e; exact ⟨t, et, q⟩
    · cases e
  · obtain ⟨t, e, q⟩ := h
    try dsimp only at e
    exact ⟨_, μ1, by (try dsimp only); rw [e], q⟩
theorem W_ix {fa fb : ZL.Sem A} {Q : A → Store → Prop} : W (ix fa fb) Γ μ Q ↔ W fa Γ μ fun x μ1 => W fb Γ μ1 fun y μ2 => ∃ i z, y = .d (.int i) ∧ ixA x i μ2 = some z ∧ Q z μ2 := by
  unfold ix
  simp only [W_sb]
  constructor <;> (intro h; refine h.mono fun x μ1 h => h.mono fun y μ2 h => ?_)
  · obtain ⟨b, μ', e, q⟩ := h
    try dsimp only at e
    split at e
    · rename_i i
      split at e
      · rename_i z ez; cases e; exact ⟨i, _, rfl, ez, q⟩
      · cases e
    · cases e
  · obtain ⟨i, z, rfl, e, q⟩ := h
    try dsimp only at e
    exact ⟨z, μ2, by simp only; rw [e], q⟩
@[simp] theorem W_anil {Q : List A → Store → Prop} : W anil Γ μ Q ↔ Q [] μ := W_some rfl
@[simp] theorem W_acons {fe : ZL.Sem A} {fr : ZL.Sem (List A)} {Q : List A → Store → Prop} : W (acons fe fr) Γ μ Q ↔ W fe Γ μ fun x μ1 => W fr Γ μ1 fun xs μ2 => Q (x :: xs) μ2 := by
  unfold acons
  simp only [W_sb]
  constructor <;> (intro h; refine h.mono fun x μ1 h => h.mono fun y μ2 h => ?_)
  · exact (W_some rfl).mp h
  · exact (W_some rfl).mpr h
theorem W_tupE {fr : ZL.Sem (List A)} {Q : A → Store → Prop} : W (tupE fr) Γ μ Q ↔ W fr Γ μ fun xs μ1 => ∃ ds, allD xs = some ds ∧ ds.length ≤ 1000000 ∧ Q (.d (.tuple ds)) μ1 := by
  unfold tupE
  simp only [W_sb]
  constructor <;> (intro h; refine h.mono fun x μ1 h => ?_)
  · obtain ⟨b, μ', e, q⟩ := h
    try dsimp only at e
    split at e
    · rename_i ds ed
      split at e
      · rename_i hl; cases e; exact ⟨ds, ed, hl, q⟩
      · cases e
    · cases e
  · obtain ⟨ds, e, hl, q⟩ := h
    exact ⟨_, μ1, by (try dsimp only); rw [e]; simp only; rw [if_pos hl], q⟩
theorem W_lstF {fr : ZL.Sem (List A)} {Q : A → Store → Prop} : W (lstE false fr) Γ μ Q ↔ W fr Γ μ fun xs μ1 => ∃ ds, allD xs = some ds ∧ xs.length ≤ 1000000 ∧ Q (.d (.list ds)) μ1 := by
  unfold lstE
  simp only [W_sb]
  constructor <;> (intro h; refine h.mono fun x μ1 h => ?_)
  · obtain ⟨b, μ', e, q⟩ := h
    try dsimp only at e
    split at e
    · rename_i hl
      simp only [Bool.false_eq_true, if_false] at e
      split at e
      · rename_i ds ed
        cases e; exact ⟨ds, ed, hl, q⟩
      · cases e
    · cases e
  · obtain ⟨ds, e, hl, q⟩ := h
    exact ⟨_, μ1, by dsimp only; rw [if_pos hl]; simp only [Bool.false_eq_true, if_false]; rw [e] <;> rfl, q⟩
@[simp] theorem W_lstT {fr : ZL.Sem (List A)} {Q : A → Store → Prop} : W (lstE true fr) Γ μ Q ↔ W fr Γ μ fun xs μ1 => xs.length ≤ 1000000 ∧ Q (.ref μ1.length) (μ1 ++ [.lst xs]) := by
  unfold lstE
  simp only [W_sb]
  constructor <;> (intro h; refine h.mono fun x μ1 h => ?_)
  · obtain ⟨b, μ', e, q⟩ := h
    try dsimp only at e
    split at e
    · rename_i hl
      simp only [if_true, mkC] at e
      cases e; exact ⟨hl, q⟩
    · cases e
  · obtain ⟨hl, q⟩ := h
    exact ⟨_, _, by dsimp only; rw [if_pos hl]; rfl, q⟩
theorem W_neg {fa : ZL.Sem A} {Q : A → Store → Prop} : W (neg fa) Γ μ Q ↔ W fa Γ μ fun x μ1 => ∃ i, rd μ1 x = some (.int i) ∧ Q (.d (.int (-i))) μ1 := by
  unfold neg
  simp only [W_sb]
  constructor <;> (intro h; refine h.mono fun x μ1 h => ?_)
  · obtain ⟨b, μ', e, q⟩ := h
    try dsimp only at e
    split at e
    · rename_i i ei; cases e; exact ⟨i, ei, q⟩
    · cases e
  · obtain ⟨t, e, q⟩ := h
    try dsimp only at e
    exact ⟨_, μ1, by (try dsimp only); rw [e], q⟩
theorem W_intE {fa : ZL.Sem A} {Q : A → Store → Prop} : W (intE fa) Γ μ Q ↔ W fa Γ μ fun x μ1 => ∃ i, (x = .d (.int i) ∨ ∃ b, x = .d (.bool b) ∧ i = if b then 1 else 0) ∧ Q (.d (.int i)) μ1 := by
  unfold intE
  simp only [W_sb]
  constructor <;> (intro h; refine h.mono fun x μ1 h => ?_)
  · obtain ⟨b, μ', e, q⟩ := h
    try dsimp only at e
    split at e
    · rename_i i; cases e; exact ⟨i, .inl rfl, q⟩
    · rename_i i; cases e; exact ⟨_, .inr ⟨i, rfl, rfl⟩, q⟩
    · cases e
  · obtain ⟨t, e | ⟨b, e, e'⟩, q⟩ := h
    · subst e; exact ⟨_, μ1, rfl, q⟩
    · subst e e'; exact ⟨_, μ1, rfl, q⟩
@[simp] theorem W_max2 {fa fb : ZL.Sem A} {Q : A → Store → Prop} : W (max2 fa fb) Γ μ Q ↔ W fa Γ μ fun x μ1 => W fb Γ μ1 fun y μ2 => ∃ i j, x = .d (.int i) ∧ y = .d (.int j) ∧ Q (.d (.int (max i j))) μ2 := by
  unfold max2
  simp only [W_sb]
  constructor <;> (intro h; refine h.mono fun x μ1 h => h.mono fun y μ2 h => ?_)
  · obtain ⟨b, μ', e, q⟩ := h
    try dsimp only at e
    split at e
    · rename_i i j; cases e
      refine ⟨i, j, rfl, rfl, ?_⟩
      have : (if j > i then j else i) = max i j := by split <;> omega
      rw [← this]; exact q
    · cases e
  · obtain ⟨i, j, rfl, rfl, q⟩ := h
    have : (if j > i then j else i) = max i j := by split <;> omega
    exact ⟨_, μ2, rfl, by rw [this]; exact q⟩
@[simp] theorem W_min2 {fa fb : ZL.Sem A} {Q : A → Store → Prop} : W (min2 fa fb) Γ μ Q ↔ W fa Γ μ fun x μ1 => W fb Γ μ1 fun y μ2 => ∃ i j, x = .d (.int i) ∧ y = .d (.int j) ∧ Q (.d (.int (min i j))) μ2 := by
  unfold min2
  simp only [W_sb]
  constructor <;> (intro h; refine h.mono fun x μ1 h => h.mono fun y μ2 h => ?_)
  · obtain ⟨b, μ', e, q⟩ := h
    try dsimp only at e
    split at e
    · rename_i i j; cases e
      refine ⟨i, j, rfl, rfl, ?_⟩
      have : (if j < i then j else i) = min i j := by split <;> omega
      rw [← this]; exact q
    · cases e
  · obtain ⟨i, j, rfl, rfl, q⟩ := h
    have : (if j < i then j else i) = min i j := by split <;> omega
    exact ⟨_, μ2, rfl, by rw [this]; exact q⟩
theorem W_tupOf {fa : ZL.Sem A} {Q : A → Store → Prop} : W (tupOf fa) Γ μ Q ↔ W fa Γ μ fun x μ1 => ∃ ds, (rd μ1 x = some (.list ds) ∨ rd μ1 x = some (.tuple ds)) ∧ Q (.d (.tuple ds)) μ1 := by
  unfold tupOf
  simp only [W_sb]
  constructor <;> (intro h; refine h.mono fun x μ1 h => ?_)
  · obtain ⟨b, μ', e, q⟩ := h
    try dsimp only at e
    split at e
    · rename_i ds ed; cases e; exact ⟨ds, .inl ed, q⟩
    · rename_i ds ed; cases e; exact ⟨ds, .inr ed, q⟩
    · cases e
  · obtain ⟨ds, e | e, q⟩ := h
    · exact ⟨_, μ1, by (try dsimp only); rw [e], q⟩
    · exact ⟨_, μ1, by (try dsimp only); rw [e], q⟩
theorem W_lstOfF {fa : ZL.Sem A} {Q : A → Store → Prop} : W (lstOf false fa) Γ μ Q ↔ W fa Γ μ fun x μ1 => ∃ ds, (rd μ1 x = some (.list ds) ∨ rd μ1 x = some (.tuple ds)) ∧ Q (.d (.list ds)) μ1 := by
  unfold lstOf
  simp only [W_sb]
  constructor <;> (intro h; refine h.mono fun x μ1 h => ?_)
  · obtain ⟨b, μ', e, q⟩ := h
    try dsimp only at e
    split at e
    · rename_i ds ed; cases e; exact ⟨ds, .inl ed, q⟩
    · rename_i ds ed; cases e; exact ⟨ds, .inr ed, q⟩
    · cases e
  · obtain ⟨ds, e | e, q⟩ := h
    · exact ⟨_, μ1, by (try dsimp only); rw [e] <;> rfl, q⟩
    · exact ⟨_, μ1, by (try dsimp only); rw [e] <;> rfl, q⟩
theorem W_lstOfT {fa : ZL.Sem A} {Q : A → Store → Prop} : W (lstOf true fa) Γ μ Q ↔ W fa Γ μ fun x μ1 => ∃ ds, (rd μ1 x = some (.list ds) ∨ rd μ1 x = some (.tuple ds)) ∧ Q (.ref μ1.length) (μ1 ++ [.lst (ds.map .d)]) := by
  unfold lstOf
  simp only [W_sb]
  constructor <;> (intro h; refine h.mono fun x μ1 h => ?_)
  · obtain ⟨b, μ', e, q⟩ := h
    try dsimp only at e
    split at e
    · rename_i ds ed; cases e; exact ⟨ds, .inl ed, q⟩
    · rename_i ds ed; cases e; exact ⟨ds, .inr ed, q⟩
    · cases e
  · obtain ⟨ds, e | e, q⟩ := h
    · exact ⟨_, _, by (try dsimp only); rw [e] <;> rfl, q⟩
    · exact ⟨_, _, by (try dsimp only); rw [e] <;> rfl, q⟩
theorem W_allE {fa : ZL.Sem A} {Q : A → Store → Prop} : W (allE fa) Γ μ Q ↔ W fa Γ μ fun x μ1 => ∃ ds bs, rd μ1 x = some (.list ds) ∧ boolsD ds = some bs ∧ Q (.d (.bool (bs.all id))) μ1 := by
  unfold allE
  simp only [W_sb]
  constructor <;> (intro h; refine h.mono fun x μ1 h => ?_)
  · obtain ⟨b, μ', e, q⟩ := h
    try dsimp only at e
    split at e
    · rename_i ds ed
      split at e
      · rename_i bs eb; cases e; exact ⟨ds, bs, ed, eb, q⟩
      · cases e
    · cases e
  · obtain ⟨ds, bs, e, eb, q⟩ := h
    exact ⟨_, μ1, by (try dsimp only); rw [e]; simp only; rw [eb], q⟩
theorem W_anyE {fa : ZL.Sem A} {Q : A → Store → Prop} : W (anyE fa) Γ μ Q ↔ W fa Γ μ fun x μ1 => ∃ ds bs, rd μ1 x = some (.list ds) ∧ boolsD ds = some bs ∧ Q (.d (.bool (bs.any id))) μ1 := by
  unfold anyE
  simp only [W_sb]
  constructor <;> (intro h; refine h.mono fun x μ1 h => ?_)
  · obtain ⟨b, μ', e, q⟩ := h
    try dsimp only at e
    split at e
    · rename_i ds ed
      split at e
      · rename_i bs eb; cases e; exact ⟨ds, bs, ed, eb, q⟩
      · cases e
    · cases e
  · obtain ⟨ds, bs, e, eb, q⟩ := h
    exact ⟨_, μ1, by (try dsimp only); rw [e]; simp only; rw [eb], q⟩
theorem W_sumE {fa : ZL.Sem A} {Q : A → Store → Prop} : W (sumE fa) Γ μ Q ↔ W fa Γ μ fun x μ1 => ∃ ds bs, rd μ1 x = some (.list ds) ∧ intsD ds = some bs ∧ Q (.d (.int bs.sum)) μ1 := by
  unfold sumE
  simp only [W_sb]
  constructor <;> (intro h; refine h.mono fun x μ1 h => ?_)
  · obtain ⟨b, μ', e, q⟩ := h
    try dsimp only at e
    split at e
    · rename_i ds ed
      split at e
      · rename_i bs eb; cases e; exact ⟨ds, bs, ed, eb, q⟩
      · cases e
    · cases e
  · obtain ⟨ds, bs, e, eb, q⟩ := h
    exact ⟨_, μ1, by (try dsimp only); rw [e]; simp only; rw [eb], q⟩
theorem W_lenSetE {fa : ZL.Sem A} {Q : A → Store → Prop} : W (lenSetE fa) Γ μ Q ↔ W fa Γ μ fun x μ1 => ∃ ds ns, rd μ1 x = some (.list ds) ∧ intsD ds = some ns ∧ ns.length ≤ 4000 ∧ Q (.d (.int (lenSet ns))) μ1 := by
  unfold lenSetE
  simp only [W_sb]
  constructor <;> (intro h; refine h.mono fun x μ1 h => ?_)
  · obtain ⟨b, μ', e, q⟩ := h
    try dsimp only at e
    split at e
    · rename_i ds ed
      split at e
      · rename_i bs eb
        split at e
        · rename_i hl; cases e; exact ⟨ds, bs, ed, eb, hl, q⟩
        · cases e
      · cases e
    · cases e
  · obtain ⟨ds, bs, e, eb, hl, q⟩ := h
    exact ⟨_, μ1, by (try dsimp only); rw [e]; simp only; rw [eb]; simp only; rw [if_pos hl], q⟩
@[simp] theorem W_pnone {Q : Option Int → Store → Prop} : W pnone Γ μ Q ↔ Q none μ := W_some rfl
@[simp] theorem W_psome {fa : ZL.Sem A} {Q : Option Int → Store → Prop} : W (psome fa) Γ μ Q ↔ W fa Γ μ fun x μ1 => ∃ i, x = .d (.int i) ∧ Q (some i) μ1 := by
  unfold psome
  simp only [W_sb]
  constructor <;> (intro h; refine h.mono fun x μ1 h => ?_)
  · obtain ⟨b, μ', e, q⟩ := h
    try dsimp only at e
    split at e
    · rename_i i; cases e; exact ⟨i, rfl, q⟩
    · cases e
  · obtain ⟨i, rfl, q⟩ := h
    exact ⟨_, μ1, rfl, q⟩
@[simp] theorem W_slcF {fa : ZL.Sem A} {fl fh : ZL.Sem (Option Int)} {Q : A → Store → Prop} : W (slc false fa fl fh) Γ μ Q ↔ W fa Γ μ fun x μ1 => W fl Γ μ1 fun lo μ2 => W fh Γ μ2 fun hi μ3 => ∃ z, (∃ ds, rd μ3 x = some (.list ds) ∧ z = .list (cutD ds lo hi) ∨ rd μ3 x = some (.tuple ds) ∧ z = .tuple (cutD ds lo hi)) ∧ Q (.d z) μ3 := by
  unfold slc
  simp only [W_sb]
  constructor <;> (intro h; refine h.mono fun x μ1 h => h.mono fun y μ2 h => h.mono fun z μ3 h => ?_)
  · obtain ⟨b, μ', e, q⟩ := h
    try dsimp only at e
    split at e
    · rename_i ds ed; cases e; exact ⟨_, ⟨ds, .inl ⟨ed, rfl⟩⟩, q⟩
    · rename_i ds ed; cases e; exact ⟨_, ⟨ds, .inr ⟨ed, rfl⟩⟩, q⟩
    · cases e
  · obtain ⟨z, ⟨ds, ⟨e, rfl⟩ | ⟨e, rfl⟩⟩, q⟩ := h
    · exact ⟨_, μ3, by (try dsimp only); rw [e] <;> rfl, q⟩
    · exact ⟨_, μ3, by (try dsimp only); rw [e] <;> rfl, q⟩
/-! the methods of a cell -/
theorem W_mt1 {k : Nat → List A → A → Store → Option (A × Cell)} {fo fa : ZL.Sem A} {Q : A → Store → Prop} : W (mt1 k fo fa) Γ μ Q ↔ W fo Γ μ fun x μ1 => (isL μ1 x).isSome ∧ W fa Γ μ1 fun y μ2 => ∃ j xs z c, isL μ2 x = some (j, xs) ∧ k j xs y μ2 = some (z, c) ∧ Q z (μ2.set j c) := by
  unfold mt1
  simp only [W_sb]
  constructor <;> (intro h; refine h.mono fun x μ1 h => ?_)
  · unfold gd at h
    obtain ⟨r, μ', e, q⟩ := h
    try dsimp only at e
    split at e
    · rename_i p ep
      refine ⟨by (try dsimp only); rw [ep]; rfl, ?_⟩
      have h2 : W (sb (acons fa anil) fun as _ μ => match isL μ x, as with
        | some (j, xs), [y] => match k j xs y μ with
          | some (z, c) => some (R.ok z, μ.set j c)
          | none => none
        | _, _ => none) Γ μ1 Q := ⟨r, μ', e, q⟩
      simp only [W_sb, W_acons, W_anil] at h2
      refine h2.mono fun y μ2 h => ?_
      obtain ⟨r, μ', e, q⟩ := h
      try dsimp only at e
      split at e
      · rename_i j xs y' e1 e2
        simp only [List.cons.injEq, and_true] at e2
        subst e2
        split at e
        · rename_i z c ez; cases e; exact ⟨j, xs, _, c, e1, ez, q⟩
        · cases e
      · cases e
    · cases e
  · obtain ⟨h1, h⟩ := h
    obtain ⟨p, ep⟩ := Option.isSome_iff_exists.mp h1
    have h2 : W (sb (acons fa anil) fun as _ μ => match isL μ x, as with
        | some (j, xs), [y] => match k j xs y μ with
          | some (z, c) => some (R.ok z, μ.set j c)
          | none => none
        | _, _ => none) Γ μ1 Q := by
      simp only [W_sb, W_acons, W_anil]
      refine h.mono fun y μ2 h => ?_
      obtain ⟨j, xs, z, c, e1, e2, q⟩ := h
      exact ⟨z, _, by (try dsimp only); rw [e1]; simp only; rw [e2], q⟩
    obtain ⟨r, μ', e, q⟩ := h2
    exact ⟨r, μ', by unfold gd; rw [ep]; exact e, q⟩
theorem W_mt0 {k : Nat → List A → Store → Option (A × Cell)} {fo : ZL.Sem A} {Q : A → Store → Prop} : W (mt0 k fo) Γ μ Q ↔ W fo Γ μ fun x μ1 => ∃ j xs z c, isL μ1 x = some (j, xs) ∧ k j xs μ1 = some (z, c) ∧ Q z (μ1.set j c) := by
  unfold mt0
  simp only [W_sb]
  constructor <;> (intro h; refine h.mono fun x μ1 h => ?_)
  · obtain ⟨r, μ', e, q⟩ := h
    try dsimp only at e
    split at e
    · rename_i j xs e1
      split at e
      · rename_i z c ez; cases e; exact ⟨j, xs, _, c, e1, ez, q⟩
      · cases e
    · cases e
  · obtain ⟨j, xs, z, c, e1, e2, q⟩ := h
    exact ⟨z, _, by (try dsimp only); rw [e1]; simp only; rw [e2], q⟩
theorem W_mt2 {k : Nat → List A → A → A → Store → Option (A × Cell)} {fo fa fb : ZL.Sem A} {Q : A → Store → Prop} : W (mt2 k fo fa fb) Γ μ Q ↔ W fo Γ μ fun x μ1 => (isL μ1 x).isSome ∧ W fa Γ μ1 fun y μ2 => W fb Γ μ2 fun y' μ3 => ∃ j xs z c, isL μ3 x = some (j, xs) ∧ k j xs y y' μ3 = some (z, c) ∧ Q z (μ3.set j c) := by
  unfold mt2
  simp only [W_sb]
  constructor <;> (intro h; refine h.mono fun x μ1 h => ?_)
  · unfold gd at h
    obtain ⟨r, μ', e, q⟩ := h
    try dsimp only at e
    split at e
    · rename_i p ep
      refine ⟨by (try dsimp only); rw [ep]; rfl, ?_⟩
      have h2 : W (sb (acons fa (acons fb anil)) fun as _ μ => match isL μ x, as with
        | some (j, xs), [y, z] => match k j xs y z μ with
          | some (z, c) => some (R.ok z, μ.set j c)
          | none => none
        | _, _ => none) Γ μ1 Q := ⟨r, μ', e, q⟩
      simp only [W_sb, W_acons, W_anil] at h2
      refine h2.mono fun y μ2 h => h.mono fun y2 μ3 h => ?_
      obtain ⟨r, μ', e, q⟩ := h
      try dsimp only at e
      split at e
      · rename_i j xs y' z' e1 e2
        simp only [List.cons.injEq, and_true] at e2
        obtain ⟨rfl, rfl⟩ := e2
        split at e
        · rename_i z c ez; cases e; exact ⟨j, xs, _, c, e1, ez, q⟩
        · cases e
      · cases e
    · cases e
  · obtain ⟨h1, h⟩ := h
    obtain ⟨p, ep⟩ := Option.isSome_iff_exists.mp h1
    have h2 : W (sb (acons fa (acons fb anil)) fun as _ μ => match isL μ x, as with
        | some (j, xs), [y, z] => match k j xs y z μ with
          | some (z, c) => some (R.ok z, μ.set j c)
          | none => none
        | _, _ => none) Γ μ1 Q := by
      simp only [W_sb, W_acons, W_anil]
      refine h.mono fun y μ2 h => h.mono fun y2 μ3 h => ?_
      obtain ⟨j, xs, z, c, e1, e2, q⟩ := h
      exact ⟨z, _, by (try dsimp only); rw [e1]; simp only; rw [e2], q⟩
    obtain ⟨r, μ', e, q⟩ := h2
    exact ⟨r, μ', by unfold gd; rw [ep]; exact e, q⟩
end
end ZL

/-! Layer Z, part O: reckoning: statements, loops, comprehensions, calls. -/
namespace ZL
open PySem PySem.Spec PyProof.Rows L2
/-- a statement's end that is no exception -/
def VS (g : SemS) (Γ : Gam) (μ : Store) (Q : Out → Store → Prop) : Prop := ∃ o μ', g Γ μ = some (o, μ') ∧ (∀ Γ' n fs, o ≠ .ex Γ' n fs) ∧ Q o μ'
def WL (k : Store → Option (List A × Store)) (μ : Store) (Q : List A → Store → Prop) : Prop := ∃ ys μ', k μ = some (ys, μ') ∧ Q ys μ'
section
variable {α β : Type} {Γ : Gam} {μ : Store} {Q : Out → Store → Prop}
theorem VS.mono {f : SemS} {Q Q' : Out → Store → Prop} (h : VS f Γ μ Q) (m : ∀ x μ', Q x μ' → Q' x μ') : VS f Γ μ Q' := by
  obtain ⟨x, μ', e, n, q⟩ := h
  exact ⟨x, μ', e, n, m _ _ q⟩
theorem WL.mono {k : Store → Option (List A × Store)} {Q Q' : List A → Store → Prop} (h : WL k μ Q) (m : ∀ x μ', Q x μ' → Q' x μ') : WL k μ Q' := by
  obtain ⟨x, μ', e, q⟩ := h
  exact ⟨x, μ', e, m _ _ q⟩
def then1 (g : SemS) (Q : Out → Store → Prop) : Out → Store → Prop
  | .nx Γ1, μ1 => VS g Γ1 μ1 Q
  | .ex _ _ _, _ => False
  | o, μ1 => Q o μ1
@[simp] theorem then1_nx {g : SemS} {Γ1 : Gam} {μ1 : Store} : then1 g Q (.nx Γ1) μ1 = VS g Γ1 μ1 Q := rfl
@[simp] theorem then1_rt {g : SemS} {x : A} {μ1 : Store} : then1 g Q (.rt x) μ1 = Q (.rt x) μ1 := rfl
@[simp] theorem then1_bk {g : SemS} {Γ1 : Gam} {μ1 : Store} : then1 g Q (.bk Γ1) μ1 = Q (.bk Γ1) μ1 := rfl
@[simp] theorem then1_ct {g : SemS} {Γ1 : Gam} {μ1 : Store} : then1 g Q (.ct Γ1) μ1 = Q (.ct Γ1) μ1 := rfl
@[simp] theorem VS_seq {f g : SemS} : VS (seq f g) Γ μ Q ↔ VS f Γ μ (then1 g Q) := by
  unfold VS seq
  constructor
  · rintro ⟨o, μ', e, n, q⟩
    try dsimp only at e
    split at e
    · rename_i Γ1 μ1 e1; exact ⟨_, _, e1, by simp, o, μ', e, n, q⟩
    · rename_i x μ1 e1; cases e; exact ⟨_, _, e1, by simp, q⟩
    · rename_i x μ1 e1; cases e; exact ⟨_, _, e1, by simp, q⟩
    · rename_i x μ1 e1; cases e; exact ⟨_, _, e1, by simp, q⟩
    · cases e; exact absurd rfl (n _ _ _)
    · cases e
  · rintro ⟨o, μ', e, n, q⟩
    cases o with
    | nx Γ1 =>
      obtain ⟨o2, μ2, e2, n2, q2⟩ := q
      exact ⟨o2, μ2, by (try dsimp only); rw [e]; exact e2, n2, q2⟩
    | rt x => exact ⟨_, μ', by (try dsimp only); rw [e], by simp, q⟩
    | bk x => exact ⟨_, μ', by (try dsimp only); rw [e], by simp, q⟩
    | ct x => exact ⟨_, μ', by (try dsimp only); rw [e], by simp, q⟩
    | ex x a b => exact absurd rfl (n _ _ _)
theorem VS_eS {f : ZL.Sem α} {k : α → SemS} : VS (eS f k) Γ μ Q ↔ W f Γ μ fun x μ1 => VS (k x) Γ μ1 Q := by
  unfold VS eS W
  constructor
  · rintro ⟨o, μ', e, n, q⟩
    try dsimp only at e
    split at e
    · rename_i x μ1 e1; exact ⟨x, μ1, e1, o, μ', e, n, q⟩
    · cases e; exact absurd rfl (n _ _ _)
    · cases e
  · rintro ⟨x, μ1, e1, o, μ', e, n, q⟩
    exact ⟨o, μ', by (try dsimp only); rw [e1]; exact e, n, q⟩
theorem VS_k {g : SemS} {o : Out} {μ1 : Store} (h : g Γ μ = some (o, μ1)) (n : ∀ Γ' n fs, o ≠ .ex Γ' n fs) : VS g Γ μ Q ↔ Q o μ1 := by
  unfold VS
  rw [h]
  constructor
  · rintro ⟨_, _, e, _, q⟩; cases e; exact q
  · intro q; exact ⟨_, _, rfl, n, q⟩
@[simp] theorem VS_next : VS nextS Γ μ Q ↔ Q (.nx Γ) μ := VS_k rfl (by simp)
@[simp] theorem VS_break : VS breakS Γ μ Q ↔ Q (.bk Γ) μ := VS_k rfl (by simp)
@[simp] theorem VS_cont : VS contS Γ μ Q ↔ Q (.ct Γ) μ := VS_k rfl (by simp)
theorem VS_asg {f : ZL.Sem A} {t : Tgt} : VS (asg f t) Γ μ Q ↔ W f Γ μ fun x μ1 => ∃ Γ', t x Γ = some Γ' ∧ Q (.nx Γ') μ1 := by
  unfold asg
  rw [VS_eS]
  constructor <;> (intro h; refine h.mono fun x μ1 h => ?_)
  · obtain ⟨o, μ', e, n, q⟩ := h
    try dsimp only at e
    split at e
    · rename_i Γ' et; cases e; exact ⟨_, et, q⟩
    · cases e
  · obtain ⟨Γ', e, q⟩ := h
    exact ⟨_, _, by (try dsimp only); rw [e], by simp, q⟩
@[simp] theorem VS_ret {f : ZL.Sem A} : VS (retS f) Γ μ Q ↔ W f Γ μ fun x μ1 => Q (.rt x) μ1 := by
  unfold retS
  rw [VS_eS]
  constructor <;> (intro h; refine h.mono fun x μ1 h => ?_)
  · exact (VS_k rfl (by simp)).mp h
  · exact (VS_k rfl (by simp)).mpr h
@[simp] theorem VS_drop {f : ZL.Sem A} : VS (drop f) Γ μ Q ↔ W f Γ μ fun x μ1 => Q (.nx Γ) μ1 := by
  unfold drop
  rw [VS_eS]
  constructor <;> (intro h; refine h.mono fun x μ1 h => ?_)
  · exact (VS_k rfl (by simp)).mp h
  · exact (VS_k rfl (by simp)).mpr h
@[simp] theorem VS_if {f : ZL.Sem Bool} {p q : SemS} : VS (ifS f p q) Γ μ Q ↔ W f Γ μ fun b μ1 => (b = true → VS p Γ μ1 Q) ∧ (b = false → VS q Γ μ1 Q) := by
  unfold ifS
  rw [VS_eS]
  constructor <;> (intro h; refine h.mono fun x μ1 h => ?_) <;> cases x
  · exact ⟨fun e => (by cases e), fun _ => h⟩
  · exact ⟨fun _ => h, fun e => by cases e⟩
  · exact h.2 rfl
  · exact h.1 rfl
theorem VS_aug {i : Nat} {op : D → D → Option D} {f : ZL.Sem A} : VS (aug i op f) Γ μ Q ↔ ∃ x, Γ[i]? = some (some x) ∧ W f Γ μ fun y μ1 => ∃ a b z, rd μ1 x = some a ∧ rd μ1 y = some b ∧ op a b = some z ∧ Q (.nx (Γ.set i (some (.d z)))) μ1 := by
  have key : ∀ {x : A}, VS (eS f (fun y Γ μ => match biD op x y Γ μ with
    | some (.ok z, μ1) => some (.nx (Γ.set i (some z)), μ1)
    | _ => none)) Γ μ Q ↔ W f Γ μ fun y μ1 => ∃ a b z, rd μ1 x = some a ∧ rd μ1 y = some b ∧ op a b = some z ∧ Q (.nx (Γ.set i (some (.d z)))) μ1 := by
    intro x
    rw [VS_eS]
    constructor <;> (intro h; refine h.mono fun y μ1 h => ?_)
    · obtain ⟨o, μ', e, n, q⟩ := h
      try dsimp only at e
      unfold biD at e
      split at e
      · rename_i r z μ2 e1
        split at e1
        · rename_i a b ea eb
          split at e1
          · rename_i w ew
            cases e1; cases e
            exact ⟨a, b, _, ea, eb, ew, q⟩
          · cases e1
        · cases e1
      · cases e
    · obtain ⟨a, b, z, ea, eb, ez, q⟩ := h
      exact ⟨_, _, by dsimp only; unfold biD; rw [ea, eb]; dsimp only; rw [ez], by simp, q⟩
  unfold aug
  constructor
  · rintro ⟨o, μ', e, n, q⟩
    try dsimp only at e
    split at e
    · rename_i x hx
      exact ⟨x, hx, key.mp ⟨o, μ', e, n, q⟩⟩
    · cases e
  · rintro ⟨x, hx, h⟩
    obtain ⟨o, μ', e, n, q⟩ := key.mpr h
    exact ⟨o, μ', by (try dsimp only); rw [hx]; exact e, n, q⟩
theorem VS_setIx {fe fo fi : ZL.Sem A} : VS (setIx fe fo fi) Γ μ Q ↔ W fe Γ μ fun z μ1 => W fo Γ μ1 fun x μ2 => W fi Γ μ2 fun y μ3 => ∃ j i xs k, x = .ref j ∧ y = .d (.int i) ∧ μ3[j]? = some (.lst xs) ∧ ixN xs.length i = some k ∧ Q (.nx Γ) (μ3.set j (.lst (xs.set k z))) := by
  unfold setIx
  simp only [VS_eS]
  constructor <;> (intro h; refine h.mono fun z μ1 h => h.mono fun x μ2 h => h.mono fun y μ3 h => ?_)
  · obtain ⟨o, μ', e, n, q⟩ := h
    try dsimp only at e
    split at e
    · rename_i j i
      split at e
      · rename_i xs ex
        split at e
        · rename_i k ek; cases e; exact ⟨j, i, xs, k, rfl, rfl, ex, ek, q⟩
        · cases e
      · cases e
    · cases e
  · obtain ⟨j, i, xs, k, rfl, rfl, ex, ek, q⟩ := h
    exact ⟨_, _, by dsimp only; rw [ex]; dsimp only; rw [ek], by simp, q⟩
@[simp] theorem VS_frz {i : Nat} {g : SemS} : VS (frz i g) Γ μ Q ↔ ∃ x, Γ[i]? = some (some x) ∧ ((∃ d, x = .d d ∧ VS g Γ μ Q) ∨ ∃ j xs ds, x = .ref j ∧ μ[j]? = some (.lst xs) ∧ allD xs = some ds ∧ VS g (Γ.set i (some (.d (.list ds)))) (μ.set j .dead) Q) := by
  unfold frz
  constructor
  · rintro ⟨o, μ', e, n, q⟩
    try dsimp only at e
    split at e
    · rename_i j hj
      split at e
      · rename_i xs ex
        split at e
        · rename_i ds ed; exact ⟨_, hj, .inr ⟨j, xs, ds, rfl, ex, ed, o, μ', e, n, q⟩⟩
        · cases e
      · cases e
    · rename_i d hd; exact ⟨_, hd, .inl ⟨d, rfl, o, μ', e, n, q⟩⟩
    · cases e
  · rintro ⟨x, hx, ⟨d, rfl, o, μ', e, n, q⟩ | ⟨j, xs, ds, rfl, ex, ed, o, μ', e, n, q⟩⟩
    · exact ⟨o, μ', by (try dsimp only); rw [hx]; exact e, n, q⟩
    · exact ⟨o, μ', by (try dsimp only); rw [hx]; dsimp only; rw [ex]; dsimp only; rw [ed]; exact e, n, q⟩
/-! loops -/
def loop1 (K : Gam → Store → Prop) (Q : Out → Store → Prop) : Out → Store → Prop
  | .nx Γ1, μ1 => K Γ1 μ1
  | .ct Γ1, μ1 => K Γ1 μ1
  | .bk Γ1, μ1 => Q (.nx Γ1) μ1
  | .rt x, μ1 => Q (.rt x) μ1
  | .ex _ _ _, _ => False
section
variable {K : Gam → Store → Prop} {Γ1 : Gam} {μ1 : Store} {x : A}
@[simp] theorem loop1_nx : loop1 K Q (.nx Γ1) μ1 = K Γ1 μ1 := rfl
@[simp] theorem loop1_ct : loop1 K Q (.ct Γ1) μ1 = K Γ1 μ1 := rfl
@[simp] theorem loop1_bk : loop1 K Q (.bk Γ1) μ1 = Q (.nx Γ1) μ1 := rfl
@[simp] theorem loop1_rt : loop1 K Q (.rt x) μ1 = Q (.rt x) μ1 := rfl
end
@[simp] theorem VS_forE {fi : ZL.Sem (List A)} {t : Tgt} {b : SemS} : VS (forE fi t b) Γ μ Q ↔ W fi Γ μ fun xs μ1 => VS (forS xs t b) Γ μ1 Q := VS_eS
theorem VS_for0 {t : Tgt} {b : SemS} : VS (forS [] t b) Γ μ Q ↔ Q (.nx Γ) μ := VS_next
theorem VS_forc {t : Tgt} {b : SemS} {x : A} {xs : List A} : VS (forS (x :: xs) t b) Γ μ Q ↔ ∃ Γ1, t x Γ = some Γ1 ∧ VS b Γ1 μ (loop1 (fun Γ2 μ2 => VS (forS xs t b) Γ2 μ2 Q) Q) := by
  constructor
  · rintro ⟨o, μ', e, n, q⟩
    unfold forS at e
    split at e
    · cases e
    · rename_i Γ1 et
      refine ⟨Γ1, et, ?_⟩
      split at e
      · rename_i Γ2 μ2 e1; exact ⟨_, _, e1, by simp, o, μ', e, n, q⟩
      · rename_i Γ2 μ2 e1; exact ⟨_, _, e1, by simp, o, μ', e, n, q⟩
      · rename_i Γ2 μ2 e1; cases e; exact ⟨_, _, e1, by simp, q⟩
      · rename_i Γ2 μ2 e1; cases e; exact ⟨_, _, e1, by simp, q⟩
      · cases e; exact absurd rfl (n _ _ _)
      · cases e
  · rintro ⟨Γ1, et, o, μ', e, n, q⟩
    cases o with
    | nx Γ2 => obtain ⟨o2, μ2, e2, n2, q2⟩ := q; exact ⟨o2, μ2, by unfold forS; rw [et]; dsimp only; rw [e]; exact e2, n2, q2⟩
    | ct Γ2 => obtain ⟨o2, μ2, e2, n2, q2⟩ := q; exact ⟨o2, μ2, by unfold forS; rw [et]; dsimp only; rw [e]; exact e2, n2, q2⟩
    | bk Γ2 => exact ⟨_, _, by unfold forS; rw [et]; dsimp only; rw [e], by simp, q⟩
    | rt Γ2 => exact ⟨_, _, by unfold forS; rw [et]; dsimp only; rw [e], by simp, q⟩
    | ex a b c => exact absurd rfl (n _ _ _)
/-- a for by an invariant of what is still to come -/
theorem for_ind {t : Tgt} {b : SemS} (I : List A → Gam → Store → Prop) (hs : ∀ x rest Γ μ, I (x :: rest) Γ μ → ∃ Γ1, t x Γ = some Γ1 ∧ VS b Γ1 μ (loop1 (I rest) Q)) (he : ∀ Γ μ, I [] Γ μ → Q (.nx Γ) μ) :
    ∀ (xs : List A) (Γ : Gam) (μ : Store), I xs Γ μ → VS (forS xs t b) Γ μ Q
  | [], Γ, μ, h => VS_for0.mpr (he Γ μ h)
  | x :: xs, Γ, μ, h => by
    obtain ⟨Γ1, e, h1⟩ := hs x xs Γ μ h
    refine VS_forc.mpr ⟨Γ1, e, h1.mono fun o μ2 q => ?_⟩
    cases o with
    | nx Γ2 => exact for_ind I hs he xs Γ2 μ2 q
    | ct Γ2 => exact for_ind I hs he xs Γ2 μ2 q
    | bk Γ2 => exact q
    | rt Γ2 => exact q
    | ex a b c => exact q.elim
/-- .. by the turn's number, over a list that is told by a function -/
theorem for_idx {t : Tgt} {b : SemS} {n : Nat} {xs : List A} (hn : xs.length = n) (I : Nat → Gam → Store → Prop) (h0 : I 0 Γ μ)
    (hs : ∀ i x Γ μ, i < n → xs[i]? = some x → I i Γ μ → ∃ Γ1, t x Γ = some Γ1 ∧ VS b Γ1 μ (loop1 (I (i + 1)) Q)) (he : ∀ Γ μ, I n Γ μ → Q (.nx Γ) μ) : VS (forS xs t b) Γ μ Q := by
  refine for_ind (fun rest Γ μ => ∃ i, i ≤ n ∧ rest = xs.drop i ∧ I i Γ μ) (fun x rest Γ μ ⟨i, hi, e, h⟩ => ?_) (fun Γ μ ⟨i, hi, e, h⟩ => ?_) xs Γ μ ⟨0, Nat.zero_le _, by simp, h0⟩
  · have hlt : i < xs.length := by
      rcases Nat.lt_or_ge i xs.length with z | z
      · exact z
      · rw [List.drop_eq_nil_of_le z] at e; cases e
    rw [List.drop_eq_getElem_cons hlt] at e
    simp only [List.cons.injEq] at e
    obtain ⟨e1, e2⟩ := e
    obtain ⟨Γ1, et, h1⟩ := hs i x Γ μ (by omega) (by rw [e1]; exact List.getElem?_eq_getElem hlt) h
    refine ⟨Γ1, et, h1.mono fun o μ2 q => ?_⟩
    cases o with
    | nx Γ2 => exact ⟨i + 1, by omega, e2, q⟩
    | ct Γ2 => exact ⟨i + 1, by omega, e2, q⟩
    | bk Γ2 => exact q
    | rt Γ2 => exact q
    | ex a b c => exact q.elim
  · have : i = n := by
      have hl : (xs.drop i).length = 0 := by rw [← e]; rfl
      rw [List.length_drop] at hl; omega
    subst this
    exact he Γ μ h
/-! while -/
theorem VS_while {n : Nat} {f : ZL.Sem Bool} {b : SemS} : VS (whileS (n + 1) f b) Γ μ Q ↔ W f Γ μ fun c μ1 => (c = true → VS b Γ μ1 (loop1 (fun Γ2 μ2 => VS (whileS n f b) Γ2 μ2 Q) Q)) ∧ (c = false → Q (.nx Γ) μ1) := by
  have key : ∀ {μ : Store}, VS (fun Γ μ => match b Γ μ with
      | some (.nx Γ2, μ2) => whileS n f b Γ2 μ2
      | some (.ct Γ2, μ2) => whileS n f b Γ2 μ2
      | some (.bk Γ2, μ2) => some (.nx Γ2, μ2)
      | some (.rt x, μ2) => some (.rt x, μ2)
      | some (.ex Γ2 n fs, μ2) => some (.ex Γ2 n fs, μ2)
      | none => none) Γ μ Q ↔ VS b Γ μ (loop1 (fun Γ2 μ2 => VS (whileS n f b) Γ2 μ2 Q) Q) := by
    intro μ
    constructor
    · rintro ⟨o, μ', e, n, q⟩
      try dsimp only at e
      split at e
      · rename_i Γ2 μ2 e1; exact ⟨_, _, e1, by simp, o, μ', e, n, q⟩
      · rename_i Γ2 μ2 e1; exact ⟨_, _, e1, by simp, o, μ', e, n, q⟩
      · rename_i Γ2 μ2 e1; cases e; exact ⟨_, _, e1, by simp, q⟩
      · rename_i Γ2 μ2 e1; cases e; exact ⟨_, _, e1, by simp, q⟩
      · cases e; exact absurd rfl (n _ _ _)
      · cases e
    · rintro ⟨o, μ', e, n, q⟩
      cases o with
      | nx Γ2 => obtain ⟨o2, μ2, e2, n2, q2⟩ := q; exact ⟨o2, μ2, by dsimp only; rw [e]; exact e2, n2, q2⟩
      | ct Γ2 => obtain ⟨o2, μ2, e2, n2, q2⟩ := q; exact ⟨o2, μ2, by dsimp only; rw [e]; exact e2, n2, q2⟩
      | bk Γ2 => exact ⟨_, _, by dsimp only; rw [e], by simp, q⟩
      | rt Γ2 => exact ⟨_, _, by dsimp only; rw [e], by simp, q⟩
      | ex a b c => exact absurd rfl (n _ _ _)
  have hw : whileS (n + 1) f b = eS f fun c => if c then (fun Γ μ => match b Γ μ with
      | some (.nx Γ2, μ2) => whileS n f b Γ2 μ2
      | some (.ct Γ2, μ2) => whileS n f b Γ2 μ2
      | some (.bk Γ2, μ2) => some (.nx Γ2, μ2)
      | some (.rt x, μ2) => some (.rt x, μ2)
      | some (.ex Γ2 n fs, μ2) => some (.ex Γ2 n fs, μ2)
      | none => none) else nextS := rfl
  rw [hw, VS_eS]
  constructor <;> (intro h; refine h.mono fun c μ1 h => ?_) <;> cases c
  · exact ⟨fun e => (by cases e), fun _ => VS_next.mp h⟩
  · exact ⟨fun _ => key.mp h, fun e => by cases e⟩
  · exact VS_next.mpr (h.2 rfl)
  · exact key.mpr (h.1 rfl)
/-! a function -/
def ends1 (Q : A → Store → Prop) : Out → Store → Prop
  | .nx _, μ => Q (.d .none) μ
  | .rt x, μ => Q x μ
  | _, _ => False
@[simp] theorem ends1_nx {Q : A → Store → Prop} {Γ1 : Gam} {μ1 : Store} : ends1 Q (.nx Γ1) μ1 = Q (.d .none) μ1 := rfl
@[simp] theorem ends1_rt {Q : A → Store → Prop} {x : A} {μ1 : Store} : ends1 Q (.rt x) μ1 = Q x μ1 := rfl
@[simp] theorem WQ_fnS {np n : Nat} {body : SemS} {as : List A} {Q : A → Store → Prop} : WQ (fnS np n body) as μ Q ↔ as.length = np ∧ VS body (as.map some ++ List.replicate (n - np) none) μ (ends1 Q) := by
  unfold WQ fnS
  constructor
  · rintro ⟨x, μ', e, q⟩
    try dsimp only at e
    split at e
    · rename_i hl
      refine ⟨hl, ?_⟩
      split at e
      · rename_i Γ1 μ1 e1; cases e; exact ⟨_, _, e1, by simp, q⟩
      · rename_i Γ1 μ1 e1; cases e; exact ⟨_, _, e1, by simp, q⟩
      · cases e
      · cases e
    · cases e
  · rintro ⟨hl, o, μ', e, n, q⟩
    rw [if_pos hl]
    cases o with
    | nx Γ1 => exact ⟨_, _, by (try dsimp only); rw [e], q⟩
    | rt x => exact ⟨_, _, by (try dsimp only); rw [e], q⟩
    | bk a => exact q.elim
    | ct a => exact q.elim
    | ex a b c => exact q.elim
@[simp] theorem W_callE {m : Mode} {sem : SemF} {fa : ZL.Sem (List A)} {Q : A → Store → Prop} : W (callE m sem fa) Γ μ Q ↔ W fa Γ μ fun as μ1 => W (callM m sem as) Γ μ1 Q := W_sb
/-- a call that is lent nothing -/
theorem W_callP {sem : SemF} {as : List A} {Q : A → Store → Prop} (hd : (allD as).isSome = true) (h : WQ sem as [] fun x _ => ∃ d, x = .d d ∧ Q (.d d) μ) : W (callM .P sem as) Γ μ Q := by
  obtain ⟨ds, e⟩ := Option.isSome_iff_exists.mp hd
  obtain ⟨x, μ', e', d, rfl, q⟩ := h
  exact ⟨_, _, by unfold callM callP; dsimp only; rw [e]; dsimp only; rw [e'], q⟩
theorem W_callP_eq {sem : SemF} {as : List A} {d : D} {μ' : Store} {Q : A → Store → Prop} (h : sem as [] = some (.ok (.d d), μ')) (hd : (allD as).isSome = true) : W (callM .P sem as) Γ μ Q ↔ Q (.d d) μ := by
  obtain ⟨ds, e⟩ := Option.isSome_iff_exists.mp hd
  exact W_some (by unfold callM callP; dsimp only; rw [e]; dsimp only; rw [h])
theorem W_callP_new {sem : SemF} {as : List A} {i : Nat} {μ' : Store} {Q : A → Store → Prop} (h : sem as [] = some (.ok (.ref i), μ')) (hd : (allD as).isSome = true) : W (callM .P sem as) Γ μ Q ↔ Q (.ref (μ.length + i)) (μ ++ μ'.map (shC μ.length)) := by
  obtain ⟨ds, e⟩ := Option.isSome_iff_exists.mp hd
  exact W_some (by unfold callM callP; dsimp only; rw [e]; dsimp only; rw [h])
/-- a call that is lent the store: the result is data, what it made is dropped -/
theorem W_callL {sem : SemF} {as : List A} {Q : A → Store → Prop} (h : WQ sem as μ fun x μ' => ∃ d, x = .d d ∧ (μ'.take μ.length).all (blC μ.length) = true ∧ Q (.d d) (μ'.take μ.length)) : W (callM .L sem as) Γ μ Q := by
  obtain ⟨x, μ', e', d, rfl, hb, q⟩ := h
  refine ⟨_, _, ?_, q⟩
  unfold callM callL
  dsimp only
  rw [e']
  dsimp only
  rw [hb]
  rfl
theorem W_callB {sem : SemF} {as : List A} {ds : List D} {Q : A → Store → Prop} (hd : rds μ as = some ds) (h : WQ sem (ds.map .d) [] fun x _ => ∃ d, x = .d d ∧ flatD d = true ∧ Q (.d d) μ) : W (callM .B sem as) Γ μ Q := by
  obtain ⟨x, μ', e', d, rfl, hf, q⟩ := h
  exact ⟨_, _, by unfold callM callB; dsimp only; rw [hd]; dsimp only; rw [e']; dsimp only; rw [if_pos hf], q⟩
/-! what is walked -/
theorem W_iSeq {f : ZL.Sem A} {Q : List A → Store → Prop} : W (iSeq f) Γ μ Q ↔ W f Γ μ fun x μ1 => ∃ xs, itemsA x = some xs ∧ Q xs μ1 := by
  unfold iSeq
  rw [W_sb]
  constructor <;> (intro h; refine h.mono fun x μ1 h => ?_)
  · obtain ⟨y, μ', e, q⟩ := h
    try dsimp only at e
    split at e
    · rename_i xs ex; cases e; exact ⟨_, ex, q⟩
    · cases e
  · obtain ⟨xs, e, q⟩ := h
    exact ⟨xs, μ1, by (try dsimp only); rw [e], q⟩
@[simp] theorem W_rng1 {f : ZL.Sem A} {Q : List A → Store → Prop} : W (rng1 f) Γ μ Q ↔ W f Γ μ fun x μ1 => ∃ j, x = .d (.int j) ∧ okR j = true ∧ Q (rng 0 j.toNat) μ1 := by
  unfold rng1
  simp only [W_sb, W_acons, W_anil]
  constructor <;> (intro h; refine h.mono fun x μ1 h => ?_)
  · obtain ⟨y, μ', e, q⟩ := h
    try dsimp only at e
    split at e
    · rename_i xs j ex
      simp only [List.cons.injEq, and_true] at ex
      split at e
      · rename_i ho; cases e; exact ⟨j, ex, ho, q⟩
      · cases e
    · cases e
  · obtain ⟨j, rfl, ho, q⟩ := h
    exact ⟨_, μ1, by dsimp only; rw [if_pos ho], q⟩
@[simp] theorem W_rng2 {f g : ZL.Sem A} {Q : List A → Store → Prop} : W (rng2 f g) Γ μ Q ↔ W f Γ μ fun x μ1 => W g Γ μ1 fun y μ2 => ∃ i j, x = .d (.int i) ∧ y = .d (.int j) ∧ (okR i && okR j) = true ∧ Q (rng i (j - i).toNat) μ2 := by
  unfold rng2
  simp only [W_sb, W_acons, W_anil]
  constructor <;> (intro h; refine h.mono fun x μ1 h => h.mono fun y μ2 h => ?_)
  · obtain ⟨z, μ', e, q⟩ := h
    try dsimp only at e
    split at e
    · rename_i xs i j ex
      simp only [List.cons.injEq, and_true] at ex
      split at e
      · rename_i ho; cases e; exact ⟨i, j, ex.1, ex.2, ho, q⟩
      · cases e
    · cases e
  · obtain ⟨i, j, rfl, rfl, ho, q⟩ := h
    exact ⟨_, μ2, by dsimp only; rw [if_pos ho], q⟩
/-! comprehensions -/
theorem WL_nil {t : Tgt} {ft : ZL.Sem Bool} {fe : ZL.Sem A} {Q : List A → Store → Prop} : WL (lcS t ft fe Γ []) μ Q ↔ Q [] μ := by
  unfold WL lcS
  constructor
  · rintro ⟨_, _, e, q⟩; cases e; exact q
  · intro q; exact ⟨_, _, rfl, q⟩
theorem WL_cons {t : Tgt} {ft : ZL.Sem Bool} {fe : ZL.Sem A} {x : A} {xs : List A} {Q : List A → Store → Prop} : WL (lcS t ft fe Γ (x :: xs)) μ Q ↔ ∃ Γ1, t x Γ = some Γ1 ∧ W ft Γ1 μ fun b μ1 =>
    (b = true → W fe Γ1 μ1 fun y μ2 => WL (lcS t ft fe Γ xs) μ2 fun ys μ3 => Q (y :: ys) μ3) ∧ (b = false → WL (lcS t ft fe Γ xs) μ1 Q) := by
  constructor
  · rintro ⟨ys, μ', e, q⟩
    unfold lcS at e
    split at e
    · cases e
    · rename_i Γ1 et
      refine ⟨Γ1, et, ?_⟩
      split at e
      · rename_i μ1 e1
        refine ⟨_, _, e1, fun _ => ?_, fun z => by cases z⟩
        split at e
        · rename_i y μ2 e2
          refine ⟨_, _, e2, ?_⟩
          split at e
          · rename_i ys' μ3 e3; cases e; exact ⟨_, _, e3, q⟩
          · cases e
        · cases e
      · rename_i μ1 e1
        exact ⟨_, _, e1, fun z => (by cases z), fun _ => ⟨_, _, e, q⟩⟩
      · cases e
  · rintro ⟨Γ1, et, b, μ1, e1, h1, h2⟩
    cases b with
    | true =>
      obtain ⟨y, μ2, e2, ys, μ3, e3, q⟩ := h1 rfl
      exact ⟨_, _, by unfold lcS; rw [et]; dsimp only; rw [e1]; dsimp only; rw [e2]; dsimp only; rw [e3], q⟩
    | false =>
      obtain ⟨ys, μ3, e3, q⟩ := h2 rfl
      exact ⟨_, _, by unfold lcS; rw [et]; dsimp only; rw [e1]; exact e3, q⟩
theorem WL_map {γ : Type} {t : Tgt} {ft : ZL.Sem Bool} {fe : ZL.Sem A} {Q : List A → Store → Prop} (emb : γ → A) (g : γ → A) : ∀ (xs : List γ), (∀ x ∈ xs, ∃ Γ1, t (emb x) Γ = some Γ1 ∧ W ft Γ1 μ (fun b μ1 => b = true ∧ μ1 = μ) ∧ W fe Γ1 μ (fun y μ1 => y = g x ∧ μ1 = μ)) →
    Q (xs.map g) μ → WL (lcS t ft fe Γ (xs.map emb)) μ Q := by
  intro xs
  induction xs generalizing Q with
  | nil => intro _ q; exact WL_nil.mpr q
  | cons x xs ih =>
    intro h q
    obtain ⟨Γ1, et, h1, h2⟩ := h x List.mem_cons_self
    rw [List.map_cons, WL_cons]
    refine ⟨Γ1, et, h1.mono ?_⟩
    rintro b μ1 ⟨rfl, rfl⟩
    refine ⟨fun _ => h2.mono ?_, fun z => by cases z⟩
    rintro y μ2 ⟨rfl, rfl⟩
    exact ih (fun z hz => h z (List.mem_cons_of_mem _ hz)) q
/-- .. with a test -/
theorem WL_filter {γ : Type} {t : Tgt} {ft : ZL.Sem Bool} {fe : ZL.Sem A} {Q : List A → Store → Prop} (emb : γ → A) (p : γ → Bool) (g : γ → A) : ∀ (xs : List γ), (∀ x ∈ xs, ∃ Γ1, t (emb x) Γ = some Γ1 ∧ W ft Γ1 μ (fun b μ1 => b = p x ∧ μ1 = μ) ∧ (p x = true → W fe Γ1 μ (fun y μ1 => y = g x ∧ μ1 = μ))) →
    Q ((xs.filter p).map g) μ → WL (lcS t ft fe Γ (xs.map emb)) μ Q := by
  intro xs
  induction xs generalizing Q with
  | nil => intro _ q; exact WL_nil.mpr q
  | cons x xs ih =>
    intro h q
    obtain ⟨Γ1, et, h1, h2⟩ := h x List.mem_cons_self
    rw [List.map_cons, WL_cons]
    refine ⟨Γ1, et, h1.mono ?_⟩
    rintro b μ1 ⟨rfl, rfl⟩
    refine ⟨fun hb => (h2 hb).mono ?_, fun hb => ?_⟩
    · rintro y μ2 ⟨rfl, rfl⟩
      rw [List.filter_cons_of_pos hb] at q
      exact ih (fun z hz => h z (List.mem_cons_of_mem _ hz)) q
    · rw [List.filter_cons_of_neg (by rw [hb]; simp)] at q
      exact ih (fun z hz => h z (List.mem_cons_of_mem _ hz)) q
/-- .. with what changes the store: an invariant of what stands and of what is still to come -/
theorem WL_ind {t : Tgt} {ft : ZL.Sem Bool} {fe : ZL.Sem A} {Q : List A → Store → Prop} (I : List A → List A → Store → Prop)
    (hs : ∀ x rest ys μ, I (x :: rest) ys μ → ∃ Γ1, t x Γ = some Γ1 ∧ W ft Γ1 μ fun b μ1 => (b = true → W fe Γ1 μ1 fun y μ2 => I rest (ys ++ [y]) μ2) ∧ (b = false → I rest ys μ1)) :
    ∀ (xs ys : List A) (μ : Store), I xs ys μ → (∀ ys μ, I [] ys μ → Q ys μ) → WL (lcS t ft fe Γ xs) μ fun zs μ2 => Q (ys ++ zs) μ2
  | [], ys, μ, h, he => WL_nil.mpr (by rw [List.append_nil]; exact he ys μ h)
  | x :: xs, ys, μ, h, he => by
    obtain ⟨Γ1, et, h1⟩ := hs x xs ys μ h
    refine WL_cons.mpr ⟨Γ1, et, h1.mono fun b μ1 hb => ⟨fun e => (hb.1 e).mono fun y μ2 hi => ?_, fun e => WL_ind I hs xs ys μ1 (hb.2 e) he⟩⟩
    exact (WL_ind I hs xs (ys ++ [y]) μ2 hi he).mono fun zs μ3 q => by rw [List.append_assoc] at q; exact q
theorem W_compF {vs : List Nat} {fi : ZL.Sem (List A)} {t : Tgt} {ft : ZL.Sem Bool} {fe : ZL.Sem A} {Q : A → Store → Prop} : W (comp false vs fi t ft fe) Γ μ Q ↔ W fi Γ μ fun xs μ1 => xs.length ≤ 1000000 ∧ WL (lcS t ft fe (wipeG Γ vs) xs) μ1 fun ys μ2 => ∃ ds, allD ys = some ds ∧ Q (.d (.list ds)) μ2 := by
  unfold comp
  rw [W_sb]
  constructor <;> (intro h; refine h.mono fun xs μ1 h => ?_)
  · obtain ⟨y, μ', e, q⟩ := h
    unfold compK at e
    split at e
    · rename_i hl
      refine ⟨hl, ?_⟩
      split at e
      · rename_i ys μ2 e1
        refine ⟨_, _, e1, ?_⟩
        unfold fin at e
        simp only [Bool.false_eq_true, if_false] at e
        split at e
        · rename_i ds ed; cases e; exact ⟨_, ed, q⟩
        · cases e
      · cases e
    · cases e
  · obtain ⟨hl, ys, μ2, e1, ds, ed, q⟩ := h
    refine ⟨_, _, ?_, q⟩
    unfold compK
    rw [if_pos hl, e1]
    unfold fin
    simp only [Bool.false_eq_true, if_false]
    rw [ed]
@[simp] theorem W_compT {vs : List Nat} {fi : ZL.Sem (List A)} {t : Tgt} {ft : ZL.Sem Bool} {fe : ZL.Sem A} {Q : A → Store → Prop} : W (comp true vs fi t ft fe) Γ μ Q ↔ W fi Γ μ fun xs μ1 => xs.length ≤ 1000000 ∧ WL (lcS t ft fe (wipeG Γ vs) xs) μ1 fun ys μ2 => Q (.ref μ2.length) (μ2 ++ [.lst ys]) := by
  unfold comp
  rw [W_sb]
  constructor <;> (intro h; refine h.mono fun xs μ1 h => ?_)
  · obtain ⟨y, μ', e, q⟩ := h
    unfold compK at e
    split at e
    · rename_i hl
      refine ⟨hl, ?_⟩
      split at e
      · rename_i ys μ2 e1
        refine ⟨_, _, e1, ?_⟩
        unfold fin mkC at e
        simp only [if_true] at e
        cases e; exact q
      · cases e
    · cases e
  · obtain ⟨hl, ys, μ2, e1, q⟩ := h
    refine ⟨_, _, ?_, q⟩
    unfold compK
    rw [if_pos hl, e1]
    unfold fin mkC
    simp only [if_true]
@[simp] theorem W_yes {Q : Bool → Store → Prop} : W yesT Γ μ Q ↔ Q true μ := W_some rfl
end
end ZL

/-! Layer Z, part P: reckoning: data, the words zs. -/
namespace ZL
open PySem PySem.Spec PyProof.Rows L2
section
variable {μ : Store} {i j : Int} {x : D}
@[simp] theorem rd_d : rd μ (.d x) = some x := rfl
@[simp] theorem tru_b {b : Bool} : tru μ (.d (.bool b)) = some b := rfl
@[simp] theorem tru_i : tru μ (.d (.int i)) = some (i != 0) := rfl
@[simp] theorem tyA_d : tyA μ (.d x) = some (tyD x) := rfl
@[simp] theorem lenK_l {ds : List D} : lenK (.d (.list ds)) μ = some (ds.length : Int) := rfl
@[simp] theorem lenK_t {ds : List D} : lenK (.d (.tuple ds)) μ = some (ds.length : Int) := rfl
theorem lenK_r {j : Nat} {xs : List A} (h : μ[j]? = some (.lst xs)) : lenK (.ref j) μ = some (xs.length : Int) := by unfold lenK; dsimp only; rw [h]
theorem isL_r {j : Nat} {xs : List A} (h : μ[j]? = some (.lst xs)) : isL μ (.ref j) = some (j, xs) := by unfold isL; dsimp only; rw [h]
theorem rd_r {j : Nat} {ds : List D} (h : μ[j]? = some (.lst (ds.map .d))) : rd μ (.ref j) = some (.list ds) := by unfold rd; dsimp only; rw [h]; simp
theorem opAdd_i {z : D} : opAdd (.int i) (.int j) = some z ↔ .int (i + j) = z := by simp [opAdd]
theorem opAdd_t {xs ys : List D} {z : D} : opAdd (.tuple xs) (.tuple ys) = some z ↔ xs.length + ys.length ≤ 1000000 ∧ .tuple (xs ++ ys) = z := by
  unfold opAdd; split <;> simp_all
theorem opAdd_l {xs ys : List D} {z : D} : opAdd (.list xs) (.list ys) = some z ↔ xs.length + ys.length ≤ 1000000 ∧ .list (xs ++ ys) = z := by
  unfold opAdd; split <;> simp_all
theorem opSub_i {z : D} : opSub (.int i) (.int j) = some z ↔ .int (i - j) = z := by simp [opSub, opI]
theorem opMul_i {z : D} : opMul (.int i) (.int j) = some z ↔ ((-(2 ^ 64) < i ∧ i < 2 ^ 64) ∨ (-(2 ^ 64) < j ∧ j < 2 ^ 64)) ∧ .int (i * j) = z := by
  simp only [opMul, opI]
  constructor
  · intro h; split at h <;> simp_all
  · rintro ⟨h1, h2⟩; rw [if_pos (by simpa using h1)]; rw [h2]
theorem opMod_i {z : D} : opMod (.int i) (.int j) = some z ↔ 0 < j ∧ .int (i % j) = z := by
  simp only [opMod, opI]
  constructor
  · intro h; split at h <;> simp_all
  · rintro ⟨h1, h2⟩; rw [if_pos (by simpa using h1)]; rw [h2]
theorem opDiv_i {z : D} : opDiv (.int i) (.int j) = some z ↔ (0 < j ∧ j < 1073741824) ∧ .int (i / j) = z := by
  simp only [opDiv, opI]
  constructor
  · intro h; split at h <;> simp_all
  · rintro ⟨h1, h2⟩; rw [if_pos (by simpa using h1)]; rw [h2]
theorem opPow_i {z : D} : opPow (.int i) (.int j) = some z ↔ (0 ≤ j ∧ j ≤ 1000000 ∧ i.natAbs < 2 ^ 64) ∧ .int (i ^ j.toNat) = z := by
  simp only [opPow, opI]
  constructor
  · intro h; split at h <;> simp_all
  · rintro ⟨h1, h2⟩; rw [if_pos (by simpa using h1)]; rw [h2]
theorem augI {z : D} : opI (fun _ _ => true) (fun a b => a + b) (.int i) (.int j) = some z ↔ .int (i + j) = z := by simp [opI]
theorem cLt_i {k : Bool} : cLt (.int i) (.int j) = some k ↔ decide (i < j) = k := by simp [cLt, cI]
theorem cLe_i {k : Bool} : cLe (.int i) (.int j) = some k ↔ decide (i ≤ j) = k := by simp [cLe, cI]
theorem cGt_i {k : Bool} : cGt (.int i) (.int j) = some k ↔ decide (j < i) = k := by simp [cGt, cI]
theorem cGe_i {k : Bool} : cGe (.int i) (.int j) = some k ↔ decide (j ≤ i) = k := by simp [cGe, cI]
theorem shaped_i : SeqAt.shaped (.int i) = true := rfl
theorem shaped_b {b : Bool} : SeqAt.shaped (.bool b) = true := rfl
theorem cEq_i {k : Bool} : cEq (.int i) (.int j) = some k ↔ decide (i = j) = k := by
  unfold cEq
  rw [shaped_i, shaped_i]
  simp only [PyData.eqv, Bool.and_self, if_true, Option.some.injEq]
  constructor <;> (intro h; rw [← h]; by_cases e : i = j <;> simp [e])
theorem cNe_i {k : Bool} : cNe (.int i) (.int j) = some k ↔ decide (i ≠ j) = k := by
  unfold cNe
  rw [shaped_i, shaped_i]
  simp only [PyData.eqv, Bool.and_self, if_true, Option.some.injEq]
  constructor <;> (intro h; rw [← h]; by_cases e : i = j <;> simp [e])
theorem cEq_b {b c k : Bool} : cEq (.bool b) (.bool c) = some k ↔ (b == c) = k := by
  unfold cEq
  rw [shaped_b, shaped_b]
  simp [PyData.eqv]
theorem cNe_b {b c k : Bool} : cNe (.bool b) (.bool c) = some k ↔ (b != c) = k := by
  unfold cNe
  rw [shaped_b, shaped_b]
  simp only [PyData.eqv, Bool.and_self, if_true, Option.some.injEq]
  constructor <;> (intro h; rw [← h]; cases b <;> cases c <;> rfl)
theorem isNk_d {neg : Bool} {b : Bool} : isNk neg (.d x) μ = some (.ok b, μ) ↔ (match x with | .none => !neg | _ => neg) = b := by
  cases x <;> simp [isNk]
theorem isNk_r {neg : Bool} {b : Bool} {j : Nat} : isNk neg (.ref j) μ = some (.ok b, μ) ↔ neg = b := by simp [isNk]
theorem ixA_t {ds : List D} {z : A} : ixA (.d (.tuple ds)) i μ = some z ↔ ∃ d, atI ds i = some d ∧ .d d = z := by simp [ixA]
theorem ixA_l {ds : List D} {z : A} : ixA (.d (.list ds)) i μ = some z ↔ ∃ d, atI ds i = some d ∧ .d d = z := by simp [ixA]
theorem ixA_r {j : Nat} {xs : List A} (h : μ[j]? = some (.lst xs)) : ixA (.ref j) i μ = atI xs i := by unfold ixA; dsimp only; rw [h]
@[simp] theorem atI_0 {α : Type} {a : α} {r : List α} : atI (a :: r) 0 = some a := by simp [atI, ixN]
theorem atI_n {α : Type} {r : List α} {n : Nat} (h : n < r.length) : atI r (n : Int) = some r[n] := by
  unfold atI ixN
  rw [if_pos (by omega), if_pos (by omega)]
  simp [h]
theorem atI_ge {α : Type} {r : List α} (h0 : 0 ≤ i) (h : i < r.length) : atI r i = r[i.toNat]? := by
  unfold atI ixN
  rw [if_pos h0, if_pos h]
  simp
theorem ixN_ge {n : Nat} (h0 : 0 ≤ i) (h : i < n) : ixN n i = some i.toNat := by
  unfold ixN
  rw [if_pos h0, if_pos h]
theorem atI_last {α : Type} {r : List α} {a : α} : atI (r ++ [a]) (-1) = some a := by
  unfold atI ixN
  rw [if_neg (by omega), if_pos (by rw [List.length_append]; simp; omega)]
  simp only [Option.bind_some, List.length_append, List.length_singleton]
  have : ((-1 : Int) + ((r.length + 1 : Nat) : Int)).toNat = r.length := by omega
  rw [this]
  simp
theorem okR_of (h0 : -1000000 ≤ i) (h : i ≤ 1000000) : okR i = true := by
  simp only [okR, Bool.and_eq_true, decide_eq_true_eq]
  omega
theorem ex_d {P : D → Prop} {y : D} : (∃ d, A.d y = A.d d ∧ P d) ↔ P y := by simp
@[simp] theorem allD_d {y : D} {ys : List A} : allD (.d y :: ys) = (allD ys).map (y :: ·) := rfl
@[simp] theorem allD_n : allD [] = some [] := rfl
theorem rng_len {lo : Int} {n : Nat} : (rng lo n).length = n := by simp [rng]
theorem rng_get {lo : Int} {n k : Nat} {y : A} : (rng lo n)[k]? = some y ↔ k < n ∧ A.d (.int (lo + (k : Nat))) = y := by
  simp only [rng, List.getElem?_map, Option.map_eq_some_iff, List.getElem?_range, List.getElem?_eq_some_iff]
  constructor
  · rintro ⟨a, ⟨h1, h2⟩, h3⟩
    simp at h1 h2
    subst h2
    exact ⟨h1, h3⟩
  · rintro ⟨h1, h2⟩
    exact ⟨k, ⟨by simpa using h1, by simp⟩, h2⟩
end
/-! what must be there -/
def OQ {α : Type} (o : Option α) (Q : α → Prop) : Prop := ∃ x, o = some x ∧ Q x
@[simp] theorem OQ_some {α : Type} {x : α} {Q : α → Prop} : OQ (some x) Q ↔ Q x := by simp [OQ]
@[simp] theorem OQ_none {α : Type} {Q : α → Prop} : OQ none Q ↔ False := by simp [OQ]
theorem OQ_of {α : Type} {x : α} {o : Option α} {Q : α → Prop} (e : o = some x) : OQ o Q ↔ Q x := by rw [e]; exact OQ_some
theorem OQ_map {α β : Type} {o : Option α} {f : α → β} {Q : β → Prop} : OQ (o.map f) Q ↔ OQ o fun x => Q (f x) := by
  cases o <;> simp
section
variable {α β : Type} {Γ : Gam} {μ : Store}
theorem W_congr {f : ZL.Sem α} {Q Q' : α → Store → Prop} (h : ∀ x μ', Q x μ' ↔ Q' x μ') : W f Γ μ Q ↔ W f Γ μ Q' := ⟨fun w => w.mono fun x μ' => (h x μ').mp, fun w => w.mono fun x μ' => (h x μ').mpr⟩
@[simp] theorem W_varq {i : Nat} {Q : A → Store → Prop} : W (var i) Γ μ Q ↔ OQ Γ[i]? fun o => OQ o fun x => Q x μ := by
  rw [W_var]
  constructor
  · rintro ⟨x, e, q⟩; exact ⟨_, e, _, rfl, q⟩
  · rintro ⟨o, e, x, rfl, q⟩; exact ⟨x, e, q⟩
@[simp] theorem W_binq {op : D → D → Option D} {fa fb : ZL.Sem A} {Q : A → Store → Prop} : W (bin op fa fb) Γ μ Q ↔ W fa Γ μ fun x μ1 => W fb Γ μ1 fun y μ2 => OQ (rd μ2 x) fun a => OQ (rd μ2 y) fun b => OQ (op a b) fun z => Q (.d z) μ2 := by
  simp only [W_bin, OQ, exists_and_left]
@[simp] theorem W_cmpq {op : D → D → Option Bool} {fa fb : ZL.Sem A} {Q : Bool → Store → Prop} : W (cmp op fa fb) Γ μ Q ↔ W fa Γ μ fun x μ1 => W fb Γ μ1 fun y μ2 => OQ (rd μ2 x) fun a => OQ (rd μ2 y) fun b => OQ (op a b) fun k => Q k μ2 := by
  simp only [W_cmp, OQ, exists_and_left]
@[simp] theorem W_truEq {fa : ZL.Sem A} {Q : Bool → Store → Prop} : W (truE fa) Γ μ Q ↔ W fa Γ μ fun x μ1 => OQ (tru μ1 x) fun b => Q b μ1 := W_truE
@[simp] theorem W_andVq {fa fb : ZL.Sem A} {Q : A → Store → Prop} : W (andV fa fb) Γ μ Q ↔ W fa Γ μ fun x μ1 => OQ (tru μ1 x) fun b => (b = true → W fb Γ μ1 Q) ∧ (b = false → Q x μ1) := W_andV
@[simp] theorem W_orVq {fa fb : ZL.Sem A} {Q : A → Store → Prop} : W (orV fa fb) Γ μ Q ↔ W fa Γ μ fun x μ1 => OQ (tru μ1 x) fun b => (b = true → Q x μ1) ∧ (b = false → W fb Γ μ1 Q) := W_orV
@[simp] theorem W_notVq {fa : ZL.Sem A} {Q : A → Store → Prop} : W (notV fa) Γ μ Q ↔ W fa Γ μ fun x μ1 => OQ (tru μ1 x) fun b => Q (.d (.bool (!b))) μ1 := W_notV
@[simp] theorem W_chnq {op op' : D → D → Option Bool} {fa fb fc : ZL.Sem A} {Q : Bool → Store → Prop} : W (chn op op' fa fb fc) Γ μ Q ↔ W fa Γ μ fun x μ1 => W fb Γ μ1 fun y μ2 => OQ (rd μ2 x) fun a => OQ (rd μ2 y) fun b => OQ (op a b) fun k =>
    (k = true → W fc Γ μ2 fun z μ3 => OQ (rd μ3 y) fun b => OQ (rd μ3 z) fun c => OQ (op' b c) fun k => Q k μ3) ∧ (k = false → Q false μ2) := by
  simp only [W_chn, OQ, exists_and_left]
def isNq (neg : Bool) : A → Option Bool
  | .d .none => some (!neg)
  | .d _ => some neg
  | .ref _ => some neg
  | .exn => none
@[simp] theorem W_isNq {neg : Bool} {fa : ZL.Sem A} {Q : Bool → Store → Prop} : W (isN neg fa) Γ μ Q ↔ W fa Γ μ fun x μ1 => OQ (isNq neg x) fun b => Q b μ1 := by
  rw [W_isN]
  refine W_congr fun x μ' => ?_
  unfold OQ
  cases x with
  | d y => cases y <;> simp [isNk, isNq]
  | ref j => simp [isNk, isNq]
  | exn => simp [isNk, isNq]
@[simp] theorem isNq_n {neg : Bool} : isNq neg (.d .none) = some (!neg) := rfl
@[simp] theorem isNq_b {neg b : Bool} : isNq neg (.d (.bool b)) = some neg := rfl
@[simp] theorem isNq_i {neg : Bool} {b : Int} : isNq neg (.d (.int b)) = some neg := rfl
@[simp] theorem isNq_s {neg : Bool} {b : Str} : isNq neg (.d (.str b)) = some neg := rfl
@[simp] theorem isNq_l {neg : Bool} {b : List D} : isNq neg (.d (.list b)) = some neg := rfl
@[simp] theorem isNq_t {neg : Bool} {b : List D} : isNq neg (.d (.tuple b)) = some neg := rfl
@[simp] theorem isNq_r {neg : Bool} {b : Nat} : isNq neg (.ref b) = some neg := rfl
@[simp] theorem W_isEq {Ts : List String} {fa : ZL.Sem A} {Q : A → Store → Prop} : W (isE Ts fa) Γ μ Q ↔ W fa Γ μ fun x μ1 => OQ (tyA μ1 x) fun t => Q (.d (.bool (Ts.any (isTy t)))) μ1 := W_isE
@[simp] theorem W_lenEq {fa : ZL.Sem A} {Q : A → Store → Prop} : W (lenE fa) Γ μ Q ↔ W fa Γ μ fun x μ1 => OQ (lenK x μ1) fun n => Q (.d (.int n)) μ1 := W_lenE
@[simp] theorem W_ixq {fa fb : ZL.Sem A} {Q : A → Store → Prop} : W (ix fa fb) Γ μ Q ↔ W fa Γ μ fun x μ1 => W fb Γ μ1 fun y μ2 => ∃ i, y = .d (.int i) ∧ OQ (ixA x i μ2) fun z => Q z μ2 := by
  simp only [W_ix, OQ, exists_and_left]
@[simp] theorem W_tupEq {fr : ZL.Sem (List A)} {Q : A → Store → Prop} : W (tupE fr) Γ μ Q ↔ W fr Γ μ fun xs μ1 => OQ (allD xs) fun ds => ds.length ≤ 1000000 ∧ Q (.d (.tuple ds)) μ1 := W_tupE
@[simp] theorem W_lstFq {fr : ZL.Sem (List A)} {Q : A → Store → Prop} : W (lstE false fr) Γ μ Q ↔ W fr Γ μ fun xs μ1 => OQ (allD xs) fun ds => xs.length ≤ 1000000 ∧ Q (.d (.list ds)) μ1 := W_lstF
@[simp] theorem W_negq {fa : ZL.Sem A} {Q : A → Store → Prop} : W (neg fa) Γ μ Q ↔ W fa Γ μ fun x μ1 => OQ (rd μ1 x) fun z => ∃ i, z = .int i ∧ Q (.d (.int (-i))) μ1 := by
  rw [W_neg]
  refine W_congr fun x μ' => ?_
  constructor
  · rintro ⟨i, e, q⟩; exact ⟨_, e, i, rfl, q⟩
  · rintro ⟨z, e, i, rfl, q⟩; exact ⟨i, e, q⟩
def listQ : D → Option (List D)
  | .list ds => some ds
  | _ => none
@[simp] theorem listQ_l {ds : List D} : listQ (.list ds) = some ds := rfl
theorem listQ_ex {o : Option D} {P : List D → Prop} : (∃ ds, o = some (.list ds) ∧ P ds) ↔ OQ o fun z => OQ (listQ z) P := by
  constructor
  · rintro ⟨ds, e, p⟩; exact ⟨_, e, ds, rfl, p⟩
  · rintro ⟨z, e, ds, e', p⟩
    cases z <;> simp [listQ] at e'
    subst e'
    exact ⟨_, e, p⟩
@[simp] theorem W_allEq {fa : ZL.Sem A} {Q : A → Store → Prop} : W (allE fa) Γ μ Q ↔ W fa Γ μ fun x μ1 => OQ (rd μ1 x) fun z => OQ (listQ z) fun ds => OQ (boolsD ds) fun bs => Q (.d (.bool (bs.all id))) μ1 := by
  rw [W_allE]
  refine W_congr fun x μ' => ?_
  rw [← listQ_ex]
  simp only [OQ, exists_and_left]
@[simp] theorem W_anyEq {fa : ZL.Sem A} {Q : A → Store → Prop} : W (anyE fa) Γ μ Q ↔ W fa Γ μ fun x μ1 => OQ (rd μ1 x) fun z => OQ (listQ z) fun ds => OQ (boolsD ds) fun bs => Q (.d (.bool (bs.any id))) μ1 := by
  rw [W_anyE]
  refine W_congr fun x μ' => ?_
  rw [← listQ_ex]
  simp only [OQ, exists_and_left]
@[simp] theorem W_sumEq {fa : ZL.Sem A} {Q : A → Store → Prop} : W (sumE fa) Γ μ Q ↔ W fa Γ μ fun x μ1 => OQ (rd μ1 x) fun z => OQ (listQ z) fun ds => OQ (intsD ds) fun bs => Q (.d (.int bs.sum)) μ1 := by
  rw [W_sumE]
  refine W_congr fun x μ' => ?_
  rw [← listQ_ex]
  simp only [OQ, exists_and_left]
@[simp] theorem W_lenSetEq {fa : ZL.Sem A} {Q : A → Store → Prop} : W (lenSetE fa) Γ μ Q ↔ W fa Γ μ fun x μ1 => OQ (rd μ1 x) fun z => OQ (listQ z) fun ds => OQ (intsD ds) fun ns => ns.length ≤ 4000 ∧ Q (.d (.int (lenSet ns))) μ1 := by
  rw [W_lenSetE]
  refine W_congr fun x μ' => ?_
  rw [← listQ_ex]
  simp only [OQ, exists_and_left]
@[simp] theorem W_mt1q {k : Nat → List A → A → Store → Option (A × Cell)} {fo fa : ZL.Sem A} {Q : A → Store → Prop} : W (mt1 k fo fa) Γ μ Q ↔ W fo Γ μ fun x μ1 => (isL μ1 x).isSome ∧ W fa Γ μ1 fun y μ2 => OQ (isL μ2 x) fun p => OQ (k p.1 p.2 y μ2) fun q => Q q.1 (μ2.set p.1 q.2) := by
  rw [W_mt1]
  refine W_congr fun x μ1 => and_congr_right fun _ => W_congr fun y μ2 => ?_
  constructor
  · rintro ⟨j, xs, z, c, e1, e2, q⟩; exact ⟨_, e1, _, e2, q⟩
  · rintro ⟨⟨j, xs⟩, e1, ⟨z, c⟩, e2, q⟩; exact ⟨j, xs, z, c, e1, e2, q⟩
@[simp] theorem W_mt0q {k : Nat → List A → Store → Option (A × Cell)} {fo : ZL.Sem A} {Q : A → Store → Prop} : W (mt0 k fo) Γ μ Q ↔ W fo Γ μ fun x μ1 => OQ (isL μ1 x) fun p => OQ (k p.1 p.2 μ1) fun q => Q q.1 (μ1.set p.1 q.2) := by
  rw [W_mt0]
  refine W_congr fun x μ1 => ?_
  constructor
  · rintro ⟨j, xs, z, c, e1, e2, q⟩; exact ⟨_, e1, _, e2, q⟩
  · rintro ⟨⟨j, xs⟩, e1, ⟨z, c⟩, e2, q⟩; exact ⟨j, xs, z, c, e1, e2, q⟩
@[simp] theorem W_mt2q {k : Nat → List A → A → A → Store → Option (A × Cell)} {fo fa fb : ZL.Sem A} {Q : A → Store → Prop} : W (mt2 k fo fa fb) Γ μ Q ↔ W fo Γ μ fun x μ1 => (isL μ1 x).isSome ∧ W fa Γ μ1 fun y μ2 => W fb Γ μ2 fun y' μ3 => OQ (isL μ3 x) fun p => OQ (k p.1 p.2 y y' μ3) fun q => Q q.1 (μ3.set p.1 q.2) := by
  rw [W_mt2]
  refine W_congr fun x μ1 => and_congr_right fun _ => W_congr fun y μ2 => W_congr fun y' μ3 => ?_
  constructor
  · rintro ⟨j, xs, z, c, e1, e2, q⟩; exact ⟨_, e1, _, e2, q⟩
  · rintro ⟨⟨j, xs⟩, e1, ⟨z, c⟩, e2, q⟩; exact ⟨j, xs, z, c, e1, e2, q⟩
@[simp] theorem VS_asgq {f : ZL.Sem A} {t : Tgt} {Q : Out → Store → Prop} : VS (asg f t) Γ μ Q ↔ W f Γ μ fun x μ1 => OQ (t x Γ) fun Γ' => Q (.nx Γ') μ1 := VS_asg
@[simp] theorem VS_augq {i : Nat} {op : D → D → Option D} {f : ZL.Sem A} {Q : Out → Store → Prop} : VS (aug i op f) Γ μ Q ↔ OQ Γ[i]? fun o => OQ o fun x => W f Γ μ fun y μ1 => OQ (rd μ1 x) fun a => OQ (rd μ1 y) fun b => OQ (op a b) fun z => Q (.nx (Γ.set i (some (.d z)))) μ1 := by
  rw [VS_aug]
  simp only [OQ, exists_and_left]
  constructor
  · rintro ⟨x, e, h⟩; exact ⟨_, e, x, rfl, h⟩
  · rintro ⟨o, e, x, rfl, h⟩; exact ⟨x, e, h⟩
def lstQ : Option Cell → Option (List A)
  | some (.lst xs) => some xs
  | _ => none
@[simp] theorem lstQ_l {xs : List A} : lstQ (some (.lst xs)) = some xs := rfl
@[simp] theorem VS_setIxq {fe fo fi : ZL.Sem A} {Q : Out → Store → Prop} : VS (setIx fe fo fi) Γ μ Q ↔ W fe Γ μ fun z μ1 => W fo Γ μ1 fun x μ2 => W fi Γ μ2 fun y μ3 => ∃ j i, x = .ref j ∧ y = .d (.int i) ∧ OQ (lstQ μ3[j]?) fun xs => OQ (ixN xs.length i) fun k => Q (.nx Γ) (μ3.set j (.lst (xs.set k z))) := by
  rw [VS_setIx]
  refine W_congr fun z μ1 => W_congr fun x μ2 => W_congr fun y μ3 => ?_
  constructor
  · rintro ⟨j, i, xs, k, e1, e2, e3, e4, q⟩; exact ⟨j, i, e1, e2, xs, by rw [e3]; rfl, k, e4, q⟩
  · rintro ⟨j, i, e1, e2, xs, e3, k, e4, q⟩
    refine ⟨j, i, xs, k, e1, e2, ?_, e4, q⟩
    unfold lstQ at e3
    split at e3
    · rename_i h; cases e3; exact h
    · cases e3
@[simp] theorem W_iSeqq {f : ZL.Sem A} {Q : List A → Store → Prop} : W (iSeq f) Γ μ Q ↔ W f Γ μ fun x μ1 => OQ (itemsA x) fun xs => Q xs μ1 := W_iSeq
@[simp] theorem W_compFq {vs : List Nat} {fi : ZL.Sem (List A)} {t : Tgt} {ft : ZL.Sem Bool} {fe : ZL.Sem A} {Q : A → Store → Prop} : W (comp false vs fi t ft fe) Γ μ Q ↔ W fi Γ μ fun xs μ1 => xs.length ≤ 1000000 ∧ WL (lcS t ft fe (wipeG Γ vs) xs) μ1 fun ys μ2 => OQ (allD ys) fun ds => Q (.d (.list ds)) μ2 := W_compF
end
section
variable {i j : Int} {μ : Store}
@[simp] theorem opAdd_q : opAdd (.int i) (.int j) = some (.int (i + j)) := rfl
@[simp] theorem opSub_q : opSub (.int i) (.int j) = some (.int (i - j)) := rfl
@[simp] theorem augq : opI (fun _ _ => true) (fun a b => a + b) (.int i) (.int j) = some (.int (i + j)) := rfl
theorem OQ_iff {α : Type} {o : Option α} {Q : α → Prop} {P : Prop} {z : α} (h : ∀ w, o = some w ↔ P ∧ z = w) : OQ o Q ↔ P ∧ Q z := by
  constructor
  · rintro ⟨w, e, q⟩; obtain ⟨p, rfl⟩ := (h w).mp e; exact ⟨p, q⟩
  · rintro ⟨p, q⟩; exact ⟨z, (h z).mpr ⟨p, rfl⟩, q⟩
@[simp] theorem opAddt_q {xs ys : List D} {Q : D → Prop} : OQ (opAdd (.tuple xs) (.tuple ys)) Q ↔ xs.length + ys.length ≤ 1000000 ∧ Q (.tuple (xs ++ ys)) := OQ_iff fun _ => opAdd_t
@[simp] theorem opAddl_q {xs ys : List D} {Q : D → Prop} : OQ (opAdd (.list xs) (.list ys)) Q ↔ xs.length + ys.length ≤ 1000000 ∧ Q (.list (xs ++ ys)) := OQ_iff fun _ => opAdd_l
@[simp] theorem opMul_q {Q : D → Prop} : OQ (opMul (.int i) (.int j)) Q ↔ ((-(2 ^ 64) < i ∧ i < 2 ^ 64) ∨ (-(2 ^ 64) < j ∧ j < 2 ^ 64)) ∧ Q (.int (i * j)) := OQ_iff fun _ => opMul_i
@[simp] theorem opMod_q {Q : D → Prop} : OQ (opMod (.int i) (.int j)) Q ↔ 0 < j ∧ Q (.int (i % j)) := OQ_iff fun _ => opMod_i
@[simp] theorem opDiv_q {Q : D → Prop} : OQ (opDiv (.int i) (.int j)) Q ↔ (0 < j ∧ j < 1073741824) ∧ Q (.int (i / j)) := OQ_iff fun _ => opDiv_i
@[simp] theorem opPow_q {Q : D → Prop} : OQ (opPow (.int i) (.int j)) Q ↔ (0 ≤ j ∧ j ≤ 1000000 ∧ i.natAbs < 2 ^ 64) ∧ Q (.int (i ^ j.toNat)) := OQ_iff fun _ => opPow_i
@[simp] theorem cLt_q : cLt (.int i) (.int j) = some (decide (i < j)) := rfl
@[simp] theorem cLe_q : cLe (.int i) (.int j) = some (decide (i ≤ j)) := rfl
@[simp] theorem cGt_q : cGt (.int i) (.int j) = some (decide (j < i)) := rfl
@[simp] theorem cGe_q : cGe (.int i) (.int j) = some (decide (j ≤ i)) := rfl
@[simp] theorem cEq_q : cEq (.int i) (.int j) = some (decide (i = j)) := cEq_i.mpr rfl
@[simp] theorem cNe_q : cNe (.int i) (.int j) = some (decide (i ≠ j)) := cNe_i.mpr rfl
@[simp] theorem cEqb_q {b c : Bool} : cEq (.bool b) (.bool c) = some (b == c) := cEq_b.mpr rfl
@[simp] theorem cNeb_q {b c : Bool} : cNe (.bool b) (.bool c) = some (b != c) := cNe_b.mpr rfl
@[simp] theorem ixA_tq {ds : List D} {Q : A → Prop} : OQ (ixA (.d (.tuple ds)) i μ) Q ↔ OQ (atI ds i) fun d => Q (.d d) := by
  show OQ ((atI ds i).map A.d) Q ↔ _
  rw [OQ_map]
@[simp] theorem ixA_lq {ds : List D} {Q : A → Prop} : OQ (ixA (.d (.list ds)) i μ) Q ↔ OQ (atI ds i) fun d => Q (.d d) := by
  show OQ ((atI ds i).map A.d) Q ↔ _
  rw [OQ_map]
@[simp] theorem atI_1 {α : Type} {a b : α} {r : List α} : atI (a :: b :: r) 1 = some b := by
  unfold atI ixN
  rw [if_pos (by omega), if_pos (by simp only [List.length_cons]; omega)]
  rfl
@[simp] theorem atI_2 {α : Type} {a b c : α} {r : List α} : atI (a :: b :: c :: r) 2 = some c := by
  unfold atI ixN
  rw [if_pos (by omega), if_pos (by simp only [List.length_cons]; omega)]
  rfl
end
@[simp] theorem allD_mapf {γ : Type} (f : γ → D) : ∀ xs : List γ, allD (xs.map fun x => A.d (f x)) = some (xs.map f)
  | [] => rfl
  | x :: xs => by simp [allD_mapf f xs]
@[simp] theorem boolsD_mapf {γ : Type} (f : γ → Bool) : ∀ xs : List γ, boolsD (xs.map fun x => PyData.bool (f x)) = some (xs.map f)
  | [] => rfl
  | x :: xs => by simp [boolsD, boolsD_mapf f xs]
@[simp] theorem intsD_mapf {γ : Type} (f : γ → Int) : ∀ xs : List γ, intsD (xs.map fun x => PyData.int (f x)) = some (xs.map f)
  | [] => rfl
  | x :: xs => by simp [intsD, intsD_mapf f xs]
/-! exceptions, one by one -/
section
variable {α β : Type} {Γ : Gam} {μ μ' μ2 : Store}
theorem eq_of_W {f : ZL.Sem α} {y : α} (h : W f Γ μ fun x μ' => x = y ∧ μ' = μ2) : f Γ μ = some (.ok y, μ2) := by
  obtain ⟨_, _, e, rfl, rfl⟩ := h
  exact e
theorem if_t {f : ZL.Sem Bool} {p q : SemS} (h : f Γ μ = some (.ok true, μ')) : ifS f p q Γ μ = p Γ μ' := by
  unfold ifS eS; rw [h] <;> rfl
theorem if_f {f : ZL.Sem Bool} {p q : SemS} (h : f Γ μ = some (.ok false, μ')) : ifS f p q Γ μ = q Γ μ' := by
  unfold ifS eS; rw [h] <;> rfl
theorem raise_k {n : String} {f : Str} {fe : ZL.Sem A} {z : D} (h : fe Γ μ = some (.ok (.d z), μ')) : raiseS n f fe Γ μ = some (.ex Γ n [(f, z)], μ') := by
  unfold raiseS eS; rw [h]
theorem seq_nx {f g : SemS} {Γ1 : Gam} (h : f Γ μ = some (.nx Γ1, μ')) : seq f g Γ μ = g Γ1 μ' := by
  unfold seq; rw [h]
theorem seq_ex {f g : SemS} {Γ1 : Gam} {n : String} {fs : Flds} (h : f Γ μ = some (.ex Γ1 n fs, μ')) : seq f g Γ μ = some (.ex Γ1 n fs, μ') := by
  unfold seq; rw [h]
theorem eS_exc {f : ZL.Sem α} {k : α → SemS} {n : String} {fs : Flds} (h : f Γ μ = some (.exc n fs, μ')) : eS f k Γ μ = some (.ex Γ n fs, μ') := by
  unfold eS; rw [h]
theorem sb_exc {f : ZL.Sem α} {k : α → ZL.Sem β} {n : String} {fs : Flds} (h : f Γ μ = some (.exc n fs, μ')) : sb f k Γ μ = some (.exc n fs, μ') := by
  unfold sb; rw [h]
theorem sb_ok {f : ZL.Sem α} {k : α → ZL.Sem β} {x : α} (h : f Γ μ = some (.ok x, μ')) : sb f k Γ μ = k x Γ μ' := by
  unfold sb; rw [h]
theorem fn_ex {np n : Nat} {body : SemS} {as : List A} {Γ1 : Gam} {k : String} {fs : Flds} (hl : as.length = np) (h : body (as.map some ++ List.replicate (n - np) none) μ = some (.ex Γ1 k fs, μ')) : fnS np n body as μ = some (.exc k fs, μ') := by
  unfold fnS; rw [if_pos hl, h]
theorem callP_exc {sem : SemF} {as : List A} {n : String} {fs : Flds} (hd : (allD as).isSome = true) (h : sem as [] = some (.exc n fs, μ')) : callM .P sem as Γ μ = some (.exc n fs, μ) := by
  obtain ⟨ds, e⟩ := Option.isSome_iff_exists.mp hd
  unfold callM callP; dsimp only; rw [e]; dsimp only; rw [h]
theorem VS_try {body : SemS} {hs : List Hd} {Q : Out → Store → Prop} (h : VS body Γ μ Q) : VS (tryS body hs) Γ μ Q := by
  obtain ⟨o, μ', e, n, q⟩ := h
  refine ⟨o, μ', ?_, n, q⟩
  unfold tryS
  rw [e]
  cases o with
  | ex a b c => exact absurd rfl (n _ _ _)
  | _ => rfl
theorem try_ex {body : SemS} {hs : List Hd} {Γ1 : Gam} {n : String} {fs : Flds} (h : body Γ μ = some (.ex Γ1 n fs, μ')) : tryS body hs Γ μ = handle hs n fs Γ1 μ' := by
  unfold tryS; rw [h]
end
section
variable {α β : Type} {Γ : Gam} {μ μ' μ2 : Store}
theorem eq_of_VS {g : SemS} {o : Out} (h : VS g Γ μ fun x μ' => x = o ∧ μ' = μ2) : g Γ μ = some (o, μ2) := by
  obtain ⟨_, _, e, _, rfl, rfl⟩ := h
  exact e
theorem acons_exc {fe : ZL.Sem A} {fr : ZL.Sem (List A)} {n : String} {fs : Flds} (h : fe Γ μ = some (.exc n fs, μ')) : acons fe fr Γ μ = some (.exc n fs, μ') := sb_exc h
theorem acons_ok {fe : ZL.Sem A} {fr : ZL.Sem (List A)} {x : A} {n : String} {fs : Flds} (h : fe Γ μ = some (.ok x, μ')) (h2 : fr Γ μ' = some (.exc n fs, μ2)) : acons fe fr Γ μ = some (.exc n fs, μ2) := by
  unfold acons
  rw [sb_ok h]
  exact sb_exc h2
theorem call_exc {m : Mode} {sem : SemF} {fa : ZL.Sem (List A)} {as : List A} {r : R A} (h : fa Γ μ = some (.ok as, μ')) (h2 : callM m sem as Γ μ' = some (r, μ2)) : callE m sem fa Γ μ = some (r, μ2) := by
  unfold callE
  rw [sb_ok h]
  exact h2
theorem fn_rt {np n : Nat} {body : SemS} {as : List A} {x : A} (hl : as.length = np) (h : body (as.map some ++ List.replicate (n - np) none) μ = some (.rt x, μ')) : fnS np n body as μ = some (.ok x, μ') := by
  unfold fnS; rw [if_pos hl, h]
@[simp] theorem W_exF {fs : Flds} {f : Str} {Q : A → Store → Prop} : W (exF fs f) Γ μ Q ↔ OQ (fs.lookup f) fun z => Q (.d z) μ := by
  unfold W exF
  constructor
  · rintro ⟨x, μ', e, q⟩
    split at e
    · rename_i z hz; cases e; exact ⟨_, hz, q⟩
    · cases e
  · rintro ⟨z, hz, q⟩
    exact ⟨_, _, by rw [hz], q⟩
@[simp] theorem W_exI {kn : List String} {sub : String → String → Bool} {n : String} {Ts : List String} {Q : A → Store → Prop} : W (exI kn sub n Ts) Γ μ Q ↔ (kn.contains n && Ts.all (kn.contains ·)) = true ∧ Q (.d (.bool (Ts.any (sub n)))) μ := by
  unfold W exI
  constructor
  · rintro ⟨x, μ', e, q⟩
    split at e
    · rename_i hz; cases e; exact ⟨hz, q⟩
    · cases e
  · rintro ⟨hz, q⟩
    exact ⟨_, _, by rw [if_pos hz], q⟩
theorem VS_gd {b : Bool} {g : SemS} {Q : Out → Store → Prop} (hb : b = true) : VS (gdS b g) Γ μ Q ↔ VS g Γ μ Q := by
  subst hb; rfl
end
section
variable {Γ : Gam} {μ μ' : Store} {h : Hd} {r : List Hd} {n : String} {fs : Flds} {x : A}
theorem handle_named {i : Nat} (h1 : h.mt n = some true) (h2 : h.slot = some i) (h3 : i < Γ.length) (h4 : h.su n fs (Γ.set i (some .exn)) μ = some (.rt x, μ')) : handle (h :: r) n fs Γ μ = some (.rt x, μ') := by
  unfold handle
  rw [h1]
  dsimp only
  rw [h2]
  dsimp only
  rw [if_pos h3, h4] <;> rfl
theorem handle_plain (h1 : h.mt n = some true) (h2 : h.slot = none) (h4 : h.su n fs Γ μ = some (.rt x, μ')) : handle (h :: r) n fs Γ μ = some (.rt x, μ') := by
  unfold handle
  rw [h1]
  dsimp only
  rw [h2]
  dsimp only
  rw [h4] <;> rfl
theorem handle_skip (h1 : h.mt n = some false) : handle (h :: r) n fs Γ μ = handle r n fs Γ μ := by
  rw [handle, h1]
theorem gd_t {b : Bool} {g : SemS} (hb : b = true) : gdS b g = g := by subst hb; rfl
end
section
variable {j : Nat} {xs : List A} {y z : A} {μ : Store} {i : Int} {Q : A × Cell → Prop}
@[simp] theorem kApp_q : OQ (kApp j xs y μ) Q ↔ xs.length < 1000000 ∧ Q (.d .none, .lst (xs ++ [y])) := by
  unfold kApp
  by_cases h : xs.length < 1000000 <;> simp [h]
@[simp] theorem kIns_q : OQ (kIns j xs (.d (.int i)) z μ) Q ↔ (xs.length < 1000000 ∧ 0 ≤ i ∧ i < 1000000000) ∧ Q (.d .none, .lst (xs.take i.toNat ++ [z] ++ xs.drop i.toNat)) := by
  unfold kIns
  by_cases h1 : xs.length < 1000000 <;> by_cases h2 : 0 ≤ i <;> by_cases h3 : i < 1000000000 <;> simp [h1, h2, h3]
theorem kPopAt_ge (h0 : 0 ≤ i) (h : i < xs.length) (hl : xs.length ≤ 1000000) (hz : xs[i.toNat]? = some z) : OQ (kPopAt j xs (.d (.int i)) μ) Q ↔ Q (z, .lst (xs.eraseIdx i.toNat)) := by
  unfold kPopAt
  dsimp only
  rw [ixN_ge h0 h]
  dsimp only
  rw [hz]
  dsimp only
  rw [if_pos (by simp only [Bool.and_eq_true, decide_eq_true_eq]; omega)]
  simp
end
section
variable {fo fa fb : ZL.Sem A} {x : A} {Γ : Gam} {d : D}
@[simp] theorem appE_eq : appE fo fa = mt1 kApp fo fa := rfl
@[simp] theorem popE_eq : popE fo = mt0 kPop0 fo := rfl
@[simp] theorem popAtE_eq : popAtE fo fa = mt1 kPopAt fo fa := rfl
@[simp] theorem insE_eq : insE fo fa fb = mt2 kIns fo fa fb := rfl
@[simp] theorem extE_eq : extE fo fa = mt1 kExt fo fa := rfl
@[simp] theorem tN_eq {i : Nat} : tN i x Γ = some (Γ.set i (some x)) := rfl
@[simp] theorem wipeG0 : wipeG Γ [] = Γ := rfl
@[simp] theorem wipeG1 {i : Nat} {is : List Nat} : wipeG Γ (i :: is) = (wipeG Γ is).set i none := rfl
@[simp] theorem items_l {ds : List D} : itemsA (.d (.list ds)) = some (ds.map .d) := rfl
@[simp] theorem items_t {ds : List D} : itemsA (.d (.tuple ds)) = some (ds.map .d) := rfl
@[simp] theorem tyD_n : tyD .none = "NoneType" := rfl
@[simp] theorem tyD_b {b : Bool} : tyD (.bool b) = "bool" := rfl
@[simp] theorem tyD_i {b : Int} : tyD (.int b) = "int" := rfl
@[simp] theorem tyD_s {b : Str} : tyD (.str b) = "str" := rfl
@[simp] theorem tyD_l {b : List D} : tyD (.list b) = "list" := rfl
@[simp] theorem tyD_t {b : List D} : tyD (.tuple b) = "tuple" := rfl
@[simp] theorem tyD_d {b : List (D × D)} : tyD (.dict b) = "dict" := rfl
@[simp] theorem isTy_eq {t T : String} : isTy t T = (t == T || (t == "bool" && T == "int")) := rfl
end
end ZL

/-! Layer Z, part Q: reckoning: the cells. -/
namespace ZL
open PySem PySem.Spec PyProof.Rows L2
def iA (ns : List Int) : Cell := .lst (ns.map fun n => A.d (.int n))
def dA (ds : List D) : Cell := .lst (ds.map A.d)
section
variable {μ : Store} {j : Nat} {i : Int} {ns : List Int} {ds : List D}
@[simp] theorem lstQ_i : lstQ (some (iA ns)) = some (ns.map fun n => A.d (.int n)) := rfl
@[simp] theorem lstQ_d : lstQ (some (dA ds)) = some (ds.map A.d) := rfl
@[simp] theorem isL_q : isL μ (.ref j) = (lstQ μ[j]?).map fun xs => (j, xs) := by
  unfold isL lstQ
  dsimp only
  cases μ[j]? with
  | none => rfl
  | some c => cases c <;> rfl
@[simp] theorem ixA_q {Q : A → Prop} : OQ (ixA (.ref j) i μ) Q ↔ OQ (lstQ μ[j]?) fun xs => OQ (atI xs i) Q := by
  unfold ixA lstQ
  dsimp only
  cases μ[j]? with
  | none => simp
  | some c => cases c <;> simp
@[simp] theorem lenK_q {Q : Int → Prop} : OQ (lenK (.ref j) μ) Q ↔ OQ (lstQ μ[j]?) fun xs => Q xs.length := by
  unfold lenK lstQ
  dsimp only
  cases μ[j]? with
  | none => simp
  | some c => cases c <;> simp
@[simp] theorem rd_q {Q : D → Prop} : OQ (rd μ (.ref j)) Q ↔ OQ (lstQ μ[j]?) fun xs => OQ (allD xs) fun ds => Q (.list ds) := by
  unfold rd lstQ
  dsimp only
  cases μ[j]? with
  | none => simp
  | some c => cases c <;> simp [OQ_map]
@[simp] theorem OQ_mapq {α β : Type} {o : Option α} {f : α → β} {Q : β → Prop} : OQ (o.map f) Q ↔ OQ o fun x => Q (f x) := OQ_map
def intQ : A → Option Int
  | .d (.int i) => some i
  | .d (.bool b) => some (if b then 1 else 0)
  | _ => none
@[simp] theorem intQ_i : intQ (.d (.int i)) = some i := rfl
@[simp] theorem intQ_b {b : Bool} : intQ (.d (.bool b)) = some (if b then 1 else 0) := rfl
@[simp] theorem W_intEq {Γ : Gam} {fa : ZL.Sem A} {Q : A → Store → Prop} : W (intE fa) Γ μ Q ↔ W fa Γ μ fun x μ1 => OQ (intQ x) fun i => Q (.d (.int i)) μ1 := by
  rw [W_intE]
  refine W_congr fun x μ1 => ?_
  constructor
  · rintro ⟨i, rfl | ⟨b, rfl, rfl⟩, q⟩
    · exact ⟨i, rfl, q⟩
    · exact ⟨_, rfl, q⟩
  · rintro ⟨i, e, q⟩
    unfold intQ at e
    split at e
    · cases e; exact ⟨_, .inl rfl, q⟩
    · cases e; exact ⟨_, .inr ⟨_, rfl, rfl⟩, q⟩
    · cases e
def seqQ : D → Option (List D)
  | .list ds => some ds
  | .tuple ds => some ds
  | _ => none
@[simp] theorem seqQ_l {ds : List D} : seqQ (.list ds) = some ds := rfl
@[simp] theorem seqQ_t {ds : List D} : seqQ (.tuple ds) = some ds := rfl
theorem seqQ_ex {o : Option D} {P : List D → Prop} : (∃ ds, (o = some (.list ds) ∨ o = some (.tuple ds)) ∧ P ds) ↔ OQ o fun z => OQ (seqQ z) P := by
  constructor
  · rintro ⟨ds, e | e, p⟩
    · exact ⟨_, e, ds, rfl, p⟩
    · exact ⟨_, e, ds, rfl, p⟩
  · rintro ⟨z, e, ds, e', p⟩
    cases z <;> simp [seqQ] at e'
    · subst e'; exact ⟨_, .inl e, p⟩
    · subst e'; exact ⟨_, .inr e, p⟩
@[simp] theorem W_tupOfq {Γ : Gam} {fa : ZL.Sem A} {Q : A → Store → Prop} : W (tupOf fa) Γ μ Q ↔ W fa Γ μ fun x μ1 => OQ (rd μ1 x) fun z => OQ (seqQ z) fun ds => Q (.d (.tuple ds)) μ1 := by
  rw [W_tupOf]
  exact W_congr fun x μ1 => seqQ_ex
@[simp] theorem W_lstOfFq {Γ : Gam} {fa : ZL.Sem A} {Q : A → Store → Prop} : W (lstOf false fa) Γ μ Q ↔ W fa Γ μ fun x μ1 => OQ (rd μ1 x) fun z => OQ (seqQ z) fun ds => Q (.d (.list ds)) μ1 := by
  rw [W_lstOfF]
  exact W_congr fun x μ1 => seqQ_ex
@[simp] theorem W_lstOfTq {Γ : Gam} {fa : ZL.Sem A} {Q : A → Store → Prop} : W (lstOf true fa) Γ μ Q ↔ W fa Γ μ fun x μ1 => OQ (rd μ1 x) fun z => OQ (seqQ z) fun ds => Q (.ref μ1.length) (μ1 ++ [.lst (ds.map .d)]) := by
  rw [W_lstOfT]
  exact W_congr fun x μ1 => seqQ_ex
@[simp] theorem filtT {α : Type} (l : List α) : l.filter (fun _ => true) = l := List.filter_eq_self.mpr (by simp)
@[simp] theorem filtF {α : Type} (l : List α) : l.filter (fun _ => false) = [] := by simp
@[simp] theorem tru_r {Q : Bool → Prop} : OQ (tru μ (.ref j)) Q ↔ OQ (lstQ μ[j]?) fun xs => OQ (allD xs) fun ds => Q (!ds.isEmpty) := by
  unfold tru rd lstQ
  dsimp only
  cases μ[j]? with
  | none => simp
  | some c =>
    cases c with
    | lst xs => cases e : allD xs <;> simp [truD, e]
    | _ => simp
@[simp] theorem all_bl_i {n : Nat} : blC n (iA ns) = true := by
  simp [blC, iA, blA]
@[simp] theorem all_bl_d {n : Nat} : blC n (dA ds) = true := by
  simp [blC, dA, blA]
@[simp] theorem bl_dead {n : Nat} : blC n .dead = true := rfl
@[simp] theorem bl_lst {n : Nat} {xs : List A} : blC n (.lst xs) = xs.all (blA n) := rfl
@[simp] theorem blA_d {n : Nat} {x : D} : blA n (.d x) = true := rfl
@[simp] theorem blA_r {n k : Nat} : blA n (.ref k) = decide (k < n) := rfl
end
end ZL

/-! Layer Z, part T: reckoning: further rules (calls that keep the store's length, bundles, loops as folds, exact values). -/
namespace ZL
open PySem PySem.Spec PyProof.Rows L2
section
variable {Γ : Gam} {μ : Store}
theorem W_callL_same {sem : SemF} {as : List A} {Q : A → Store → Prop} (h : WQ sem as μ fun x μ' => μ'.length = μ.length ∧ Q x μ') : W (callM .L sem as) Γ μ Q := by
  obtain ⟨x, μ', e, hl, q⟩ := h
  refine ⟨x, μ', ?_, q⟩
  simp only [callM, callL, e]
  split
  · rw [← hl, List.take_length]
  · rfl
/-- .. with cells made that nothing holds: they are dropped -/
theorem W_callL_cut {sem : SemF} {as : List A} {Q : A → Store → Prop} (h : WQ sem as μ fun x μ' => ∃ d μ1 ex, x = .d d ∧ μ' = μ1 ++ ex ∧ μ1.length = μ.length ∧ μ1.all (blC μ.length) = true ∧ Q (.d d) μ1) : W (callM .L sem as) Γ μ Q := by
  obtain ⟨x, μ', e, d, μ1, ex, rfl, rfl, hl, hb, q⟩ := h
  refine ⟨.d d, μ1, ?_, q⟩
  have ht : (μ1 ++ ex).take μ.length = μ1 := by rw [← hl, List.take_left']; rfl
  simp only [callM, callL, e, ht, hb, blA, Bool.and_self, if_true]
theorem W_callB_eq {sem : SemF} {as : List A} {ds : List D} {d : D} {μ' : Store} {Q : A → Store → Prop} (h : sem (ds.map .d) [] = some (.ok (.d d), μ')) (hf : flatD d = true) (hd : rds μ as = some ds) : W (callM .B sem as) Γ μ Q ↔ Q (.d d) μ := by
  have e : callM .B sem as Γ μ = some (.ok (.d d), μ) := by simp only [callM, callB, hd, h, hf, if_true]
  exact W_some e
/-- from a look at the end to the value -/
theorem eq_of_WQ {s : SemF} {as : List A} {x : A} {Q : A → Store → Prop} (h : WQ s as μ Q) (m : ∀ y μ', Q y μ' → y = x ∧ μ' = μ) : s as μ = some (.ok x, μ) := by
  obtain ⟨y, μ', e, q⟩ := h
  obtain ⟨rfl, rfl⟩ := m _ _ q
  exact e
theorem eq_of {s : SemF} {as : List A} {x : A} (h : WQ s as μ fun y μ' => y = x ∧ μ' = μ) : s as μ = some (.ok x, μ) := eq_of_WQ h fun _ _ h => h
/-- .. cells that were made do not matter -/
def Gives (s : SemF) (as : List A) (d : D) : Prop := ∃ μ', s as [] = some (.ok (.d d), μ')
theorem gives_of {s : SemF} {as : List A} {d : D} (h : WQ s as [] fun y _ => y = .d d) : Gives s as d := by
  obtain ⟨y, μ', e, rfl⟩ := h
  exact ⟨μ', e⟩
theorem W_gives {sem : SemF} {as : List A} {d : D} {Q : A → Store → Prop} (h : Gives sem as d) (hd : (allD as).isSome = true) : W (callM .P sem as) Γ μ Q ↔ Q (.d d) μ := by
  obtain ⟨μ', h⟩ := h
  exact W_callP_eq h hd
theorem W_givesB {sem : SemF} {as as' : List A} {d : D} {Q : A → Store → Prop} (h : Gives sem as' d) (hf : flatD d = true) (hd : (rds μ as).map (List.map A.d) = some as') : W (callM .B sem as) Γ μ Q ↔ Q (.d d) μ := by
  obtain ⟨μ', h⟩ := h
  obtain ⟨ds, e, rfl⟩ := Option.map_eq_some_iff.mp hd
  exact W_callB_eq h hf e
/-- an exception comes out -/
def Throws (s : SemF) (as : List A) (n : String) (fs : Flds) : Prop := ∃ μ', s as [] = some (.exc n fs, μ')
theorem callP_throws {sem : SemF} {as : List A} {n : String} {fs : Flds} (hd : (allD as).isSome = true) (h : Throws sem as n fs) : callM .P sem as Γ μ = some (.exc n fs, μ) := by
  obtain ⟨μ', h⟩ := h
  exact callP_exc hd h
/-- a loop as a fold -/
theorem for_fold {σ γ : Type} {t : Tgt} {b : SemS} {Q : Out → Store → Prop} (R : σ → Gam → Store → Prop) (step : σ → γ → σ) (emb : γ → A) (xs : List γ) (s0 : σ) (h0 : R s0 Γ μ)
    (hs : ∀ pre x post Γ μ, xs = pre ++ x :: post → R (pre.foldl step s0) Γ μ → ∃ Γ1, t (emb x) Γ = some Γ1 ∧ VS b Γ1 μ (loop1 (R (step (pre.foldl step s0) x)) Q))
    (he : ∀ Γ μ, R (xs.foldl step s0) Γ μ → Q (.nx Γ) μ) : VS (forS (xs.map emb) t b) Γ μ Q := by
  refine for_ind (fun rest Γ μ => ∃ pre post, xs = pre ++ post ∧ rest = post.map emb ∧ R (pre.foldl step s0) Γ μ) ?_ ?_ _ _ _ ⟨[], xs, rfl, rfl, h0⟩
  · rintro x rest Γ μ ⟨pre, post, e, er, h⟩
    cases post with
    | nil => cases er
    | cons y post =>
      simp only [List.map_cons, List.cons.injEq] at er
      obtain ⟨rfl, rfl⟩ := er
      obtain ⟨Γ1, e1, h1⟩ := hs pre y post Γ μ e h
      refine ⟨Γ1, e1, h1.mono fun o μ' q => ?_⟩
      cases o with
      | nx Γ2 => exact ⟨pre ++ [y], post, by rw [e]; simp, rfl, by rw [List.foldl_append]; exact q⟩
      | ct Γ2 => exact ⟨pre ++ [y], post, by rw [e]; simp, rfl, by rw [List.foldl_append]; exact q⟩
      | bk Γ2 => exact q
      | rt z => exact q
      | ex _ _ _ => exact q
  · rintro Γ μ ⟨pre, post, e, er, h⟩
    have : post = [] := by cases post with | nil => rfl | cons _ _ => cases er
    subst this
    rw [List.append_nil] at e
    subst e
    exact he Γ μ h
/-- a walk over a range by the turn's number -/
theorem for_rng {t : Tgt} {b : SemS} {Q : Out → Store → Prop} {lo : Int} {n : Nat} (R : Nat → Gam → Store → Prop) (h0 : R 0 Γ μ)
    (hs : ∀ k Γ μ, k < n → R k Γ μ → ∃ Γ1, t (.d (.int (lo + (k : Nat)))) Γ = some Γ1 ∧ VS b Γ1 μ (loop1 (R (k + 1)) Q))
    (he : ∀ Γ μ, R n Γ μ → Q (.nx Γ) μ) : VS (forS (rng lo n) t b) Γ μ Q := by
  refine for_idx (n := n) rng_len R h0 ?_ he
  intro i x Γ μ hi hx h
  obtain ⟨_, rfl⟩ := rng_get.mp hx
  exact hs i Γ μ hi h
theorem for_rngN {t : Tgt} {b : SemS} {Q : Out → Store → Prop} {lo : Int} {m : Nat} (n : Nat) (hn : m = n) (R : Nat → Gam → Store → Prop) (h0 : R 0 Γ μ)
    (hs : ∀ k Γ μ, k < n → R k Γ μ → ∃ Γ1, t (.d (.int (lo + (k : Nat)))) Γ = some Γ1 ∧ VS b Γ1 μ (loop1 (R (k + 1)) Q))
    (he : ∀ Γ μ, R n Γ μ → Q (.nx Γ) μ) : VS (forS (rng lo m) t b) Γ μ Q := by
  subst hn
  exact for_rng R h0 hs he
/-- .. over data -/
theorem for_list {t : Tgt} {b : SemS} {Q : Out → Store → Prop} {γ : Type} {emb : γ → A} {xs : List γ} (R : Nat → Gam → Store → Prop) (h0 : R 0 Γ μ)
    (hs : ∀ k (h : k < xs.length) Γ μ, R k Γ μ → ∃ Γ1, t (emb xs[k]) Γ = some Γ1 ∧ VS b Γ1 μ (loop1 (R (k + 1)) Q))
    (he : ∀ Γ μ, R xs.length Γ μ → Q (.nx Γ) μ) : VS (forS (xs.map emb) t b) Γ μ Q := by
  refine for_idx (n := xs.length) (by simp) R h0 ?_ he
  intro i x Γ μ hi hx h
  rw [List.getElem?_map, List.getElem?_eq_getElem hi] at hx
  cases hx
  exact hs i hi Γ μ h
theorem rd_iA {j : Nat} {ns : List Int} (h : μ[j]? = some (iA ns)) : rd μ (.ref j) = some (.list (ns.map .int)) := by
  have e : (ns.map fun n => A.d (.int n)) = (ns.map PyData.int).map A.d := by rw [List.map_map]; rfl
  refine rd_r ?_
  rw [h, iA, e]
theorem rd_dA {j : Nat} {ds : List D} (h : μ[j]? = some (dA ds)) : rd μ (.ref j) = some (.list ds) := rd_r h
end
/-- what is frozen, looked at -/
def frzQ (i : Nat) (g : SemS) (Γ : Gam) (μ : Store) (Q : Out → Store → Prop) : A → Prop
  | .d _ => VS g Γ μ Q
  | .ref j => OQ (lstQ μ[j]?) fun xs => OQ (allD xs) fun ds => VS g (Γ.set i (some (.d (.list ds)))) (μ.set j .dead) Q
  | .exn => False
section
variable {i j : Nat} {g : SemS} {Γ : Gam} {μ : Store} {Q : Out → Store → Prop} {x : D}
@[simp] theorem frzQ_d : frzQ i g Γ μ Q (.d x) = VS g Γ μ Q := rfl
@[simp] theorem frzQ_r : frzQ i g Γ μ Q (.ref j) = OQ (lstQ μ[j]?) fun xs => OQ (allD xs) fun ds => VS g (Γ.set i (some (.d (.list ds)))) (μ.set j .dead) Q := rfl
@[simp high] theorem VS_frzq : VS (frz i g) Γ μ Q ↔ OQ Γ[i]? fun o => OQ o fun x => frzQ i g Γ μ Q x := by
  rw [VS_frz]
  constructor
  · rintro ⟨x, hx, ⟨d, rfl, h⟩ | ⟨j, xs, ds, rfl, ex, ed, h⟩⟩
    · exact ⟨_, hx, _, rfl, h⟩
    · exact ⟨_, hx, _, rfl, xs, by rw [ex]; rfl, ds, ed, h⟩
  · rintro ⟨o, ho, x, rfl, h⟩
    cases x with
    | d d => exact ⟨_, ho, .inl ⟨d, rfl, h⟩⟩
    | ref j =>
      obtain ⟨xs, ex, ds, ed, h⟩ := h
      refine ⟨_, ho, .inr ⟨j, xs, ds, rfl, ?_, ed, h⟩⟩
      cases q : μ[j]? with
      | none => rw [q] at ex; cases ex
      | some c => rw [q] at ex; cases c <;> cases ex; rfl
    | exn => exact h.elim
end
section
variable {μ : Store}
@[simp] theorem rds_nil : rds μ [] = some [] := rfl
theorem rds_cons {x : A} {xs : List A} {d : D} {ds : List D} (h : rd μ x = some d) (h2 : rds μ xs = some ds) : rds μ (x :: xs) = some (d :: ds) := by simp only [rds, h, h2]
@[simp] theorem rds_d {d : D} {xs : List A} : rds μ (.d d :: xs) = (rds μ xs).map (d :: ·) := by
  simp only [rds, rd_d]
  cases rds μ xs <;> rfl
theorem atI_map' {α β : Type} {f : α → β} {xs : List α} {i : Int} : atI (xs.map f) i = (atI xs i).map f := by
  unfold atI
  rw [List.length_map]
  cases ixN xs.length i <;> simp
@[simp] theorem atI_mapq {α β : Type} {f : α → β} {xs : List α} {i : Int} {Q : β → Prop} : OQ (atI (xs.map f) i) Q ↔ OQ (atI xs i) fun x => Q (f x) := by rw [atI_map', OQ_map]
theorem atI_get {α : Type} [Inhabited α] {xs : List α} {i : Int} {Q : α → Prop} (h0 : 0 ≤ i) (h : i < xs.length) : OQ (atI xs i) Q ↔ Q (xs.getD i.toNat default) := by
  have hn : i.toNat < xs.length := by omega
  rw [atI_ge h0 h, List.getElem?_eq_getElem hn, OQ_some, List.getD_eq_getElem?_getD, List.getElem?_eq_getElem hn]
  rfl
theorem OQ_mem {α : Type} {xs : List α} {i : Int} {Q : α → Prop} (h0 : 0 ≤ i) (h : i < xs.length) (q : ∀ d ∈ xs, Q d) : OQ (atI xs i) Q := by
  have hn : i.toNat < xs.length := by omega
  rw [atI_ge h0 h, List.getElem?_eq_getElem hn, OQ_some]
  exact q _ (List.getElem_mem hn)
theorem atI_gen {α : Type} {xs : List α} {i : Int} {n : Nat} {z : α} {Q : α → Prop} (e : i = n) (h : xs[n]? = some z) : OQ (atI xs i) Q ↔ Q z := by
  subst e
  have hn := (List.getElem?_eq_some_iff.mp h).1
  rw [atI_ge (by omega) (by omega), Int.toNat_natCast, h, OQ_some]
end
end ZL

/-! Layer Z, part U: what many laws share: the hand, its draws, told, between. -/
namespace ZL.Hand
open PySem PySem.Spec PyProof.Rows L2
def b_hand : SemS :=
 retS (lstE true (acons (lstOf false (var 0)) (acons (con (.int 0)) (acons (con (.int 0)) (acons (con (.int 88172645463325252)) (anil))))))
def sem_hand : SemF := fnS 1 1 b_hand
def b_draw : SemS :=
 seq (ifS (cmp cGt (ix (var 0) (con (.int 2))) (con (.int 0)))
 (seq (asg (bin opMod (intE (ix (var 0) (con (.int 2)))) (var 1)) (tN 2))
 (seq (setIx (bin opDiv (intE (ix (var 0) (con (.int 2)))) (var 1)) (var 0) (con (.int 2)))
 (retS (var 2))))
 (nextS))
 (seq (asg (bin opAdd (bin opMul (con (.int 40503)) (ix (var 0) (con (.int 1)))) (con (.int 11))) (tN 3))
 (seq (ifS (cmp cLt (ix (var 0) (con (.int 1))) (lenE (ix (var 0) (con (.int 0)))))
 (asg (ix (ix (var 0) (con (.int 0))) (ix (var 0) (con (.int 1)))) (tN 3))
 (nextS))
 (seq (setIx (bin opAdd (ix (var 0) (con (.int 1))) (con (.int 1))) (var 0) (con (.int 1)))
 (seq (asg (bin opMod (intE (bin opAdd (ix (var 0) (con (.int 3))) (var 3))) (con (.int 2305843009213693951))) (tN 4))
 (seq (asg (bin opMod (intE (bin opAdd (bin opMul (var 4) (var 4)) (con (.int 69621)))) (con (.int 2305843009213693951))) (tN 4))
 (seq (asg (bin opMod (intE (bin opAdd (bin opMul (var 4) (var 4)) (con (.int 40503)))) (con (.int 2305843009213693951))) (tN 4))
 (seq (setIx (var 4) (var 0) (con (.int 3)))
 (seq (ifS (cmp cGe (var 3) (bin opPow (con (.int 10)) (con (.int 18))))
 (seq (setIx (bin opDiv (intE (var 3)) (var 1)) (var 0) (con (.int 2)))
 (retS (bin opMod (intE (var 3)) (var 1))))
 (nextS))
 (retS (bin opMod (bin opDiv (var 4) (con (.int 65536))) (var 1)))))))))))
def sem_draw : SemF := fnS 2 5 b_draw
/-- the hand's cell -/
def HG (c : Cell) : Prop := ∃ (ns : List Int) (i left seed : Int), c = .lst [.d (.list (ns.map .int)), .d (.int i), .d (.int left), .d (.int seed)] ∧ 0 ≤ i
theorem HG.bl {c : Cell} (h : HG c) (n : Nat) : blC n c = true := by
  obtain ⟨ns, i, l, s, rfl, _⟩ := h
  simp [blC, blA]
theorem ixN4 : ixN 4 0 = some 0 ∧ ixN 4 1 = some 1 ∧ ixN 4 2 = some 2 ∧ ixN 4 3 = some 3 := by decide
@[simp] theorem atI_3 {α : Type} {a b c d : α} {r : List α} : atI (a :: b :: c :: d :: r) 3 = some d := by
  unfold atI ixN
  rw [if_pos (by omega), if_pos (by simp only [List.length_cons]; omega)]
  rfl
theorem hand_eq (ns : List Int) : sem_hand [.d (.list (ns.map .int))] [] = some (.ok (.ref 0), [.lst [.d (.list (ns.map .int)), .d (.int 0), .d (.int 0), .d (.int 88172645463325252)]]) := by
  have : WQ sem_hand [.d (.list (ns.map .int))] [] fun x μ' => x = .ref 0 ∧ μ' = [.lst [.d (.list (ns.map .int)), .d (.int 0), .d (.int 0), .d (.int 88172645463325252)]] := by
    unfold sem_hand b_hand
    simp [W_lstOfF]
  obtain ⟨x, μ', e, rfl, rfl⟩ := this
  exact e
def t_draw : SemS := (seq (setIx (bin opAdd (ix (var 0) (con (.int 1))) (con (.int 1))) (var 0) (con (.int 1)))
 (seq (asg (bin opMod (intE (bin opAdd (ix (var 0) (con (.int 3))) (var 3))) (con (.int 2305843009213693951))) (tN 4))
 (seq (asg (bin opMod (intE (bin opAdd (bin opMul (var 4) (var 4)) (con (.int 69621)))) (con (.int 2305843009213693951))) (tN 4))
 (seq (asg (bin opMod (intE (bin opAdd (bin opMul (var 4) (var 4)) (con (.int 40503)))) (con (.int 2305843009213693951))) (tN 4))
 (seq (setIx (var 4) (var 0) (con (.int 3)))
 (seq (ifS (cmp cGe (var 3) (bin opPow (con (.int 10)) (con (.int 18))))
 (seq (setIx (bin opDiv (intE (var 3)) (var 1)) (var 0) (con (.int 2)))
 (retS (bin opMod (intE (var 3)) (var 1))))
 (nextS))
 (retS (bin opMod (bin opDiv (var 4) (con (.int 65536))) (var 1)))))))))
theorem t_draw_ok {ns : List Int} {i left seed g many : Int} {w2 w4 : Option A} {rest : Store} {Q : Out → Store → Prop} (hi : 0 ≤ i) (h1 : 0 < many) (h2 : many < 1073741824) (q : ∀ r c', 0 ≤ r → r < many → HG c' → Q (.rt (.d (.int r))) (c' :: rest)) :
    VS t_draw [some (.ref 0), some (.d (.int many)), w2, some (.d (.int g)), w4] (.lst [.d (.list (ns.map .int)), .d (.int i), .d (.int left), .d (.int seed)] :: rest) Q := by
  unfold t_draw
  have m0 : ∀ i : Int, 0 ≤ i % 2305843009213693951 ∧ i % 2305843009213693951 < 2305843009213693951 := fun i => by omega
  have md : ∀ x : Int, 0 ≤ x % many ∧ x % many < many := fun x => ⟨Int.emod_nonneg _ (by omega), Int.emod_lt_of_pos _ h1⟩
  simp [ixN4]
  have a := m0 (seed + g)
  generalize (seed + g) % 2305843009213693951 = t at a ⊢
  have b := m0 (t * t + 69621)
  generalize (t * t + 69621) % 2305843009213693951 = u at b ⊢
  have c := m0 (u * u + 40503)
  generalize (u * u + 40503) % 2305843009213693951 = v at c ⊢
  refine ⟨by omega, by omega, fun _ => ⟨⟨h1, h2⟩, h1, q _ _ (md _).1 (md _).2 ⟨ns, i + 1, _, v, rfl, by omega⟩⟩, fun _ => ⟨h1, q _ _ (md _).1 (md _).2 ⟨ns, i + 1, _, v, rfl, by omega⟩⟩⟩
theorem b_draw_eq : b_draw = seq (ifS (cmp cGt (ix (var 0) (con (.int 2))) (con (.int 0)))
 (seq (asg (bin opMod (intE (ix (var 0) (con (.int 2)))) (var 1)) (tN 2))
 (seq (setIx (bin opDiv (intE (ix (var 0) (con (.int 2)))) (var 1)) (var 0) (con (.int 2)))
 (retS (var 2))))
 (nextS))
 (seq (asg (bin opAdd (bin opMul (con (.int 40503)) (ix (var 0) (con (.int 1)))) (con (.int 11))) (tN 3))
 (seq (ifS (cmp cLt (ix (var 0) (con (.int 1))) (lenE (ix (var 0) (con (.int 0)))))
 (asg (ix (ix (var 0) (con (.int 0))) (ix (var 0) (con (.int 1)))) (tN 3))
 (nextS)) t_draw)) := rfl
theorem draw_WQ {c : Cell} {rest : Store} {many : Int} {Q : A → Store → Prop} (hp : HG c) (h1 : 0 < many) (h2 : many < 1073741824)
    (q : ∀ r c', 0 ≤ r → r < many → HG c' → Q (.d (.int r)) (c' :: rest)) : WQ sem_draw [.ref 0, .d (.int many)] (c :: rest) Q := by
  obtain ⟨ns, i, left, seed, rfl, hi⟩ := hp
  unfold sem_draw
  rw [b_draw_eq]
  have md : ∀ x : Int, 0 ≤ x % many ∧ x % many < many := fun x => ⟨Int.emod_nonneg _ (by omega), Int.emod_lt_of_pos _ h1⟩
  simp [ixN4]
  refine ⟨fun hl => ⟨h1, ⟨h1, h2⟩, q _ _ (md _).1 (md _).2 ⟨ns, i, _, seed, rfl, hi⟩⟩, fun hl => ⟨fun hlt => ?_, fun hge => ?_⟩⟩
  · have hin : i.toNat < ns.length := by omega
    rw [atI_ge hi hlt, List.getElem?_eq_getElem hin]
    simp
    exact t_draw_ok hi h1 h2 fun r c' a b h => by simpa using q r c' a b h
  · exact t_draw_ok hi h1 h2 fun r c' a b h => by simpa using q r c' a b h
theorem draw_L {c : Cell} {rest : Store} {many : Int} {Γ : Gam} {Q : A → Store → Prop} (hp : HG c) (h1 : 0 < many) (h2 : many < 1073741824)
    (q : ∀ r c', 0 ≤ r → r < many → HG c' → Q (.d (.int r)) (c' :: rest)) : W (callM .L sem_draw [.ref 0, .d (.int many)]) Γ (c :: rest) Q :=
  W_callL_same (draw_WQ hp h1 h2 fun r c' h3 h4 hp' => ⟨rfl, q r c' h3 h4 hp'⟩)
/-! told -/
def b_told : SemS :=
 retS (andV (isE ["int"] (var 0)) (andV (notV (isE ["bool"] (var 0))) (bv (cmp cEq (var 0) (var 1)))))
def sem_told : SemF := fnS 2 2 b_told
theorem told_eq (i j : Int) : sem_told [.d (.int i), .d (.int j)] [] = some (.ok (.d (.bool (decide (i = j)))), []) := by
  refine eq_of ?_
  unfold sem_told b_told
  simp
theorem told_W {i j : Int} {Γ : Gam} {μ : Store} {Q : A → Store → Prop} : W (callM .P sem_told [.d (.int i), .d (.int j)]) Γ μ Q ↔ Q (.d (.bool (decide (i = j)))) μ := W_callP_eq (told_eq i j) (by simp)
/-! a number between -/
def isInt : D → Bool
  | .int _ => true
  | _ => false
def b_between : SemS :=
 retS (andV (isE ["int"] (var 0)) (andV (notV (isE ["bool"] (var 0))) (bv (chn cLe cLe (var 1) (var 0) (var 2)))))
def sem_between : SemF := fnS 3 3 b_between
def btw (v : D) (lo hi : Int) : Bool := match v with | .int i => decide (lo ≤ i) && decide (i ≤ hi) | _ => false
theorem between_eq (v : D) (lo hi : Int) : sem_between [.d v, .d (.int lo), .d (.int hi)] [] = some (.ok (.d (.bool (btw v lo hi))), []) := by
  refine eq_of ?_
  unfold sem_between b_between
  cases v <;> simp [btw]
  omega
theorem between_W {v : D} {lo hi : Int} {Γ : Gam} {μ : Store} {Q : A → Store → Prop} : W (callM .P sem_between [.d v, .d (.int lo), .d (.int hi)]) Γ μ Q ↔ Q (.d (.bool (btw v lo hi))) μ := W_callP_eq (between_eq v lo hi) (by simp)
def b_check (sb : SemF) : SemS :=
 ifS (notT (truE (callE .P sb (acons (var 0) (acons (var 1) (acons (var 2) (anil)))))))
 (raiseS "InvalidNumber" "number" (var 0))
 (nextS)
def sem_check : SemF := fnS 3 3 (b_check sem_between)
theorem check_ok {v : D} {lo hi : Int} (h : btw v lo hi = true) : sem_check [.d v, .d (.int lo), .d (.int hi)] [] = some (.ok (.d .none), []) := by
  refine eq_of ?_
  unfold sem_check b_check
  simp [between_W, h]
theorem check_bad {v : D} {lo hi : Int} (h : btw v lo hi = false) : sem_check [.d v, .d (.int lo), .d (.int hi)] [] = some (.exc "InvalidNumber" [("number", v)], []) := by
  refine fn_ex rfl (Γ1 := [some (.d v), some (.d (.int lo)), some (.d (.int hi))]) ?_
  refine (if_t (μ' := []) (eq_of_W ?_)).trans (raise_k (eq_of_W ?_))
  · simp [between_W, h]
  · simp
theorem check_W {v : D} {lo hi : Int} {Γ : Gam} {μ : Store} {Q : A → Store → Prop} (h : btw v lo hi = true) : W (callM .P sem_check [.d v, .d (.int lo), .d (.int hi)]) Γ μ Q ↔ Q (.d .none) μ := W_callP_eq (check_ok h) (by simp)
end ZL.Hand

/-! Layer Z, part V: reckoning: exceptions by rules. -/
namespace ZL
open PySem PySem.Spec PyProof.Rows L2
def XE {α : Type} (f : ZL.Sem α) (Γ : Gam) (μ : Store) (n : String) (fs : Flds) (Q : Store → Prop) : Prop := ∃ μ', f Γ μ = some (.exc n fs, μ') ∧ Q μ'
def XS (g : SemS) (Γ : Gam) (μ : Store) (n : String) (fs : Flds) (Q : Gam → Store → Prop) : Prop := ∃ Γ' μ', g Γ μ = some (.ex Γ' n fs, μ') ∧ Q Γ' μ'
section
variable {α β : Type} {Γ : Gam} {μ : Store} {n : String} {fs : Flds} {Q : Gam → Store → Prop} {P : Store → Prop}
theorem XS_eS {f : ZL.Sem α} {k : α → SemS} (h : XE f Γ μ n fs (Q Γ)) : XS (eS f k) Γ μ n fs Q := by
  obtain ⟨μ', e, q⟩ := h
  exact ⟨Γ, μ', eS_exc e, q⟩
theorem XS_eS2 {f : ZL.Sem α} {k : α → SemS} (h : W f Γ μ fun x μ1 => XS (k x) Γ μ1 n fs Q) : XS (eS f k) Γ μ n fs Q := by
  obtain ⟨x, μ1, e, Γ', μ', e2, q⟩ := h
  exact ⟨Γ', μ', by unfold eS; rw [e]; exact e2, q⟩
theorem XS_seq {f g : SemS} (h : XS f Γ μ n fs Q) : XS (seq f g) Γ μ n fs Q := by
  obtain ⟨Γ', μ', e, q⟩ := h
  exact ⟨Γ', μ', seq_ex e, q⟩
def nxQ (g : SemS) (n : String) (fs : Flds) (Q : Gam → Store → Prop) : Out → Store → Prop
  | .nx Γ1, μ1 => XS g Γ1 μ1 n fs Q
  | _, _ => False
@[simp] theorem nxQ_nx {g : SemS} {Γ1 : Gam} {μ1 : Store} : nxQ g n fs Q (.nx Γ1) μ1 = XS g Γ1 μ1 n fs Q := rfl
theorem XS_seq2 {f g : SemS} (h : VS f Γ μ (nxQ g n fs Q)) : XS (seq f g) Γ μ n fs Q := by
  obtain ⟨o, μ1, e, _, q⟩ := h
  cases o with
  | nx Γ1 =>
    obtain ⟨Γ', μ', e2, q⟩ := q
    exact ⟨Γ', μ', (seq_nx e).trans e2, q⟩
  | _ => exact q.elim
theorem XS_raise {f : Str} {fe : ZL.Sem A} (h : W fe Γ μ fun x μ1 => ∃ z, x = .d z ∧ fs = [(f, z)] ∧ Q Γ μ1) : XS (raiseS n f fe) Γ μ n fs Q := by
  obtain ⟨x, μ1, e, z, rfl, rfl, q⟩ := h
  exact ⟨Γ, μ1, raise_k e, q⟩
theorem XS_if {f : ZL.Sem Bool} {p q : SemS} (h : W f Γ μ fun b μ1 => XS (if b then p else q) Γ μ1 n fs Q) : XS (ifS f p q) Γ μ n fs Q := XS_eS2 h
theorem XS_frz {i : Nat} {g : SemS} {x : A} (hx : Γ[i]? = some (some x)) (h : (∃ d, x = .d d ∧ XS g Γ μ n fs Q) ∨ ∃ j xs ds, x = .ref j ∧ lstQ μ[j]? = some xs ∧ allD xs = some ds ∧ XS g (Γ.set i (some (.d (.list ds)))) (μ.set j .dead) n fs Q) : XS (frz i g) Γ μ n fs Q := by
  rcases h with ⟨d, rfl, Γ', μ', e, q⟩ | ⟨j, xs, ds, rfl, e1, e2, Γ', μ', e, q⟩
  · exact ⟨Γ', μ', by unfold frz; rw [hx]; exact e, q⟩
  · refine ⟨Γ', μ', ?_, q⟩
    have ej : μ[j]? = some (.lst xs) := by
      cases h : μ[j]? with
      | none => rw [h] at e1; cases e1
      | some c => rw [h] at e1; cases c <;> cases e1; rfl
    unfold frz
    rw [hx]
    dsimp only
    rw [ej]
    dsimp only
    rw [e2]
    exact e
theorem XE_call {m : Mode} {sem : SemF} {fa : ZL.Sem (List A)} (h : W fa Γ μ fun as μ1 => XE (callM m sem as) Γ μ1 n fs P) : XE (callE m sem fa) Γ μ n fs P := by
  obtain ⟨as, μ1, e, μ', e2, q⟩ := h
  exact ⟨μ', call_exc e e2, q⟩
theorem XE_args {m : Mode} {sem : SemF} {fa : ZL.Sem (List A)} (h : XE fa Γ μ n fs P) : XE (callE m sem fa) Γ μ n fs P := by
  obtain ⟨μ', e, q⟩ := h
  exact ⟨μ', sb_exc e, q⟩
theorem XE_P {sem : SemF} {as : List A} (h : Throws sem as n fs) (hd : (allD as).isSome = true) (q : P μ) : XE (callM .P sem as) Γ μ n fs P := ⟨μ, callP_throws hd h, q⟩
theorem XE_sb {f : ZL.Sem α} {k : α → ZL.Sem β} (h : XE f Γ μ n fs P) : XE (sb f k) Γ μ n fs P := by
  obtain ⟨μ', e, q⟩ := h
  exact ⟨μ', sb_exc e, q⟩
theorem XE_sb2 {f : ZL.Sem α} {k : α → ZL.Sem β} (h : W f Γ μ fun x μ1 => XE (k x) Γ μ1 n fs P) : XE (sb f k) Γ μ n fs P := by
  obtain ⟨x, μ1, e, μ', e2, q⟩ := h
  exact ⟨μ', (sb_ok e).trans e2, q⟩
theorem XE_acons {fe : ZL.Sem A} {fr : ZL.Sem (List A)} (h : XE fe Γ μ n fs P) : XE (acons fe fr) Γ μ n fs P := XE_sb h
theorem XE_acons2 {fe : ZL.Sem A} {fr : ZL.Sem (List A)} (h : W fe Γ μ fun x μ1 => XE fr Γ μ1 n fs P) : XE (acons fe fr) Γ μ n fs P := XE_sb2 (h.mono fun x μ1 h => XE_sb h)
theorem throws_fn {np m : Nat} {body : SemS} {as : List A} (hl : as.length = np) (h : XS body (as.map some ++ List.replicate (m - np) none) [] n fs fun _ _ => True) : Throws (fnS np m body) as n fs := by
  obtain ⟨Γ', μ', e, _⟩ := h
  exact ⟨μ', fn_ex hl e⟩
end
/-! try -/
def VH (hs : List Hd) (n : String) (fs : Flds) (Γ : Gam) (μ : Store) (Q : Out → Store → Prop) : Prop := VS (handle hs n fs) Γ μ Q
def unQ (i : Nat) (Q : Out → Store → Prop) : Out → Store → Prop
  | .nx Γ, μ => Q (.nx (Γ.set i none)) μ
  | .bk Γ, μ => Q (.bk (Γ.set i none)) μ
  | .ct Γ, μ => Q (.ct (Γ.set i none)) μ
  | .rt x, μ => Q (.rt x) μ
  | .ex _ _ _, _ => False
section
variable {Γ : Gam} {μ : Store} {n : String} {fs : Flds} {Q : Out → Store → Prop} {h : Hd} {r : List Hd} {x : A}
@[simp] theorem unQ_rt {i : Nat} : unQ i Q (.rt x) μ = Q (.rt x) μ := rfl
@[simp] theorem unQ_nx {i : Nat} : unQ i Q (.nx Γ) μ = Q (.nx (Γ.set i none)) μ := rfl
theorem VS_try_x {body : SemS} {hs : List Hd} (h : XS body Γ μ n fs fun Γ1 μ1 => VH hs n fs Γ1 μ1 Q) : VS (tryS body hs) Γ μ Q := by
  obtain ⟨Γ1, μ1, e, o, μ', e2, nx, q⟩ := h
  exact ⟨o, μ', (try_ex e).trans e2, nx, q⟩
theorem VH_named {i : Nat} (h1 : h.mt n = some true) (h2 : h.slot = some i) (h3 : i < Γ.length) (h4 : VS (h.su n fs) (Γ.set i (some .exn)) μ (unQ i Q)) : VH (h :: r) n fs Γ μ Q := by
  obtain ⟨o, μ', e, nx, q⟩ := h4
  have key : handle (h :: r) n fs Γ μ = unset i (some (o, μ')) := by
    unfold handle
    rw [h1]
    dsimp only
    rw [h2]
    dsimp only
    rw [if_pos h3, e]
  cases o with
  | nx Γ' => exact ⟨_, _, key, by simp, q⟩
  | rt x => exact ⟨_, _, key, by simp, q⟩
  | bk Γ' => exact ⟨_, _, key, by simp, q⟩
  | ct Γ' => exact ⟨_, _, key, by simp, q⟩
  | ex _ _ _ => exact absurd rfl (nx _ _ _)
theorem VH_plain (h1 : h.mt n = some true) (h2 : h.slot = none) (h4 : VS (h.su n fs) Γ μ Q) : VH (h :: r) n fs Γ μ Q := by
  obtain ⟨o, μ', e, nx, q⟩ := h4
  refine ⟨o, μ', ?_, nx, q⟩
  unfold handle
  rw [h1]
  dsimp only
  rw [h2]
  dsimp only
  rw [e]
  cases o with
  | ex _ _ _ => exact absurd rfl (nx _ _ _)
  | _ => rfl
theorem VH_skip (h1 : h.mt n = some false) (h2 : VH r n fs Γ μ Q) : VH (h :: r) n fs Γ μ Q := by
  obtain ⟨o, μ', e, nx, q⟩ := h2
  exact ⟨o, μ', by rw [handle_skip h1]; exact e, nx, q⟩
end
end ZL

set_option maxHeartbeats 4000000
namespace ZL.K78
open PySem PySem.Spec PyProof.Rows L2
def kn : List String := ["InvalidNumber", "InvalidRows", "StageError"]
def sub (n m : String) : Bool := [("InvalidNumber", "InvalidNumber"), ("InvalidNumber", "StageError"), ("InvalidRows", "InvalidRows"), ("InvalidRows", "StageError"), ("StageError", "StageError")].contains (n, m)
def b__law_hand : SemS :=
 retS (lstE true (acons (lstOf false (var 0)) (acons (con (.int 0)) (acons (con (.int 0)) (acons (con (.int 88172645463325252)) (anil))))))
def sem__law_hand : SemF := fnS 1 1 b__law_hand
def b__law_draw : SemS :=
 seq (ifS (cmp cGt (ix (var 0) (con (.int 2))) (con (.int 0)))
 (seq (asg (bin opMod (intE (ix (var 0) (con (.int 2)))) (var 1)) (tN 2))
 (seq (setIx (bin opDiv (intE (ix (var 0) (con (.int 2)))) (var 1)) (var 0) (con (.int 2)))
 (retS (var 2))))
 (nextS))
 (seq (asg (bin opAdd (bin opMul (con (.int 40503)) (ix (var 0) (con (.int 1)))) (con (.int 11))) (tN 3))
 (seq (ifS (cmp cLt (ix (var 0) (con (.int 1))) (lenE (ix (var 0) (con (.int 0)))))
 (asg (ix (ix (var 0) (con (.int 0))) (ix (var 0) (con (.int 1)))) (tN 3))
 (nextS))
 (seq (setIx (bin opAdd (ix (var 0) (con (.int 1))) (con (.int 1))) (var 0) (con (.int 1)))
 (seq (asg (bin opMod (intE (bin opAdd (ix (var 0) (con (.int 3))) (var 3))) (con (.int 2305843009213693951))) (tN 4))
 (seq (asg (bin opMod (intE (bin opAdd (bin opMul (var 4) (var 4)) (con (.int 69621)))) (con (.int 2305843009213693951))) (tN 4))
 (seq (asg (bin opMod (intE (bin opAdd (bin opMul (var 4) (var 4)) (con (.int 40503)))) (con (.int 2305843009213693951))) (tN 4))
 (seq (setIx (var 4) (var 0) (con (.int 3)))
 (seq (ifS (cmp cGe (var 3) (bin opPow (con (.int 10)) (con (.int 18))))
 (seq (setIx (bin opDiv (intE (var 3)) (var 1)) (var 0) (con (.int 2)))
 (retS (bin opMod (intE (var 3)) (var 1))))
 (nextS))
 (retS (bin opMod (bin opDiv (var 4) (con (.int 65536))) (var 1)))))))))))
def sem__law_draw : SemF := fnS 2 5 b__law_draw
def b__law_part : SemS :=
 seq (asg (var 1) (tN 6))
 (seq (ifS (cmp cLt (var 1) (var 0))
 (asg (bin opAdd (var 1) (var 2)) (tN 6))
 (nextS))
 (seq (asg (bin opAdd (var 6) (ix (var 3) (bin opSub (var 0) (var 1)))) (tN 7))
 (seq (ifS (cmp cGt (lenE (var 4)) (con (.int 0)))
 (seq (asg (bin opSub (var 6) (con (.int 1))) (tN 8))
 (seq (ifS (truE (var 5))
 (asg (con (.int 0)) (tN 8))
 (nextS))
 (forE (rng2 (var 8) (var 6)) (tN 9)
 (asg (max2 (var 7) (bin opAdd (var 9) (ix (var 4) (var 0)))) (tN 7)))))
 (nextS))
 (retS (var 7)))))
def sem__law_part : SemF := fnS 6 10 b__law_part
def b__law_least : SemS :=
 seq (asg (lstE true (anil)) (tN 4))
 (seq (asg (lstE true (anil)) (tN 5))
 (seq (asg (lstE false (anil)) (tN 6))
 (seq (forE (rng1 (bin opAdd (var 2) (con (.int 1)))) (tN 7)
 (seq (asg (lstE true (acons (con (.int 0)) (anil))) (tN 8))
 (seq (asg (lstE true (acons (con (.int 0)) (anil))) (tN 9))
 (seq (forE (rng2 (con (.int 1)) (bin opAdd (var 0) (con (.int 1)))) (tN 10)
 (seq (asg (con (.int 0)) (tN 11))
 (seq (asg (con (.int 0)) (tN 12))
 (seq (forE (rng2 (con (.int 1)) (bin opAdd (var 10) (con (.int 1)))) (tN 13)
 (seq (asg (callE .B sem__law_part (acons (var 10) (acons (var 13) (acons (var 1) (acons (var 8) (acons (var 6) (acons (var 3) (anil)))))))) (tN 14))
 (ifS (orT (cmp cEq (var 12) (con (.int 0))) (cmp cLt (var 14) (var 11)))
 (seq (asg (var 14) (tN 11))
 (asg (var 13) (tN 12)))
 (nextS))))
 (seq (drop (appE (var 8) (var 11)))
 (drop (appE (var 9) (var 12))))))))
 (frz 8 (seq (drop (appE (var 4) (var 8)))
 (frz 9 (seq (drop (appE (var 5) (var 9)))
 (asg (var 8) (tN 6))))))))))
 (frz 4 (frz 5 (retS (tupE (acons (var 4) (acons (var 5) (anil))))))))))
def sem__law_least : SemF := fnS 4 15 b__law_least
def b__law_told : SemS :=
 retS (andV (isE ["int"] (var 0)) (andV (notV (isE ["bool"] (var 0))) (bv (cmp cEq (var 0) (var 1)))))
def sem__law_told : SemF := fnS 2 2 b__law_told
def b_is_between : SemS :=
 retS (andV (isE ["int"] (var 0)) (andV (notV (isE ["bool"] (var 0))) (bv (chn cLe cLe (var 1) (var 0) (var 2)))))
def sem_is_between : SemF := fnS 3 3 b_is_between
def b_check_number : SemS :=
 ifS (notT (truE (callE .P sem_is_between (acons (var 0) (acons (var 1) (acons (var 2) (anil)))))))
 (raiseS "InvalidNumber" "number" (var 0))
 (nextS)
def sem_check_number : SemF := fnS 3 3 b_check_number
def b_check_game : SemS :=
 seq (drop (callE .P sem_check_number (acons (var 0) (acons (con (.int 0)) (acons (con (.int 60)) (anil))))))
 (seq (drop (callE .P sem_check_number (acons (var 1) (acons (con (.int 0)) (acons (con (.int 20)) (anil))))))
 (drop (callE .P sem_check_number (acons (var 2) (acons (con (.int 0)) (acons (con (.int 5)) (anil)))))))
def sem_check_game : SemF := fnS 3 3 b_check_game
def b_time_of_part : SemS :=
 seq (asg (var 0) (tN 5))
 (seq (ifS (cmp cLt (var 0) (var 1))
 (aug 5 (opI (fun _ _ => true) (· + ·)) (var 2))
 (nextS))
 (seq (asg (bin opAdd (var 5) (ix (var 3) (bin opSub (var 1) (var 0)))) (tN 6))
 (seq (ifS (isN false (var 4))
 (retS (var 6))
 (nextS))
 (retS (max2 (var 6) (bin opAdd (bin opSub (var 5) (con (.int 1))) (ix (var 4) (var 1))))))))
def sem_time_of_part : SemF := fnS 5 7 b_time_of_part
def b_best_row : SemS :=
 seq (asg (lstE true (acons (con (.int 0)) (anil))) (tN 3))
 (seq (asg (lstE true (acons (con (.int 0)) (anil))) (tN 4))
 (seq (forE (rng2 (con (.int 1)) (bin opAdd (var 0) (con (.int 1)))) (tN 5)
 (seq (asg (con .none) (tN 6))
 (seq (forE (rng2 (con (.int 1)) (bin opAdd (var 5) (con (.int 1)))) (tN 7)
 (seq (asg (callE .B sem_time_of_part (acons (var 7) (acons (var 5) (acons (var 1) (acons (var 3) (acons (var 2) (anil))))))) (tN 8))
 (ifS (orT (isN false (var 6)) (cmp cLt (var 8) (ix (var 6) (con (.int 0)))))
 (asg (tupE (acons (var 8) (acons (var 7) (anil)))) (tN 6))
 (nextS))))
 (seq (drop (appE (var 3) (ix (var 6) (con (.int 0)))))
 (drop (appE (var 4) (ix (var 6) (con (.int 1)))))))))
 (frz 3 (frz 4 (retS (tupE (acons (var 3) (acons (var 4) (anil)))))))))
def sem_best_row : SemF := fnS 3 9 b_best_row
def b_best_rows : SemS :=
 seq (asg (lstE true (anil)) (tN 3))
 (seq (asg (con .none) (tN 4))
 (seq (forE (rng1 (bin opAdd (var 2) (con (.int 1)))) (tN 5)
 (seq (asg (callE .P sem_best_row (acons (var 0) (acons (var 1) (acons (var 4) (anil))))) (tN 6))
 (seq (drop (appE (var 3) (var 6)))
 (asg (ix (var 6) (con (.int 0))) (tN 4)))))
 (frz 3 (retS (var 3)))))
def sem_best_rows : SemF := fnS 3 7 b_best_rows
def b_worst_time : SemS :=
 seq (drop (callE .P sem_check_game (acons (var 0) (acons (var 1) (acons (var 2) (anil))))))
 (retS (ix (ix (ix (callE .P sem_best_rows (acons (var 0) (acons (var 1) (acons (var 2) (anil))))) (var 2)) (con (.int 0))) (var 0)))
def sem_worst_time : SemF := fnS 3 3 b_worst_time
def b_first_part : SemS :=
 seq (drop (callE .P sem_check_game (acons (var 0) (acons (var 1) (acons (var 2) (anil))))))
 (retS (ix (ix (ix (callE .P sem_best_rows (acons (var 0) (acons (var 1) (acons (var 2) (anil))))) (var 2)) (con (.int 1))) (var 0)))
def sem_first_part : SemF := fnS 3 3 b_first_part
def b_part_table : SemS :=
 seq (drop (callE .P sem_check_game (acons (var 0) (acons (var 1) (acons (var 2) (anil))))))
 (retS (tupOf (comp false [3, 4] (iSeq (callE .P sem_best_rows (acons (var 0) (acons (var 1) (acons (var 2) (anil)))))) (tT (ZL.tCons (tN 3) (ZL.tCons (tN 4) (ZL.tNil)))) yesT (tupOf (var 4)))))
def sem_part_table : SemF := fnS 3 5 b_part_table
def b__law_table : SemS :=
 seq (asg (callE .P sem_part_table (acons (var 0) (acons (var 1) (acons (var 2) (anil))))) (tN 4))
 (seq (ifS (orT (notT (truE (isE ["tuple"] (var 4)))) (cmp cNe (lenE (var 4)) (bin opAdd (var 2) (con (.int 1)))))
 (retS (con (.bool false)))
 (nextS))
 (seq (forE (rng1 (bin opAdd (var 2) (con (.int 1)))) (tN 5)
 (seq (ifS (orT (notT (truE (isE ["tuple"] (ix (var 4) (var 5))))) (cmp cNe (lenE (ix (var 4) (var 5))) (bin opAdd (var 0) (con (.int 1)))))
 (retS (con (.bool false)))
 (nextS))
 (forE (rng1 (bin opAdd (var 0) (con (.int 1)))) (tN 6)
 (ifS (notT (truE (callE .P sem__law_told (acons (ix (ix (var 4) (var 5)) (var 6)) (acons (ix (ix (var 3) (var 5)) (var 6)) (anil))))))
 (retS (con (.bool false)))
 (nextS)))))
 (retS (con (.bool true)))))
def sem__law_table : SemF := fnS 4 7 b__law_table
def b__law_game : SemS :=
 seq (asg (callE .P sem__law_least (acons (var 1) (acons (var 2) (acons (var 3) (acons (var 4) (anil)))))) (tN 5))
 (seq (asg (callE .L sem__law_draw (acons (var 0) (acons (con (.int 3)) (anil)))) (tN 6))
 (seq (forE (rng1 (con (.int 3))) (tN 7)
 (seq (asg (bin opMod (bin opAdd (var 6) (var 7)) (con (.int 3))) (tN 8))
 (seq (ifS (andT (cmp cEq (var 8) (con (.int 0))) (notT (truE (callE .P sem__law_told (acons (callE .P sem_worst_time (acons (var 1) (acons (var 2) (acons (var 3) (anil))))) (acons (ix (ix (ix (var 5) (con (.int 0))) (var 3)) (var 1)) (anil)))))))
 (retS (con (.bool false)))
 (nextS))
 (seq (ifS (andT (cmp cEq (var 8) (con (.int 1))) (notT (truE (callE .P sem__law_told (acons (callE .P sem_first_part (acons (var 1) (acons (var 2) (acons (var 3) (anil))))) (acons (ix (ix (ix (var 5) (con (.int 1))) (var 3)) (var 1)) (anil)))))))
 (retS (con (.bool false)))
 (nextS))
 (ifS (andT (cmp cEq (var 8) (con (.int 2))) (notT (truE (callE .P sem__law_table (acons (var 1) (acons (var 2) (acons (var 3) (acons (ix (var 5) (con (.int 1))) (anil)))))))))
 (retS (con (.bool false)))
 (nextS))))))
 (seq (asg (callE .L sem__law_draw (acons (var 0) (acons (bin opAdd (var 1) (con (.int 1))) (anil)))) (tN 9))
 (seq (asg (callE .L sem__law_draw (acons (var 0) (acons (bin opAdd (var 3) (con (.int 1))) (anil)))) (tN 10))
 (seq (ifS (notT (truE (callE .P sem__law_told (acons (callE .P sem_first_part (acons (var 9) (acons (var 2) (acons (var 10) (anil))))) (acons (ix (ix (ix (var 5) (con (.int 1))) (var 10)) (var 9)) (anil))))))
 (retS (con (.bool false)))
 (nextS))
 (retS (callE .P sem__law_told (acons (callE .P sem_worst_time (acons (var 9) (acons (var 2) (acons (var 10) (anil))))) (acons (ix (ix (ix (var 5) (con (.int 0))) (var 10)) (var 9)) (anil))))))))))
def sem__law_game : SemF := fnS 5 11 b__law_game
def b__law_bounds : SemS :=
 seq (asg (callE .L sem__law_draw (acons (var 0) (acons (con (.int 61)) (anil)))) (tN 1))
 (seq (asg (callE .L sem__law_draw (acons (var 0) (acons (con (.int 21)) (anil)))) (tN 2))
 (seq (asg (callE .L sem__law_draw (acons (var 0) (acons (con (.int 6)) (anil)))) (tN 3))
 (seq (ifS (orT (notT (truE (callE .P sem__law_told (acons (callE .P sem_worst_time (acons (var 1) (acons (var 2) (acons (con (.int 0)) (anil))))) (acons (var 1) (anil)))))) (notT (truE (callE .P sem__law_told (acons (callE .P sem_worst_time (acons (con (.int 60)) (acons (con (.int 20)) (acons (con (.int 0)) (anil))))) (acons (con (.int 60)) (anil)))))))
 (retS (con (.bool false)))
 (nextS))
 (seq (ifS (orT (notT (truE (callE .P sem__law_told (acons (callE .P sem_worst_time (acons (con (.int 1)) (acons (con (.int 20)) (acons (con (.int 5)) (anil))))) (acons (con (.int 1)) (anil)))))) (notT (truE (callE .P sem__law_told (acons (callE .P sem_worst_time (acons (con (.int 0)) (acons (var 2) (acons (var 3) (anil))))) (acons (con (.int 0)) (anil)))))))
 (retS (con (.bool false)))
 (nextS))
 (seq (ifS (orT (notT (truE (callE .P sem__law_told (acons (callE .P sem_first_part (acons (con (.int 0)) (acons (var 2) (acons (var 3) (anil))))) (acons (con (.int 0)) (anil)))))) (notT (truE (callE .P sem__law_told (acons (callE .P sem_first_part (acons (con (.int 1)) (acons (var 2) (acons (var 3) (anil))))) (acons (con (.int 1)) (anil)))))))
 (retS (con (.bool false)))
 (nextS))
 (seq (asg (callE .L sem__law_draw (acons (var 0) (acons (con (.int 4)) (anil)))) (tN 4))
 (seq (ifS (cmp cEq (var 4) (con (.int 0)))
 (retS (callE .P sem__law_told (acons (callE .P sem_worst_time (acons (con (.int 60)) (acons (con (.int 0)) (acons (var 3) (anil))))) (acons (con (.int 60)) (anil)))))
 (nextS))
 (seq (ifS (cmp cEq (var 4) (con (.int 1)))
 (retS (callE .P sem__law_told (acons (callE .P sem_first_part (acons (con (.int 60)) (acons (con (.int 0)) (acons (con (.int 5)) (anil))))) (acons (con (.int 1)) (anil)))))
 (nextS))
 (seq (ifS (cmp cEq (var 4) (con (.int 2)))
 (retS (callE .P sem__law_told (acons (callE .P sem_first_part (acons (con (.int 60)) (acons (max2 (con (.int 1)) (var 2)) (acons (con (.int 0)) (anil))))) (acons (con (.int 60)) (anil)))))
 (nextS))
 (retS (callE .P sem__law_told (acons (callE .P sem_worst_time (acons (var 1) (acons (con (.int 0)) (acons (var 3) (anil))))) (acons (var 1) (anil))))))))))))))
def sem__law_bounds : SemF := fnS 1 5 b__law_bounds
def b__law_call : SemS :=
 seq (ifS (cmp cEq (var 0) (con (.int 0)))
 (retS (callE .P sem_worst_time (acons (ix (var 1) (con (.int 0))) (acons (ix (var 1) (con (.int 1))) (acons (ix (var 1) (con (.int 2))) (anil))))))
 (nextS))
 (seq (ifS (cmp cEq (var 0) (con (.int 1)))
 (retS (callE .P sem_first_part (acons (ix (var 1) (con (.int 0))) (acons (ix (var 1) (con (.int 1))) (acons (ix (var 1) (con (.int 2))) (anil))))))
 (nextS))
 (retS (callE .P sem_part_table (acons (ix (var 1) (con (.int 0))) (acons (ix (var 1) (con (.int 1))) (acons (ix (var 1) (con (.int 2))) (anil)))))))
def sem__law_call : SemF := fnS 2 2 b__law_call
def b__law_same : SemS :=
 seq (ifS (orT (truE (isE ["list"] (var 1))) (truE (isE ["tuple"] (var 1))))
 (seq (ifS (andT (truE (isE ["list"] (var 1))) (notT (truE (isE ["list"] (var 0)))))
 (retS (con (.bool false)))
 (nextS))
 (seq (ifS (andT (truE (isE ["tuple"] (var 1))) (notT (truE (isE ["tuple"] (var 0)))))
 (retS (con (.bool false)))
 (nextS))
 (retS (andV (bv (cmp cEq (lenE (var 0)) (lenE (var 1)))) (callE .P sem__law_told (acons (ix (var 0) (con (.int 0))) (acons (ix (var 1) (con (.int 0))) (anil))))))))
 (nextS))
 (seq (ifS (isN false (var 1))
 (retS (bv (isN false (var 0))))
 (nextS))
 (seq (ifS (truE (isE ["bool"] (var 1)))
 (retS (andV (isE ["bool"] (var 0)) (bv (cmp cEq (var 0) (var 1)))))
 (nextS))
 (seq (ifS (truE (isE ["str"] (var 1)))
 (retS (andV (isE ["str"] (var 0)) (bv (cmp cEq (var 0) (var 1)))))
 (nextS))
 (retS (callE .P sem__law_told (acons (var 0) (acons (var 1) (anil))))))))
def sem__law_same : SemF := fnS 2 2 b__law_same
def b__law_refused : SemS :=
 seq (asg (lstE true (acons (callE .L sem__law_draw (acons (var 0) (acons (con (.int 61)) (anil)))) (acons (callE .L sem__law_draw (acons (var 0) (acons (con (.int 21)) (anil)))) (acons (callE .L sem__law_draw (acons (var 0) (acons (con (.int 6)) (anil)))) (anil))))) (tN 2))
 (seq (asg (callE .L sem__law_draw (acons (var 0) (acons (con (.int 3)) (anil)))) (tN 3))
 (seq (asg (ix (lstE false (acons (ix (lstE false (acons (con (.int 61)) (acons (con (.int 21)) (acons (con (.int 6)) (anil))))) (var 3)) (acons (bin opSub (con (.int 0)) (con (.int 1))) (acons (con .none) (acons (con (.bool true)) (acons (con (.bool false)) (acons (con (.str (PySem.Str.ofString "5"))) (acons (tupE (acons (con (.int 3)) (anil))) (acons (lstE false (acons (con (.int 3)) (anil))) (acons (bin opPow (con (.int 10)) (con (.int 30))) (anil))))))))))) (callE .L sem__law_draw (acons (var 0) (acons (con (.int 9)) (anil))))) (tN 4))
 (seq (setIx (var 4) (var 2) (var 3))
 (seq (ifS (andT (cmp cLt (var 3) (con (.int 2))) (cmp cEq (callE .L sem__law_draw (acons (var 0) (acons (con (.int 2)) (anil)))) (con (.int 0))))
 (setIx (con (.str (PySem.Str.ofString "late"))) (var 2) (bin opAdd (bin opAdd (var 3) (con (.int 1))) (callE .L sem__law_draw (acons (var 0) (acons (bin opSub (con (.int 2)) (var 3)) (anil))))))
 (nextS))
 (seq (tryS (frz 2 (drop (callE .P sem__law_call (acons (var 1) (acons (var 2) (anil))))))
 [⟨mtX kn sub "InvalidNumber", some 5, fun n fs => gdS (kn.contains n) (seq (asg (andV (exI kn sub n ["StageError"]) (andV (exV kn n) (notV (exI kn sub n ["InvalidRows"])))) (tN 6))
 (retS (andV (var 6) (callE .P sem__law_same (acons (exF fs "number") (acons (var 4) (anil)))))))⟩])
 (retS (con (.bool false))))))))
def sem__law_refused : SemF := fnS 2 7 b__law_refused
def b_law : SemS :=
 seq (asg (callE .P sem__law_hand (acons (var 0) (anil))) (tN 1))
 (seq (asg (callE .L sem__law_draw (acons (var 1) (acons (con (.int 10)) (anil)))) (tN 2))
 (seq (asg (callE .L sem__law_draw (acons (var 1) (acons (con (.int 7)) (anil)))) (tN 3))
 (seq (asg (callE .L sem__law_draw (acons (var 1) (acons (con (.int 6)) (anil)))) (tN 4))
 (seq (ifS (notT (truE (callE .L sem__law_game (acons (var 1) (acons (var 2) (acons (var 3) (acons (var 4) (acons (con (.bool true)) (anil)))))))))
 (retS (con (.bool false)))
 (nextS))
 (seq (asg (bin opAdd (con (.int 10)) (callE .L sem__law_draw (acons (var 1) (acons (con (.int 21)) (anil))))) (tN 5))
 (seq (asg (callE .L sem__law_draw (acons (var 1) (acons (con (.int 4)) (anil)))) (tN 6))
 (seq (ifS (cmp cEq (callE .L sem__law_draw (acons (var 1) (acons (con (.int 8)) (anil)))) (con (.int 0)))
 (seq (asg (bin opAdd (con (.int 50)) (callE .L sem__law_draw (acons (var 1) (acons (con (.int 11)) (anil))))) (tN 5))
 (asg (callE .L sem__law_draw (acons (var 1) (acons (con (.int 6)) (anil)))) (tN 6)))
 (nextS))
 (seq (ifS (notT (truE (callE .L sem__law_game (acons (var 1) (acons (var 5) (acons (callE .L sem__law_draw (acons (var 1) (acons (con (.int 21)) (anil)))) (acons (var 6) (acons (con (.bool false)) (anil)))))))))
 (retS (con (.bool false)))
 (nextS))
 (seq (forE (rng1 (con (.int 3))) (tN 7)
 (ifS (notT (truE (callE .L sem__law_refused (acons (var 1) (acons (var 7) (anil))))))
 (retS (con (.bool false)))
 (nextS)))
 (seq (ifS (notT (truE (callE .L sem__law_bounds (acons (var 1) (anil)))))
 (retS (con (.bool false)))
 (nextS))
 (retS (callE .L sem__law_game (acons (var 1) (acons (var 2) (acons (var 3) (acons (var 4) (acons (con (.bool true)) (anil))))))))))))))))))
def sem_law : SemF := fnS 1 8 b_law
end ZL.K78

namespace ZL.K78
open PySem PySem.Spec PyProof.Rows L2
def top (i : Nat) : Stmt := PySem.Challenge.pw_everystage_k78_whole_games_by_all_parts.main.body.getD i (.Pass ⟨0, 0, 0, 0⟩)
structure Txt (P : Program) (w : World) (K : PySem.W.Frag) (mg : Str → Option Value) (base : Heap) (ε : String → Addr) : Prop where
  b_ValueError : mg "ValueError" = none
  b_bool : mg "bool" = none
  b_int : mg "int" = none
  b_isinstance : mg "isinstance" = none
  b_len : mg "len" = none
  b_list : mg "list" = none
  b_max : mg "max" = none
  b_range : mg "range" = none
  b_str : mg "str" = none
  b_tuple : mg "tuple" = none
  k_MOST_COST : ∃ t, mg "MOST_COST" = some (.int 20 t)
  k_MOST_FALLS : ∃ t, mg "MOST_FALLS" = some (.int 5 t)
  k_MOST_WORK : ∃ t, mg "MOST_WORK" = some (.int 60 t)
  g_InvalidNumber : mg "InvalidNumber" = some (.ref (ε "InvalidNumber"))
  g_InvalidRows : mg "InvalidRows" = some (.ref (ε "InvalidRows"))
  g_StageError : mg "StageError" = some (.ref (ε "StageError"))
  x_InvalidNumber : ExK P w K mg base ε "InvalidNumber" "InvalidNumber" "number"
  xt : XT K ε kn sub
  nf : ∀ n ∈ kn, ∀ f : Str, f ∈ (["number"] : List Str) → PySem.W.findIn K (.ref (ε n)) f = some none
abbrev s__law_hand : Stmt := top 20
abbrev s__law_draw : Stmt := top 21
abbrev s__law_part : Stmt := top 24
abbrev s__law_least : Stmt := top 25
abbrev s__law_told : Stmt := top 22
abbrev s_is_between : Stmt := top 5
abbrev s_check_number : Stmt := top 7
abbrev s_check_game : Stmt := top 12
abbrev s_time_of_part : Stmt := top 13
abbrev s_best_row : Stmt := top 14
abbrev s_best_rows : Stmt := top 15
abbrev s_worst_time : Stmt := top 16
abbrev s_first_part : Stmt := top 17
abbrev s_part_table : Stmt := top 18
abbrev s__law_table : Stmt := top 26
abbrev s__law_game : Stmt := top 27
abbrev s__law_bounds : Stmt := top 30
abbrev s__law_call : Stmt := top 28
abbrev s__law_same : Stmt := top 23
abbrev s__law_refused : Stmt := top 29
abbrev s_law : Stmt := top 31
abbrev i_InvalidNumber : Stmt := inClass (top 2) 0
theorem sc__law_hand : FnScope ["script"] ["script"] (defScope s__law_hand) := ⟨rfl, rfl, rfl, by decide +kernel, rfl, by decide +kernel, by decide +kernel⟩
theorem sc__law_draw : FnScope ["hand", "many", "told", "cell", "mixed"] ["hand", "many"] (defScope s__law_draw) := ⟨rfl, rfl, rfl, by decide +kernel, rfl, by decide +kernel, by decide +kernel⟩
theorem sc__law_part : FnScope ["n", "p", "cost", "time", "fewer", "whole", "end", "worst", "first", "moment"] ["n", "p", "cost", "time", "fewer", "whole"] (defScope s__law_part) := ⟨rfl, rfl, rfl, by decide +kernel, rfl, by decide +kernel, by decide +kernel⟩
theorem sc__law_least : FnScope ["work", "cost", "falls", "whole", "times", "parts", "fewer", "left", "time", "part", "n", "least", "chosen", "p", "worst"] ["work", "cost", "falls", "whole"] (defScope s__law_least) := ⟨rfl, rfl, rfl, by decide +kernel, rfl, by decide +kernel, by decide +kernel⟩
theorem sc__law_told : FnScope ["told", "due"] ["told", "due"] (defScope s__law_told) := ⟨rfl, rfl, rfl, by decide +kernel, rfl, by decide +kernel, by decide +kernel⟩
theorem sc_is_between : FnScope ["value", "least", "most"] ["value", "least", "most"] (defScope s_is_between) := ⟨rfl, rfl, rfl, by decide +kernel, rfl, by decide +kernel, by decide +kernel⟩
theorem sc_check_number : FnScope ["value", "least", "most"] ["value", "least", "most"] (defScope s_check_number) := ⟨rfl, rfl, rfl, by decide +kernel, rfl, by decide +kernel, by decide +kernel⟩
theorem sc_check_game : FnScope ["work", "cost", "falls"] ["work", "cost", "falls"] (defScope s_check_game) := ⟨rfl, rfl, rfl, by decide +kernel, rfl, by decide +kernel, by decide +kernel⟩
theorem sc_time_of_part : FnScope ["part", "left", "cost", "times", "fewer", "taken", "whole"] ["part", "left", "cost", "times", "fewer"] (defScope s_time_of_part) := ⟨rfl, rfl, rfl, by decide +kernel, rfl, by decide +kernel, by decide +kernel⟩
theorem sc_best_row : FnScope ["work", "cost", "fewer", "times", "parts", "left", "best", "part", "told"] ["work", "cost", "fewer"] (defScope s_best_row) := ⟨rfl, rfl, rfl, by decide +kernel, rfl, by decide +kernel, by decide +kernel⟩
theorem sc_best_rows : FnScope ["work", "cost", "falls", "found", "fewer", "_", "row"] ["work", "cost", "falls"] (defScope s_best_rows) := ⟨rfl, rfl, rfl, by decide +kernel, rfl, by decide +kernel, by decide +kernel⟩
theorem sc_worst_time : FnScope ["work", "cost", "falls"] ["work", "cost", "falls"] (defScope s_worst_time) := ⟨rfl, rfl, rfl, by decide +kernel, rfl, by decide +kernel, by decide +kernel⟩
theorem sc_first_part : FnScope ["work", "cost", "falls"] ["work", "cost", "falls"] (defScope s_first_part) := ⟨rfl, rfl, rfl, by decide +kernel, rfl, by decide +kernel, by decide +kernel⟩
theorem sc_part_table : FnScope ["work", "cost", "falls", "_", "parts"] ["work", "cost", "falls"] (defScope s_part_table) := ⟨rfl, rfl, rfl, by decide +kernel, rfl, by decide +kernel, by decide +kernel⟩
theorem sc__law_table : FnScope ["work", "cost", "falls", "parts", "told", "left", "n"] ["work", "cost", "falls", "parts"] (defScope s__law_table) := ⟨rfl, rfl, rfl, by decide +kernel, rfl, by decide +kernel, by decide +kernel⟩
theorem sc__law_game : FnScope ["hand", "work", "cost", "falls", "whole", "least", "first", "k", "ask", "n", "left"] ["hand", "work", "cost", "falls", "whole"] (defScope s__law_game) := ⟨rfl, rfl, rfl, by decide +kernel, rfl, by decide +kernel, by decide +kernel⟩
theorem sc__law_bounds : FnScope ["hand", "work", "cost", "falls", "place"] ["hand"] (defScope s__law_bounds) := ⟨rfl, rfl, rfl, by decide +kernel, rfl, by decide +kernel, by decide +kernel⟩
theorem sc__law_call : FnScope ["ask", "numbers"] ["ask", "numbers"] (defScope s__law_call) := ⟨rfl, rfl, rfl, by decide +kernel, rfl, by decide +kernel, by decide +kernel⟩
theorem sc__law_same : FnScope ["told", "due"] ["told", "due"] (defScope s__law_same) := ⟨rfl, rfl, rfl, by decide +kernel, rfl, by decide +kernel, by decide +kernel⟩
theorem sc__law_refused : FnScope ["hand", "ask", "numbers", "place", "bad", "e", "told"] ["hand", "ask"] (defScope s__law_refused) := ⟨rfl, rfl, rfl, by decide +kernel, rfl, by decide +kernel, by decide +kernel⟩
theorem sc_law : FnScope ["script", "hand", "work", "cost", "falls", "n", "late", "ask"] ["script"] (defScope s_law) := ⟨rfl, rfl, rfl, by decide +kernel, rfl, by decide +kernel, by decide +kernel⟩
section
variable {P : Program} {w : World} {K : PySem.W.Frag} {mg : Str → Option Value} {base : Heap} {ε : String → Addr}
theorem qc__law_told (T : Txt P w K mg base ε) (D : DefZ K mg "_law_told" s__law_told ["told", "due"])  : CalQ P w K mg base ⟨K, ε⟩ 3 "_law_told" ["told", "due"] sem__law_told := by
  refine z_defQ (k := 2) D sc__law_told fun f cdv A outer s H F0 ρ0 hr => ?_
  exact z_one1 (z_ret (z_andV rfl (z_is1 rfl T.b_isinstance (z_var 0) (pe_ty T.b_int boot_int)) (z_andV rfl (z_notV rfl (z_is1 rfl T.b_isinstance (z_var 0) (pe_ty T.b_bool boot_bool))) (z_one (z_eqVQ rfl hr (z_var 0) (z_var 1))))))
theorem qc__law_same (T : Txt P w K mg base ε) (D : DefZ K mg "_law_same" s__law_same ["told", "due"]) (q__law_told : CalQ P w K mg base ⟨K, ε⟩ 3 "_law_told" ["told", "due"] sem__law_told) : CalQ P w K mg base ⟨K, ε⟩ 4 "_law_same" ["told", "due"] sem__law_same := by
  refine z_defQ (k := 3) D sc__law_same fun f cdv A outer s H F0 ρ0 hr => ?_
  exact z_seq (z_if (z_pw (z_or (z_truT rfl (z_is1 rfl T.b_isinstance (z_var 1) (pe_ty T.b_list boot_list))) (z_or1 (z_truT rfl (z_is1 rfl T.b_isinstance (z_var 1) (pe_ty T.b_tuple boot_tuple))))))
      (z_seq (z_if (z_pw (z_and (z_truT rfl (z_is1 rfl T.b_isinstance (z_var 1) (pe_ty T.b_list boot_list))) (z_and1 (z_notT (z_truT rfl (z_is1 rfl T.b_isinstance (z_var 0) (pe_ty T.b_list boot_list)))))))
      (z_one1 (z_ret (z_bl)))
      (z_snil))
      (z_seq (z_if (z_pw (z_and (z_truT rfl (z_is1 rfl T.b_isinstance (z_var 1) (pe_ty T.b_tuple boot_tuple))) (z_and1 (z_notT (z_truT rfl (z_is1 rfl T.b_isinstance (z_var 0) (pe_ty T.b_tuple boot_tuple)))))))
      (z_one1 (z_ret (z_bl)))
      (z_snil))
      (z_one1 (z_ret (z_andV rfl (z_eqVQ rfl hr (z_len rfl T.b_len (z_var 0)) (z_len rfl T.b_len (z_var 1))) (z_one (z_callQ .P q__law_told hr rfl (by exact (z_cons (z_ix rfl (z_var 0) (z_int)) (z_cons (z_ix rfl (z_var 1) (z_int)) (z_nil)))))))))))
      (z_snil))
      (z_seq (z_if (z_isNT (z_var 1))
      (z_one1 (z_ret (z_isNV (z_var 0))))
      (z_snil))
      (z_seq (z_if (z_truT rfl (z_is1 rfl T.b_isinstance (z_var 1) (pe_ty T.b_bool boot_bool)))
      (z_one1 (z_ret (z_andV rfl (z_is1 rfl T.b_isinstance (z_var 0) (pe_ty T.b_bool boot_bool)) (z_one (z_eqVQ rfl hr (z_var 0) (z_var 1))))))
      (z_snil))
      (z_seq (z_if (z_truT rfl (z_is1 rfl T.b_isinstance (z_var 1) (pe_ty T.b_str boot_str)))
      (z_one1 (z_ret (z_andV rfl (z_is1 rfl T.b_isinstance (z_var 0) (pe_ty T.b_str boot_str)) (z_one (z_eqVQ rfl hr (z_var 0) (z_var 1))))))
      (z_snil))
      (z_one1 (z_ret (z_callQ .P q__law_told hr rfl (by exact (z_cons (z_var 0) (z_cons (z_var 1) (z_nil))))))))))
theorem c__law_hand (T : Txt P w K mg base ε) (D : DefZ K mg "_law_hand" s__law_hand ["script"])  : CalZ P w K mg base ⟨K, ε⟩ 3 "_law_hand" ["script"] sem__law_hand := by
  refine z_def (k := 2) D sc__law_hand fun f cdv A outer s H E F0 ρ0 hr => ?_
  exact z_one1 (z_ret (z_lst true (z_cons (z_lstOf rfl false T.b_list (z_var 0)) (z_cons (z_int) (z_cons (z_int) (z_cons (z_int) (z_nil)))))))
theorem c__law_draw (T : Txt P w K mg base ε) (D : DefZ K mg "_law_draw" s__law_draw ["hand", "many"])  : CalZ P w K mg base ⟨K, ε⟩ 3 "_law_draw" ["hand", "many"] sem__law_draw := by
  refine z_def (k := 2) D sc__law_draw fun f cdv A outer s H E F0 ρ0 hr => ?_
  exact z_seq (z_if (z_gtT rfl (z_ix rfl (z_var 0) (z_int)) (z_int))
      (z_seq (z_set 2 sc__law_draw.nd (z_mod (z_intOf T.b_int (z_ix rfl (z_var 0) (z_int))) (z_var 1)))
      (z_seq (z_setIx (z_div (z_intOf T.b_int (z_ix rfl (z_var 0) (z_int))) (z_var 1)) (z_var 0) (z_int))
      (z_one1 (z_ret (z_var 2)))))
      (z_snil))
      (z_seq (z_set 3 sc__law_draw.nd (z_add rfl (z_mul (z_int) (z_ix rfl (z_var 0) (z_int))) (z_int)))
      (z_seq (z_if (z_ltT rfl (z_ix rfl (z_var 0) (z_int)) (z_len rfl T.b_len (z_ix rfl (z_var 0) (z_int))))
      (z_one1 (z_set 3 sc__law_draw.nd (z_ix rfl (z_ix rfl (z_var 0) (z_int)) (z_ix rfl (z_var 0) (z_int)))))
      (z_snil))
      (z_seq (z_setIx (z_add rfl (z_ix rfl (z_var 0) (z_int)) (z_int)) (z_var 0) (z_int))
      (z_seq (z_set 4 sc__law_draw.nd (z_mod (z_intOf T.b_int (z_add rfl (z_ix rfl (z_var 0) (z_int)) (z_var 3))) (z_int)))
      (z_seq (z_set 4 sc__law_draw.nd (z_mod (z_intOf T.b_int (z_add rfl (z_mul (z_var 4) (z_var 4)) (z_int))) (z_int)))
      (z_seq (z_set 4 sc__law_draw.nd (z_mod (z_intOf T.b_int (z_add rfl (z_mul (z_var 4) (z_var 4)) (z_int))) (z_int)))
      (z_seq (z_setIx (z_var 4) (z_var 0) (z_int))
      (z_seq (z_if (z_geT rfl (z_var 3) (z_pow (z_int) (z_int)))
      (z_seq (z_setIx (z_div (z_intOf T.b_int (z_var 3)) (z_var 1)) (z_var 0) (z_int))
      (z_one1 (z_ret (z_mod (z_intOf T.b_int (z_var 3)) (z_var 1)))))
      (z_snil))
      (z_one1 (z_ret (z_mod (z_div (z_var 4) (z_int)) (z_var 1))))))))))))
theorem c__law_part (T : Txt P w K mg base ε) (D : DefZ K mg "_law_part" s__law_part ["n", "p", "cost", "time", "fewer", "whole"])  : CalZ P w K mg base ⟨K, ε⟩ 3 "_law_part" ["n", "p", "cost", "time", "fewer", "whole"] sem__law_part := by
  refine z_def (k := 2) D sc__law_part fun f cdv A outer s H E F0 ρ0 hr => ?_
  exact z_seq (z_set 6 sc__law_part.nd (z_var 1))
      (z_seq (z_if (z_ltT rfl (z_var 1) (z_var 0))
      (z_one1 (z_set 6 sc__law_part.nd (z_add rfl (z_var 1) (z_var 2))))
      (z_snil))
      (z_seq (z_set 7 sc__law_part.nd (z_add rfl (z_var 6) (z_ix rfl (z_var 3) (z_sub (z_var 0) (z_var 1)))))
      (z_seq (z_if (z_gtT rfl (z_len rfl T.b_len (z_var 4)) (z_int))
      (z_seq (z_set 8 sc__law_part.nd (z_sub (z_var 6) (z_int)))
      (z_seq (z_if (z_truT rfl (z_var 5))
      (z_one1 (z_set 8 sc__law_part.nd (z_int)))
      (z_snil))
      (z_one1 (z_for (passes_of (by rfl)) (z_rng2 T.b_range (z_var 8) (z_var 6)) (z_gN 9 sc__law_part.nd)
      (z_one1 (z_set 7 sc__law_part.nd (z_max2 T.b_max (z_var 7) (z_add rfl (z_var 9) (z_ix rfl (z_var 4) (z_var 0))))))))))
      (z_snil))
      (z_one1 (z_ret (z_var 7))))))
theorem c__law_least (T : Txt P w K mg base ε) (D : DefZ K mg "_law_least" s__law_least ["work", "cost", "falls", "whole"]) (c__law_part : CalZ P w K mg base ⟨K, ε⟩ 3 "_law_part" ["n", "p", "cost", "time", "fewer", "whole"] sem__law_part) : CalZ P w K mg base ⟨K, ε⟩ 4 "_law_least" ["work", "cost", "falls", "whole"] sem__law_least := by
  refine z_def (k := 3) D sc__law_least fun f cdv A outer s H E F0 ρ0 hr => ?_
  exact z_seq (z_set 4 sc__law_least.nd (z_lst true (z_nil)))
      (z_seq (z_set 5 sc__law_least.nd (z_lst true (z_nil)))
      (z_seq (z_set 6 sc__law_least.nd (z_lst false (z_nil)))
      (z_seq (z_for (passes_of (by rfl)) (z_rng1 T.b_range (z_add rfl (z_var 2) (z_int))) (z_gN 7 sc__law_least.nd)
      (z_seq (z_set 8 sc__law_least.nd (z_lst true (z_cons (z_int) (z_nil))))
      (z_seq (z_set 9 sc__law_least.nd (z_lst true (z_cons (z_int) (z_nil))))
      (z_seq (z_for (passes_of (by rfl)) (z_rng2 T.b_range (z_int) (z_add rfl (z_var 0) (z_int))) (z_gN 10 sc__law_least.nd)
      (z_seq (z_set 11 sc__law_least.nd (z_int))
      (z_seq (z_set 12 sc__law_least.nd (z_int))
      (z_seq (z_for (passes_of (by rfl)) (z_rng2 T.b_range (z_int) (z_add rfl (z_var 10) (z_int))) (z_gN 13 sc__law_least.nd)
      (z_seq (z_set 14 sc__law_least.nd (z_callC .B c__law_part hr (takes_of rfl rfl rfl rfl) (by exact (z_cons (z_var 10) (z_cons (z_var 13) (z_cons (z_var 1) (z_cons (z_var 8) (z_cons (z_var 6) (z_cons (z_var 3) (z_nil))))))))))
      (z_one1 (z_if (z_pw (z_or (z_eqT rfl hr (z_var 12) (z_int)) (z_or1 (z_ltT rfl (z_var 14) (z_var 11)))))
      (z_seq (z_set 11 sc__law_least.nd (z_var 14))
      (z_one1 (z_set 12 sc__law_least.nd (z_var 13))))
      (z_snil)))))
      (z_seq (z_expr (z_append (z_var 8) (z_var 11) rfl))
      (z_one1 (z_expr (z_append (z_var 9) (z_var 12) rfl))))))))
      (z_frz 8 (z_seq (z_expr (z_append (z_var 4) (z_var 8) rfl))
      (z_frz 9 (z_seq (z_expr (z_append (z_var 5) (z_var 9) rfl))
      (z_one1 (z_set 6 sc__law_least.nd (z_var 8)))))))))))
      (z_frz 4 (z_frz 5 (z_one1 (z_ret (z_tup (z_cons (z_var 4) (z_cons (z_var 5) (z_nil)))))))))))
theorem c__law_told (T : Txt P w K mg base ε) (D : DefZ K mg "_law_told" s__law_told ["told", "due"])  : CalZ P w K mg base ⟨K, ε⟩ 3 "_law_told" ["told", "due"] sem__law_told := by
  refine z_def (k := 2) D sc__law_told fun f cdv A outer s H E F0 ρ0 hr => ?_
  exact z_one1 (z_ret (z_andV rfl (z_is1 rfl T.b_isinstance (z_var 0) (pe_ty T.b_int boot_int)) (z_andV rfl (z_notV rfl (z_is1 rfl T.b_isinstance (z_var 0) (pe_ty T.b_bool boot_bool))) (z_one (z_eqV rfl hr (z_var 0) (z_var 1))))))
theorem c_is_between (T : Txt P w K mg base ε) (D : DefZ K mg "is_between" s_is_between ["value", "least", "most"])  : CalZ P w K mg base ⟨K, ε⟩ 3 "is_between" ["value", "least", "most"] sem_is_between := by
  refine z_def (k := 2) D sc_is_between fun f cdv A outer s H E F0 ρ0 hr => ?_
  exact z_one1 (z_ret (z_andV rfl (z_is1 rfl T.b_isinstance (z_var 0) (pe_ty T.b_int boot_int)) (z_andV rfl (z_notV rfl (z_is1 rfl T.b_isinstance (z_var 0) (pe_ty T.b_bool boot_bool))) (z_one (z_chnV op_le op_le cz_le cz_le (z_var 1) (z_var 0) (z_var 2))))))
theorem c_check_number (T : Txt P w K mg base ε) (D : DefZ K mg "check_number" s_check_number ["value", "least", "most"]) (c_is_between : CalZ P w K mg base ⟨K, ε⟩ 3 "is_between" ["value", "least", "most"] sem_is_between) : CalZ P w K mg base ⟨K, ε⟩ 4 "check_number" ["value", "least", "most"] sem_check_number := by
  refine z_def (k := 3) D sc_check_number fun f cdv A outer s H E F0 ρ0 hr => ?_
  exact z_one1 (z_if (z_notT (z_truT rfl (z_callC .P c_is_between hr (takes_of rfl rfl rfl rfl) (by exact (z_cons (z_var 0) (z_cons (z_var 1) (z_cons (z_var 2) (z_nil))))))))
      (z_one1 (z_raise T.x_InvalidNumber (k := 0) (hr.mono (by first | decide | omega)) (takes_of rfl rfl rfl rfl) (z_var 0)))
      (z_snil))
theorem c_check_game (T : Txt P w K mg base ε) (D : DefZ K mg "check_game" s_check_game ["work", "cost", "falls"]) (c_check_number : CalZ P w K mg base ⟨K, ε⟩ 4 "check_number" ["value", "least", "most"] sem_check_number) : CalZ P w K mg base ⟨K, ε⟩ 5 "check_game" ["work", "cost", "falls"] sem_check_game := by
  refine z_def (k := 4) D sc_check_game fun f cdv A outer s H E F0 ρ0 hr => ?_
  exact z_seq (z_expr (z_callC .P c_check_number hr (takes_of rfl rfl rfl rfl) (by exact (z_cons (z_var 0) (z_cons (z_int) (z_cons (z_glob T.k_MOST_WORK.choose_spec) (z_nil)))))))
      (z_seq (z_expr (z_callC .P c_check_number hr (takes_of rfl rfl rfl rfl) (by exact (z_cons (z_var 1) (z_cons (z_int) (z_cons (z_glob T.k_MOST_COST.choose_spec) (z_nil)))))))
      (z_one1 (z_expr (z_callC .P c_check_number hr (takes_of rfl rfl rfl rfl) (by exact (z_cons (z_var 2) (z_cons (z_int) (z_cons (z_glob T.k_MOST_FALLS.choose_spec) (z_nil)))))))))
theorem c_time_of_part (T : Txt P w K mg base ε) (D : DefZ K mg "time_of_part" s_time_of_part ["part", "left", "cost", "times", "fewer"])  : CalZ P w K mg base ⟨K, ε⟩ 3 "time_of_part" ["part", "left", "cost", "times", "fewer"] sem_time_of_part := by
  refine z_def (k := 2) D sc_time_of_part fun f cdv A outer s H E F0 ρ0 hr => ?_
  exact z_seq (z_set 5 sc_time_of_part.nd (z_var 0))
      (z_seq (z_if (z_ltT rfl (z_var 0) (z_var 1))
      (z_one1 (z_augAdd 5 sc_time_of_part.nd (z_var 2)))
      (z_snil))
      (z_seq (z_set 6 sc_time_of_part.nd (z_add rfl (z_var 5) (z_ix rfl (z_var 3) (z_sub (z_var 1) (z_var 0)))))
      (z_seq (z_if (z_isNT (z_var 4))
      (z_one1 (z_ret (z_var 6)))
      (z_snil))
      (z_one1 (z_ret (z_max2 T.b_max (z_var 6) (z_add rfl (z_sub (z_var 5) (z_int)) (z_ix rfl (z_var 4) (z_var 1)))))))))
theorem c_best_row (T : Txt P w K mg base ε) (D : DefZ K mg "best_row" s_best_row ["work", "cost", "fewer"]) (c_time_of_part : CalZ P w K mg base ⟨K, ε⟩ 3 "time_of_part" ["part", "left", "cost", "times", "fewer"] sem_time_of_part) : CalZ P w K mg base ⟨K, ε⟩ 4 "best_row" ["work", "cost", "fewer"] sem_best_row := by
  refine z_def (k := 3) D sc_best_row fun f cdv A outer s H E F0 ρ0 hr => ?_
  exact z_seq (z_set 3 sc_best_row.nd (z_lst true (z_cons (z_int) (z_nil))))
      (z_seq (z_set 4 sc_best_row.nd (z_lst true (z_cons (z_int) (z_nil))))
      (z_seq (z_for (passes_of (by rfl)) (z_rng2 T.b_range (z_int) (z_add rfl (z_var 0) (z_int))) (z_gN 5 sc_best_row.nd)
      (z_seq (z_set 6 sc_best_row.nd (z_non))
      (z_seq (z_for (passes_of (by rfl)) (z_rng2 T.b_range (z_int) (z_add rfl (z_var 5) (z_int))) (z_gN 7 sc_best_row.nd)
      (z_seq (z_set 8 sc_best_row.nd (z_callC .B c_time_of_part hr (takes_of rfl rfl rfl rfl) (by exact (z_cons (z_var 7) (z_cons (z_var 5) (z_cons (z_var 1) (z_cons (z_var 3) (z_cons (z_var 2) (z_nil)))))))))
      (z_one1 (z_if (z_pw (z_or (z_isNT (z_var 6)) (z_or1 (z_ltT rfl (z_var 8) (z_ix rfl (z_var 6) (z_int))))))
      (z_one1 (z_set 6 sc_best_row.nd (z_tup (z_cons (z_var 8) (z_cons (z_var 7) (z_nil))))))
      (z_snil)))))
      (z_seq (z_expr (z_append (z_var 3) (z_ix rfl (z_var 6) (z_int)) rfl))
      (z_one1 (z_expr (z_append (z_var 4) (z_ix rfl (z_var 6) (z_int)) rfl)))))))
      (z_frz 3 (z_frz 4 (z_one1 (z_ret (z_tup (z_cons (z_var 3) (z_cons (z_var 4) (z_nil))))))))))
theorem c_best_rows (T : Txt P w K mg base ε) (D : DefZ K mg "best_rows" s_best_rows ["work", "cost", "falls"]) (c_best_row : CalZ P w K mg base ⟨K, ε⟩ 4 "best_row" ["work", "cost", "fewer"] sem_best_row) : CalZ P w K mg base ⟨K, ε⟩ 5 "best_rows" ["work", "cost", "falls"] sem_best_rows := by
  refine z_def (k := 4) D sc_best_rows fun f cdv A outer s H E F0 ρ0 hr => ?_
  exact z_seq (z_set 3 sc_best_rows.nd (z_lst true (z_nil)))
      (z_seq (z_set 4 sc_best_rows.nd (z_non))
      (z_seq (z_for (passes_of (by rfl)) (z_rng1 T.b_range (z_add rfl (z_var 2) (z_int))) (z_gN 5 sc_best_rows.nd)
      (z_seq (z_set 6 sc_best_rows.nd (z_callC .P c_best_row hr (takes_of rfl rfl rfl rfl) (by exact (z_cons (z_var 0) (z_cons (z_var 1) (z_cons (z_var 4) (z_nil)))))))
      (z_seq (z_expr (z_append (z_var 3) (z_var 6) rfl))
      (z_one1 (z_set 4 sc_best_rows.nd (z_ix rfl (z_var 6) (z_int)))))))
      (z_frz 3 (z_one1 (z_ret (z_var 3))))))
theorem c_worst_time (T : Txt P w K mg base ε) (D : DefZ K mg "worst_time" s_worst_time ["work", "cost", "falls"]) (c_check_game : CalZ P w K mg base ⟨K, ε⟩ 5 "check_game" ["work", "cost", "falls"] sem_check_game) (c_best_rows : CalZ P w K mg base ⟨K, ε⟩ 5 "best_rows" ["work", "cost", "falls"] sem_best_rows) : CalZ P w K mg base ⟨K, ε⟩ 6 "worst_time" ["work", "cost", "falls"] sem_worst_time := by
  refine z_def (k := 5) D sc_worst_time fun f cdv A outer s H E F0 ρ0 hr => ?_
  exact z_seq (z_expr (z_callC .P c_check_game hr (takes_of rfl rfl rfl rfl) (by exact (z_cons (z_var 0) (z_cons (z_var 1) (z_cons (z_var 2) (z_nil)))))))
      (z_one1 (z_ret (z_ix rfl (z_ix rfl (z_ix rfl (z_callC .P c_best_rows hr (takes_of rfl rfl rfl rfl) (by exact (z_cons (z_var 0) (z_cons (z_var 1) (z_cons (z_var 2) (z_nil)))))) (z_var 2)) (z_int)) (z_var 0))))
theorem c_first_part (T : Txt P w K mg base ε) (D : DefZ K mg "first_part" s_first_part ["work", "cost", "falls"]) (c_check_game : CalZ P w K mg base ⟨K, ε⟩ 5 "check_game" ["work", "cost", "falls"] sem_check_game) (c_best_rows : CalZ P w K mg base ⟨K, ε⟩ 5 "best_rows" ["work", "cost", "falls"] sem_best_rows) : CalZ P w K mg base ⟨K, ε⟩ 6 "first_part" ["work", "cost", "falls"] sem_first_part := by
  refine z_def (k := 5) D sc_first_part fun f cdv A outer s H E F0 ρ0 hr => ?_
  exact z_seq (z_expr (z_callC .P c_check_game hr (takes_of rfl rfl rfl rfl) (by exact (z_cons (z_var 0) (z_cons (z_var 1) (z_cons (z_var 2) (z_nil)))))))
      (z_one1 (z_ret (z_ix rfl (z_ix rfl (z_ix rfl (z_callC .P c_best_rows hr (takes_of rfl rfl rfl rfl) (by exact (z_cons (z_var 0) (z_cons (z_var 1) (z_cons (z_var 2) (z_nil)))))) (z_var 2)) (z_int)) (z_var 0))))
theorem c_part_table (T : Txt P w K mg base ε) (D : DefZ K mg "part_table" s_part_table ["work", "cost", "falls"]) (c_check_game : CalZ P w K mg base ⟨K, ε⟩ 5 "check_game" ["work", "cost", "falls"] sem_check_game) (c_best_rows : CalZ P w K mg base ⟨K, ε⟩ 5 "best_rows" ["work", "cost", "falls"] sem_best_rows) : CalZ P w K mg base ⟨K, ε⟩ 6 "part_table" ["work", "cost", "falls"] sem_part_table := by
  refine z_def (k := 5) D sc_part_table fun f cdv A outer s H E F0 ρ0 hr => ?_
  exact z_seq (z_expr (z_callC .P c_check_game hr (takes_of rfl rfl rfl rfl) (by exact (z_cons (z_var 0) (z_cons (z_var 1) (z_cons (z_var 2) (z_nil)))))))
      (z_one1 (z_ret (z_tupOf rfl T.b_tuple (z_lc false sc_part_table.nd (z_iSeq rfl (z_callC .P c_best_rows hr (takes_of rfl rfl rfl rfl) (by exact (z_cons (z_var 0) (z_cons (z_var 1) (z_cons (z_var 2) (z_nil))))))) (blkOk_by (own := [("_", 3), ("parts", 4)]) (by kernel_rfl)) (fun _ _ _ _ _ _ _ _ => (z_gT rfl (h := z_gsc (z_gN 3 sc_part_table.nd) (z_gsc (z_gN 4 sc_part_table.nd) (z_gs0))))) (fun _ _ _ _ _ => z_pts0) (fun _ _ _ _ _ _ _ _ => (z_tupOf rfl T.b_tuple (z_var 4)))))))
theorem c__law_table (T : Txt P w K mg base ε) (D : DefZ K mg "_law_table" s__law_table ["work", "cost", "falls", "parts"]) (c_part_table : CalZ P w K mg base ⟨K, ε⟩ 6 "part_table" ["work", "cost", "falls"] sem_part_table) (c__law_told : CalZ P w K mg base ⟨K, ε⟩ 3 "_law_told" ["told", "due"] sem__law_told) : CalZ P w K mg base ⟨K, ε⟩ 7 "_law_table" ["work", "cost", "falls", "parts"] sem__law_table := by
  refine z_def (k := 6) D sc__law_table fun f cdv A outer s H E F0 ρ0 hr => ?_
  exact z_seq (z_set 4 sc__law_table.nd (z_callC .P c_part_table hr (takes_of rfl rfl rfl rfl) (by exact (z_cons (z_var 0) (z_cons (z_var 1) (z_cons (z_var 2) (z_nil)))))))
      (z_seq (z_if (z_pw (z_or (z_notT (z_truT rfl (z_is1 rfl T.b_isinstance (z_var 4) (pe_ty T.b_tuple boot_tuple)))) (z_or1 (z_neT rfl hr (z_len rfl T.b_len (z_var 4)) (z_add rfl (z_var 2) (z_int))))))
      (z_one1 (z_ret (z_bl)))
      (z_snil))
      (z_seq (z_for (passes_of (by rfl)) (z_rng1 T.b_range (z_add rfl (z_var 2) (z_int))) (z_gN 5 sc__law_table.nd)
      (z_seq (z_if (z_pw (z_or (z_notT (z_truT rfl (z_is1 rfl T.b_isinstance (z_ix rfl (z_var 4) (z_var 5)) (pe_ty T.b_tuple boot_tuple)))) (z_or1 (z_neT rfl hr (z_len rfl T.b_len (z_ix rfl (z_var 4) (z_var 5))) (z_add rfl (z_var 0) (z_int))))))
      (z_one1 (z_ret (z_bl)))
      (z_snil))
      (z_one1 (z_for (passes_of (by rfl)) (z_rng1 T.b_range (z_add rfl (z_var 0) (z_int))) (z_gN 6 sc__law_table.nd)
      (z_one1 (z_if (z_notT (z_truT rfl (z_callC .P c__law_told hr (takes_of rfl rfl rfl rfl) (by exact (z_cons (z_ix rfl (z_ix rfl (z_var 4) (z_var 5)) (z_var 6)) (z_cons (z_ix rfl (z_ix rfl (z_var 3) (z_var 5)) (z_var 6)) (z_nil)))))))
      (z_one1 (z_ret (z_bl)))
      (z_snil)))))))
      (z_one1 (z_ret (z_bl)))))
theorem c__law_game (T : Txt P w K mg base ε) (D : DefZ K mg "_law_game" s__law_game ["hand", "work", "cost", "falls", "whole"]) (c__law_least : CalZ P w K mg base ⟨K, ε⟩ 4 "_law_least" ["work", "cost", "falls", "whole"] sem__law_least) (c__law_draw : CalZ P w K mg base ⟨K, ε⟩ 3 "_law_draw" ["hand", "many"] sem__law_draw) (c__law_told : CalZ P w K mg base ⟨K, ε⟩ 3 "_law_told" ["told", "due"] sem__law_told) (c_worst_time : CalZ P w K mg base ⟨K, ε⟩ 6 "worst_time" ["work", "cost", "falls"] sem_worst_time) (c_first_part : CalZ P w K mg base ⟨K, ε⟩ 6 "first_part" ["work", "cost", "falls"] sem_first_part) (c__law_table : CalZ P w K mg base ⟨K, ε⟩ 7 "_law_table" ["work", "cost", "falls", "parts"] sem__law_table) : CalZ P w K mg base ⟨K, ε⟩ 8 "_law_game" ["hand", "work", "cost", "falls", "whole"] sem__law_game := by
  refine z_def (k := 7) D sc__law_game fun f cdv A outer s H E F0 ρ0 hr => ?_
  exact z_seq (z_set 5 sc__law_game.nd (z_callC .P c__law_least hr (takes_of rfl rfl rfl rfl) (by exact (z_cons (z_var 1) (z_cons (z_var 2) (z_cons (z_var 3) (z_cons (z_var 4) (z_nil))))))))
      (z_seq (z_set 6 sc__law_game.nd (z_callC .L c__law_draw hr (takes_of rfl rfl rfl rfl) (by exact (z_cons (z_var 0) (z_cons (z_int) (z_nil))))))
      (z_seq (z_for (passes_of (by rfl)) (z_rng1 T.b_range (z_int)) (z_gN 7 sc__law_game.nd)
      (z_seq (z_set 8 sc__law_game.nd (z_mod (z_add rfl (z_var 6) (z_var 7)) (z_int)))
      (z_seq (z_if (z_pw (z_and (z_eqT rfl hr (z_var 8) (z_int)) (z_and1 (z_notT (z_truT rfl (z_callC .P c__law_told hr (takes_of rfl rfl rfl rfl) (by exact (z_cons (z_callC .P c_worst_time hr (takes_of rfl rfl rfl rfl) (by exact (z_cons (z_var 1) (z_cons (z_var 2) (z_cons (z_var 3) (z_nil)))))) (z_cons (z_ix rfl (z_ix rfl (z_ix rfl (z_var 5) (z_int)) (z_var 3)) (z_var 1)) (z_nil))))))))))
      (z_one1 (z_ret (z_bl)))
      (z_snil))
      (z_seq (z_if (z_pw (z_and (z_eqT rfl hr (z_var 8) (z_int)) (z_and1 (z_notT (z_truT rfl (z_callC .P c__law_told hr (takes_of rfl rfl rfl rfl) (by exact (z_cons (z_callC .P c_first_part hr (takes_of rfl rfl rfl rfl) (by exact (z_cons (z_var 1) (z_cons (z_var 2) (z_cons (z_var 3) (z_nil)))))) (z_cons (z_ix rfl (z_ix rfl (z_ix rfl (z_var 5) (z_int)) (z_var 3)) (z_var 1)) (z_nil))))))))))
      (z_one1 (z_ret (z_bl)))
      (z_snil))
      (z_one1 (z_if (z_pw (z_and (z_eqT rfl hr (z_var 8) (z_int)) (z_and1 (z_notT (z_truT rfl (z_callC .P c__law_table hr (takes_of rfl rfl rfl rfl) (by exact (z_cons (z_var 1) (z_cons (z_var 2) (z_cons (z_var 3) (z_cons (z_ix rfl (z_var 5) (z_int)) (z_nil))))))))))))
      (z_one1 (z_ret (z_bl)))
      (z_snil)))))))
      (z_seq (z_set 9 sc__law_game.nd (z_callC .L c__law_draw hr (takes_of rfl rfl rfl rfl) (by exact (z_cons (z_var 0) (z_cons (z_add rfl (z_var 1) (z_int)) (z_nil))))))
      (z_seq (z_set 10 sc__law_game.nd (z_callC .L c__law_draw hr (takes_of rfl rfl rfl rfl) (by exact (z_cons (z_var 0) (z_cons (z_add rfl (z_var 3) (z_int)) (z_nil))))))
      (z_seq (z_if (z_notT (z_truT rfl (z_callC .P c__law_told hr (takes_of rfl rfl rfl rfl) (by exact (z_cons (z_callC .P c_first_part hr (takes_of rfl rfl rfl rfl) (by exact (z_cons (z_var 9) (z_cons (z_var 2) (z_cons (z_var 10) (z_nil)))))) (z_cons (z_ix rfl (z_ix rfl (z_ix rfl (z_var 5) (z_int)) (z_var 10)) (z_var 9)) (z_nil)))))))
      (z_one1 (z_ret (z_bl)))
      (z_snil))
      (z_one1 (z_ret (z_callC .P c__law_told hr (takes_of rfl rfl rfl rfl) (by exact (z_cons (z_callC .P c_worst_time hr (takes_of rfl rfl rfl rfl) (by exact (z_cons (z_var 9) (z_cons (z_var 2) (z_cons (z_var 10) (z_nil)))))) (z_cons (z_ix rfl (z_ix rfl (z_ix rfl (z_var 5) (z_int)) (z_var 10)) (z_var 9)) (z_nil))))))))))))
theorem c__law_bounds (T : Txt P w K mg base ε) (D : DefZ K mg "_law_bounds" s__law_bounds ["hand"]) (c__law_draw : CalZ P w K mg base ⟨K, ε⟩ 3 "_law_draw" ["hand", "many"] sem__law_draw) (c__law_told : CalZ P w K mg base ⟨K, ε⟩ 3 "_law_told" ["told", "due"] sem__law_told) (c_worst_time : CalZ P w K mg base ⟨K, ε⟩ 6 "worst_time" ["work", "cost", "falls"] sem_worst_time) (c_first_part : CalZ P w K mg base ⟨K, ε⟩ 6 "first_part" ["work", "cost", "falls"] sem_first_part) : CalZ P w K mg base ⟨K, ε⟩ 7 "_law_bounds" ["hand"] sem__law_bounds := by
  refine z_def (k := 6) D sc__law_bounds fun f cdv A outer s H E F0 ρ0 hr => ?_
  exact z_seq (z_set 1 sc__law_bounds.nd (z_callC .L c__law_draw hr (takes_of rfl rfl rfl rfl) (by exact (z_cons (z_var 0) (z_cons (z_int) (z_nil))))))
      (z_seq (z_set 2 sc__law_bounds.nd (z_callC .L c__law_draw hr (takes_of rfl rfl rfl rfl) (by exact (z_cons (z_var 0) (z_cons (z_int) (z_nil))))))
      (z_seq (z_set 3 sc__law_bounds.nd (z_callC .L c__law_draw hr (takes_of rfl rfl rfl rfl) (by exact (z_cons (z_var 0) (z_cons (z_int) (z_nil))))))
      (z_seq (z_if (z_pw (z_or (z_notT (z_truT rfl (z_callC .P c__law_told hr (takes_of rfl rfl rfl rfl) (by exact (z_cons (z_callC .P c_worst_time hr (takes_of rfl rfl rfl rfl) (by exact (z_cons (z_var 1) (z_cons (z_var 2) (z_cons (z_int) (z_nil)))))) (z_cons (z_var 1) (z_nil))))))) (z_or1 (z_notT (z_truT rfl (z_callC .P c__law_told hr (takes_of rfl rfl rfl rfl) (by exact (z_cons (z_callC .P c_worst_time hr (takes_of rfl rfl rfl rfl) (by exact (z_cons (z_int) (z_cons (z_int) (z_cons (z_int) (z_nil)))))) (z_cons (z_int) (z_nil))))))))))
      (z_one1 (z_ret (z_bl)))
      (z_snil))
      (z_seq (z_if (z_pw (z_or (z_notT (z_truT rfl (z_callC .P c__law_told hr (takes_of rfl rfl rfl rfl) (by exact (z_cons (z_callC .P c_worst_time hr (takes_of rfl rfl rfl rfl) (by exact (z_cons (z_int) (z_cons (z_int) (z_cons (z_int) (z_nil)))))) (z_cons (z_int) (z_nil))))))) (z_or1 (z_notT (z_truT rfl (z_callC .P c__law_told hr (takes_of rfl rfl rfl rfl) (by exact (z_cons (z_callC .P c_worst_time hr (takes_of rfl rfl rfl rfl) (by exact (z_cons (z_int) (z_cons (z_var 2) (z_cons (z_var 3) (z_nil)))))) (z_cons (z_int) (z_nil))))))))))
      (z_one1 (z_ret (z_bl)))
      (z_snil))
      (z_seq (z_if (z_pw (z_or (z_notT (z_truT rfl (z_callC .P c__law_told hr (takes_of rfl rfl rfl rfl) (by exact (z_cons (z_callC .P c_first_part hr (takes_of rfl rfl rfl rfl) (by exact (z_cons (z_int) (z_cons (z_var 2) (z_cons (z_var 3) (z_nil)))))) (z_cons (z_int) (z_nil))))))) (z_or1 (z_notT (z_truT rfl (z_callC .P c__law_told hr (takes_of rfl rfl rfl rfl) (by exact (z_cons (z_callC .P c_first_part hr (takes_of rfl rfl rfl rfl) (by exact (z_cons (z_int) (z_cons (z_var 2) (z_cons (z_var 3) (z_nil)))))) (z_cons (z_int) (z_nil))))))))))
      (z_one1 (z_ret (z_bl)))
      (z_snil))
      (z_seq (z_set 4 sc__law_bounds.nd (z_callC .L c__law_draw hr (takes_of rfl rfl rfl rfl) (by exact (z_cons (z_var 0) (z_cons (z_int) (z_nil))))))
      (z_seq (z_if (z_eqT rfl hr (z_var 4) (z_int))
      (z_one1 (z_ret (z_callC .P c__law_told hr (takes_of rfl rfl rfl rfl) (by exact (z_cons (z_callC .P c_worst_time hr (takes_of rfl rfl rfl rfl) (by exact (z_cons (z_int) (z_cons (z_int) (z_cons (z_var 3) (z_nil)))))) (z_cons (z_int) (z_nil)))))))
      (z_snil))
      (z_seq (z_if (z_eqT rfl hr (z_var 4) (z_int))
      (z_one1 (z_ret (z_callC .P c__law_told hr (takes_of rfl rfl rfl rfl) (by exact (z_cons (z_callC .P c_first_part hr (takes_of rfl rfl rfl rfl) (by exact (z_cons (z_int) (z_cons (z_int) (z_cons (z_int) (z_nil)))))) (z_cons (z_int) (z_nil)))))))
      (z_snil))
      (z_seq (z_if (z_eqT rfl hr (z_var 4) (z_int))
      (z_one1 (z_ret (z_callC .P c__law_told hr (takes_of rfl rfl rfl rfl) (by exact (z_cons (z_callC .P c_first_part hr (takes_of rfl rfl rfl rfl) (by exact (z_cons (z_int) (z_cons (z_max2 T.b_max (z_int) (z_var 2)) (z_cons (z_int) (z_nil)))))) (z_cons (z_int) (z_nil)))))))
      (z_snil))
      (z_one1 (z_ret (z_callC .P c__law_told hr (takes_of rfl rfl rfl rfl) (by exact (z_cons (z_callC .P c_worst_time hr (takes_of rfl rfl rfl rfl) (by exact (z_cons (z_var 1) (z_cons (z_int) (z_cons (z_var 3) (z_nil)))))) (z_cons (z_var 1) (z_nil))))))))))))))))
theorem c__law_call (T : Txt P w K mg base ε) (D : DefZ K mg "_law_call" s__law_call ["ask", "numbers"]) (c_part_table : CalZ P w K mg base ⟨K, ε⟩ 6 "part_table" ["work", "cost", "falls"] sem_part_table) (c_worst_time : CalZ P w K mg base ⟨K, ε⟩ 6 "worst_time" ["work", "cost", "falls"] sem_worst_time) (c_first_part : CalZ P w K mg base ⟨K, ε⟩ 6 "first_part" ["work", "cost", "falls"] sem_first_part) : CalZ P w K mg base ⟨K, ε⟩ 7 "_law_call" ["ask", "numbers"] sem__law_call := by
  refine z_def (k := 6) D sc__law_call fun f cdv A outer s H E F0 ρ0 hr => ?_
  exact z_seq (z_if (z_eqT rfl hr (z_var 0) (z_int))
      (z_one1 (z_ret (z_callC .P c_worst_time hr (takes_of rfl rfl rfl rfl) (by exact (z_cons (z_ix rfl (z_var 1) (z_int)) (z_cons (z_ix rfl (z_var 1) (z_int)) (z_cons (z_ix rfl (z_var 1) (z_int)) (z_nil))))))))
      (z_snil))
      (z_seq (z_if (z_eqT rfl hr (z_var 0) (z_int))
      (z_one1 (z_ret (z_callC .P c_first_part hr (takes_of rfl rfl rfl rfl) (by exact (z_cons (z_ix rfl (z_var 1) (z_int)) (z_cons (z_ix rfl (z_var 1) (z_int)) (z_cons (z_ix rfl (z_var 1) (z_int)) (z_nil))))))))
      (z_snil))
      (z_one1 (z_ret (z_callC .P c_part_table hr (takes_of rfl rfl rfl rfl) (by exact (z_cons (z_ix rfl (z_var 1) (z_int)) (z_cons (z_ix rfl (z_var 1) (z_int)) (z_cons (z_ix rfl (z_var 1) (z_int)) (z_nil)))))))))
theorem c__law_same (T : Txt P w K mg base ε) (D : DefZ K mg "_law_same" s__law_same ["told", "due"]) (c__law_told : CalZ P w K mg base ⟨K, ε⟩ 3 "_law_told" ["told", "due"] sem__law_told) : CalZ P w K mg base ⟨K, ε⟩ 4 "_law_same" ["told", "due"] sem__law_same := by
  refine z_def (k := 3) D sc__law_same fun f cdv A outer s H E F0 ρ0 hr => ?_
  exact z_seq (z_if (z_pw (z_or (z_truT rfl (z_is1 rfl T.b_isinstance (z_var 1) (pe_ty T.b_list boot_list))) (z_or1 (z_truT rfl (z_is1 rfl T.b_isinstance (z_var 1) (pe_ty T.b_tuple boot_tuple))))))
      (z_seq (z_if (z_pw (z_and (z_truT rfl (z_is1 rfl T.b_isinstance (z_var 1) (pe_ty T.b_list boot_list))) (z_and1 (z_notT (z_truT rfl (z_is1 rfl T.b_isinstance (z_var 0) (pe_ty T.b_list boot_list)))))))
      (z_one1 (z_ret (z_bl)))
      (z_snil))
      (z_seq (z_if (z_pw (z_and (z_truT rfl (z_is1 rfl T.b_isinstance (z_var 1) (pe_ty T.b_tuple boot_tuple))) (z_and1 (z_notT (z_truT rfl (z_is1 rfl T.b_isinstance (z_var 0) (pe_ty T.b_tuple boot_tuple)))))))
      (z_one1 (z_ret (z_bl)))
      (z_snil))
      (z_one1 (z_ret (z_andV rfl (z_eqV rfl hr (z_len rfl T.b_len (z_var 0)) (z_len rfl T.b_len (z_var 1))) (z_one (z_callC .P c__law_told hr (takes_of rfl rfl rfl rfl) (by exact (z_cons (z_ix rfl (z_var 0) (z_int)) (z_cons (z_ix rfl (z_var 1) (z_int)) (z_nil)))))))))))
      (z_snil))
      (z_seq (z_if (z_isNT (z_var 1))
      (z_one1 (z_ret (z_isNV (z_var 0))))
      (z_snil))
      (z_seq (z_if (z_truT rfl (z_is1 rfl T.b_isinstance (z_var 1) (pe_ty T.b_bool boot_bool)))
      (z_one1 (z_ret (z_andV rfl (z_is1 rfl T.b_isinstance (z_var 0) (pe_ty T.b_bool boot_bool)) (z_one (z_eqV rfl hr (z_var 0) (z_var 1))))))
      (z_snil))
      (z_seq (z_if (z_truT rfl (z_is1 rfl T.b_isinstance (z_var 1) (pe_ty T.b_str boot_str)))
      (z_one1 (z_ret (z_andV rfl (z_is1 rfl T.b_isinstance (z_var 0) (pe_ty T.b_str boot_str)) (z_one (z_eqV rfl hr (z_var 0) (z_var 1))))))
      (z_snil))
      (z_one1 (z_ret (z_callC .P c__law_told hr (takes_of rfl rfl rfl rfl) (by exact (z_cons (z_var 0) (z_cons (z_var 1) (z_nil))))))))))
theorem c__law_refused (T : Txt P w K mg base ε) (D : DefZ K mg "_law_refused" s__law_refused ["hand", "ask"]) (c__law_draw : CalZ P w K mg base ⟨K, ε⟩ 3 "_law_draw" ["hand", "many"] sem__law_draw) (c__law_call : CalZ P w K mg base ⟨K, ε⟩ 7 "_law_call" ["ask", "numbers"] sem__law_call) (c__law_same : CalZ P w K mg base ⟨K, ε⟩ 4 "_law_same" ["told", "due"] sem__law_same) (q__law_same : CalQ P w K mg base ⟨K, ε⟩ 4 "_law_same" ["told", "due"] sem__law_same) : CalZ P w K mg base ⟨K, ε⟩ 8 "_law_refused" ["hand", "ask"] sem__law_refused := by
  refine z_def (k := 7) D sc__law_refused fun f cdv A outer s H E F0 ρ0 hr => ?_
  exact z_seq (z_set 2 sc__law_refused.nd (z_lst true (z_cons (z_callC .L c__law_draw hr (takes_of rfl rfl rfl rfl) (by exact (z_cons (z_var 0) (z_cons (z_int) (z_nil))))) (z_cons (z_callC .L c__law_draw hr (takes_of rfl rfl rfl rfl) (by exact (z_cons (z_var 0) (z_cons (z_int) (z_nil))))) (z_cons (z_callC .L c__law_draw hr (takes_of rfl rfl rfl rfl) (by exact (z_cons (z_var 0) (z_cons (z_int) (z_nil))))) (z_nil))))))
      (z_seq (z_set 3 sc__law_refused.nd (z_callC .L c__law_draw hr (takes_of rfl rfl rfl rfl) (by exact (z_cons (z_var 0) (z_cons (z_int) (z_nil))))))
      (z_seq (z_set 4 sc__law_refused.nd (z_ix rfl (z_lst false (z_cons (z_ix rfl (z_lst false (z_cons (z_int) (z_cons (z_int) (z_cons (z_int) (z_nil))))) (z_var 3)) (z_cons (z_sub (z_int) (z_int)) (z_cons (z_non) (z_cons (z_bl) (z_cons (z_bl) (z_cons (z_str) (z_cons (z_tup (z_cons (z_int) (z_nil))) (z_cons (z_lst false (z_cons (z_int) (z_nil))) (z_cons (z_pow (z_int) (z_int)) (z_nil))))))))))) (z_callC .L c__law_draw hr (takes_of rfl rfl rfl rfl) (by exact (z_cons (z_var 0) (z_cons (z_int) (z_nil)))))))
      (z_seq (z_setIx (z_var 4) (z_var 2) (z_var 3))
      (z_seq (z_if (z_pw (z_and (z_ltT rfl (z_var 3) (z_int)) (z_and1 (z_eqT rfl hr (z_callC .L c__law_draw hr (takes_of rfl rfl rfl rfl) (by exact (z_cons (z_var 0) (z_cons (z_int) (z_nil))))) (z_int)))))
      (z_one1 (z_setIx (z_str) (z_var 2) (z_add rfl (z_add rfl (z_var 3) (z_int)) (z_callC .L c__law_draw hr (takes_of rfl rfl rfl rfl) (by exact (z_cons (z_var 0) (z_cons (z_sub (z_int) (z_var 3)) (z_nil))))))))
      (z_snil))
      (z_seq (z_try (fun W' pn xe tk' hp' => z_frz 2 (z_one1 (z_expr (z_callC .P c__law_call hr tk' (by exact (z_cons (z_var 1) (z_cons (z_var 2) (z_nil))))))))
      (by exact (HdsY.consN (i := 5) ⟨rfl, by decide, Or.inl T.g_InvalidNumber⟩ (T.xt.mt "InvalidNumber") sc__law_refused.nd rfl rfl (fun a oe pn n fs dd vs H0 F0 ρ0 hz hf hd hrf => z_gdS fun hn => z_seq (z_set 6 sc__law_refused.nd (z_andV rfl (z_exI (m := "StageError") T.xt T.b_isinstance hz hf hd (pv 5) (pe_glob rfl T.g_StageError rfl)) (z_andV rfl (z_exV T.xt T.b_isinstance T.b_ValueError hz hf hd (pv 5)) (z_one (z_notV rfl (z_exI (m := "InvalidRows") T.xt T.b_isinstance hz hf hd (pv 5) (pe_glob rfl T.g_InvalidRows rfl)))))))
      (z_one1 (z_ret (z_andV rfl (z_var 6) (z_one (z_callQ .P q__law_same (room_suite hr) rfl (by exact (z_cons (z_exF (T.xt.cl n (mem_of hn)) (T.nf n (mem_of hn) "number" (by decide)) hz hf hd hrf (pv 5)) (z_cons (z_var 4) (z_nil))))))))))
      (HdsY.nil))) ((takes_of rfl rfl rfl rfl)))
      (z_one1 (z_ret (z_bl))))))))
theorem ok_law {fa : Addr} {fd : FuncData} (T : Txt P w K mg base ε) (F : Fun K "law" "law" s_law fa fd) (c__law_hand : CalZ P w K mg base ⟨K, ε⟩ 3 "_law_hand" ["script"] sem__law_hand) (c__law_draw : CalZ P w K mg base ⟨K, ε⟩ 3 "_law_draw" ["hand", "many"] sem__law_draw) (c__law_game : CalZ P w K mg base ⟨K, ε⟩ 8 "_law_game" ["hand", "work", "cost", "falls", "whole"] sem__law_game) (c__law_bounds : CalZ P w K mg base ⟨K, ε⟩ 7 "_law_bounds" ["hand"] sem__law_bounds) (c__law_refused : CalZ P w K mg base ⟨K, ε⟩ 8 "_law_refused" ["hand", "ask"] sem__law_refused) : FnOk P w K mg base (L2.CX P w) 9 fa fd ["script"] (FnZ ⟨K, ε⟩ sem_law) := by
  refine z_fn (k := 8) F sc_law fun cdv A outer s H E F0 ρ0 hr => ?_
  exact z_seq (z_set 1 sc_law.nd (z_callC .P c__law_hand hr (takes_of rfl rfl rfl rfl) (by exact (z_cons (z_var 0) (z_nil)))))
      (z_seq (z_set 2 sc_law.nd (z_callC .L c__law_draw hr (takes_of rfl rfl rfl rfl) (by exact (z_cons (z_var 1) (z_cons (z_int) (z_nil))))))
      (z_seq (z_set 3 sc_law.nd (z_callC .L c__law_draw hr (takes_of rfl rfl rfl rfl) (by exact (z_cons (z_var 1) (z_cons (z_int) (z_nil))))))
      (z_seq (z_set 4 sc_law.nd (z_callC .L c__law_draw hr (takes_of rfl rfl rfl rfl) (by exact (z_cons (z_var 1) (z_cons (z_int) (z_nil))))))
      (z_seq (z_if (z_notT (z_truT rfl (z_callC .L c__law_game hr (takes_of rfl rfl rfl rfl) (by exact (z_cons (z_var 1) (z_cons (z_var 2) (z_cons (z_var 3) (z_cons (z_var 4) (z_cons (z_bl) (z_nil))))))))))
      (z_one1 (z_ret (z_bl)))
      (z_snil))
      (z_seq (z_set 5 sc_law.nd (z_add rfl (z_int) (z_callC .L c__law_draw hr (takes_of rfl rfl rfl rfl) (by exact (z_cons (z_var 1) (z_cons (z_int) (z_nil)))))))
      (z_seq (z_set 6 sc_law.nd (z_callC .L c__law_draw hr (takes_of rfl rfl rfl rfl) (by exact (z_cons (z_var 1) (z_cons (z_int) (z_nil))))))
      (z_seq (z_if (z_eqT rfl hr (z_callC .L c__law_draw hr (takes_of rfl rfl rfl rfl) (by exact (z_cons (z_var 1) (z_cons (z_int) (z_nil))))) (z_int))
      (z_seq (z_set 5 sc_law.nd (z_add rfl (z_int) (z_callC .L c__law_draw hr (takes_of rfl rfl rfl rfl) (by exact (z_cons (z_var 1) (z_cons (z_int) (z_nil)))))))
      (z_one1 (z_set 6 sc_law.nd (z_callC .L c__law_draw hr (takes_of rfl rfl rfl rfl) (by exact (z_cons (z_var 1) (z_cons (z_int) (z_nil))))))))
      (z_snil))
      (z_seq (z_if (z_notT (z_truT rfl (z_callC .L c__law_game hr (takes_of rfl rfl rfl rfl) (by exact (z_cons (z_var 1) (z_cons (z_var 5) (z_cons (z_callC .L c__law_draw hr (takes_of rfl rfl rfl rfl) (by exact (z_cons (z_var 1) (z_cons (z_int) (z_nil))))) (z_cons (z_var 6) (z_cons (z_bl) (z_nil))))))))))
      (z_one1 (z_ret (z_bl)))
      (z_snil))
      (z_seq (z_for (passes_of (by rfl)) (z_rng1 T.b_range (z_int)) (z_gN 7 sc_law.nd)
      (z_one1 (z_if (z_notT (z_truT rfl (z_callC .L c__law_refused hr (takes_of rfl rfl rfl rfl) (by exact (z_cons (z_var 1) (z_cons (z_var 7) (z_nil)))))))
      (z_one1 (z_ret (z_bl)))
      (z_snil))))
      (z_seq (z_if (z_notT (z_truT rfl (z_callC .L c__law_bounds hr (takes_of rfl rfl rfl rfl) (by exact (z_cons (z_var 1) (z_nil))))))
      (z_one1 (z_ret (z_bl)))
      (z_snil))
      (z_one1 (z_ret (z_callC .L c__law_game hr (takes_of rfl rfl rfl rfl) (by exact (z_cons (z_var 1) (z_cons (z_var 2) (z_cons (z_var 3) (z_cons (z_var 4) (z_cons (z_bl) (z_nil))))))))))))))))))))
end
end ZL.K78

namespace ZL.K78
open PySem PySem.Spec PyProof.Rows L2
/-! ### what the program computes -/
def wmax (fw : Option (List Int)) (n : Nat) (e a : Int) : Int := match fw with
  | none => a
  | some f => max a (e - 1 + f.getD n 0)
def endP (c : Int) (n p : Nat) : Int := if p < n then (p : Int) + c else p
def T (c : Int) (ts : List Int) (fw : Option (List Int)) (n p : Nat) : Int := wmax fw n (endP c n p) (endP c n p + ts.getD (n - p) 0)
def fwD : Option (List Int) → D
  | none => .none
  | some f => .list (f.map .int)
def fwOk (fw : Option (List Int)) (n : Nat) : Prop := ∀ f, fw = some f → n < f.length
theorem top_eq {c : Int} {ts : List Int} {fw : Option (List Int)} {n p : Nat} (h1 : 1 ≤ p) (h2 : p ≤ n) (h3 : n - p < ts.length) (hf : fwOk fw n) :
    Gives sem_time_of_part [.d (.int p), .d (.int n), .d (.int c), .d (.list (ts.map .int)), .d (fwD fw)] (.int (T c ts fw n p)) := by
  refine gives_of ?_
  unfold sem_time_of_part b_time_of_part
  have e : atI (ts.map PyData.int) ((n : Int) - p) = some (.int (ts.getD (n - p) 0)) := by
    rw [atI_ge (by omega) (by simp; omega), show ((n : Int) - p).toNat = n - p by omega]
    simp [h3]
  cases fw with
  | none =>
    simp [fwD, T, wmax, endP]
    refine ⟨fun h => ?_, fun h => ?_⟩
    · rw [atI_gen (n := n - p) (z := ts.getD (n - p) 0) (by omega) (by simp [h3])]; simp [h]
    · rw [atI_gen (n := n - p) (z := ts.getD (n - p) 0) (by omega) (by simp [h3])]; simp [show ¬ p < n by omega]
  | some f =>
    have hn := hf f rfl
    simp [fwD, T, wmax, endP]
    refine ⟨fun h => ?_, fun h => ?_⟩
    · rw [atI_gen (n := n - p) (z := ts.getD (n - p) 0) (by omega) (by simp [h3])]
      rw [atI_gen (n := n) (z := f.getD n 0) (by omega) (by simp [hn])]
      simp [h]
    · rw [atI_gen (n := n - p) (z := ts.getD (n - p) 0) (by omega) (by simp [h3])]
      rw [atI_gen (n := n) (z := f.getD n 0) (by omega) (by simp [hn])]
      simp [show ¬ p < n by omega]
/-- the best of the first k parts -/
def bst (c : Int) (ts : List Int) (fw : Option (List Int)) (n : Nat) : Nat → Option (Int × Int)
  | 0 => none
  | k + 1 => match bst c ts fw n k with
    | none => some (T c ts fw n (k + 1), ((k + 1 : Nat) : Int))
    | some (b, q) => if T c ts fw n (k + 1) < b then some (T c ts fw n (k + 1), ((k + 1 : Nat) : Int)) else some (b, q)
theorem bst_some (c : Int) (ts : List Int) (fw : Option (List Int)) (n : Nat) (k : Nat) : ∃ b q, bst c ts fw n (k + 1) = some (b, q) := by
  unfold bst
  split
  · exact ⟨_, _, rfl⟩
  · split
    · exact ⟨_, _, rfl⟩
    · exact ⟨_, _, rfl⟩
def bD : Option (Int × Int) → D
  | none => .none
  | some (b, q) => .tuple [.int b, .int q]
def row (c : Int) (fw : Option (List Int)) : Nat → List Int × List Int
  | 0 => ([0], [0])
  | n + 1 => match bst c (row c fw n).1 fw (n + 1) (n + 1) with
    | none => row c fw n
    | some (b, q) => ((row c fw n).1 ++ [b], (row c fw n).2 ++ [q])
theorem row_len (c : Int) (fw : Option (List Int)) : ∀ n, (row c fw n).1.length = n + 1 ∧ (row c fw n).2.length = n + 1
  | 0 => ⟨rfl, rfl⟩
  | n + 1 => by
    obtain ⟨b, q, e⟩ := bst_some c (row c fw n).1 fw (n + 1) n
    have ih := row_len c fw n
    rw [row, e]
    simp [ih]
def rowD (r : List Int × List Int) : D := .tuple [.list (r.1.map .int), .list (r.2.map .int)]
theorem best_row_eq {c : Int} {fw : Option (List Int)} {w : Nat} (hw : w ≤ 60) (hf : fwOk fw w) :
    Gives sem_best_row [.d (.int w), .d (.int c), .d (fwD fw)] (rowD (row c fw w)) := by
  refine gives_of ?_
  unfold sem_best_row b_best_row
  simp
  refine ⟨⟨okR_of (by omega) (by omega), okR_of (by omega) (by omega)⟩, for_rngN w (by omega) (fun k Γ μ => ∃ w5 w6 w7 w8, Γ = [some (.d (.int w)), some (.d (.int c)), some (.d (fwD fw)), some (.ref 0), some (.ref 1), w5, w6, w7, w8] ∧ μ = [iA (row c fw k).1, iA (row c fw k).2]) ?_ ?_ ?_⟩
  · exact ⟨_, _, _, _, rfl, by simp [row, iA]⟩
  · rintro k Γ μ hk ⟨w5, w6, w7, w8, rfl, rfl⟩
    refine ⟨_, rfl, ?_⟩
    obtain ⟨l1, l2⟩ := row_len c fw k
    simp
    refine ⟨⟨okR_of (by omega) (by omega), okR_of (by omega) (by omega)⟩, for_rngN (k + 1) (by omega) (fun j Γ μ => ∃ w7 w8, Γ = [some (.d (.int w)), some (.d (.int c)), some (.d (fwD fw)), some (.ref 0), some (.ref 1), some (.d (.int (1 + (k : Int)))), some (.d (bD (bst c (row c fw k).1 fw (k + 1) j))), w7, w8] ∧ μ = [iA (row c fw k).1, iA (row c fw k).2]) ?_ ?_ ?_⟩
    · exact ⟨_, _, rfl, rfl⟩
    · rintro j Γ μ hj ⟨w7, w8, rfl, rfl⟩
      refine ⟨_, rfl, ?_⟩
      simp
      have G := top_eq (c := c) (ts := (row c fw k).1) (fw := fw) (n := k + 1) (p := j + 1) (by omega) (by omega) (by omega) (fun f e => by have := hf f e; omega)
      rw [W_givesB G rfl (by simp [rds, rd_iA (μ := [iA (row c fw k).1, iA (row c fw k).2]) (j := 0) rfl]; omega)]
      have e1 : (1 + (j : Int)) = ((j + 1 : Nat) : Int) := by omega
      cases hb : bst c (row c fw k).1 fw (k + 1) j with
      | none => simp [bD, bst, hb, e1]
      | some p =>
        obtain ⟨b, q⟩ := p
        simp [bD, bst, hb, e1]
        by_cases hlt : T c (row c fw k).1 fw (k + 1) (j + 1) < b
        · simp [hlt]; intro h; omega
        · simp [hlt]
    · rintro Γ μ ⟨w7, w8, rfl, rfl⟩
      obtain ⟨b, q, hb⟩ := bst_some c (row c fw k).1 fw (k + 1) k
      simp [hb, bD, row, iA, l1, l2]
      omega
  · rintro Γ μ ⟨w5, w6, w7, w8, rfl, rfl⟩
    simp [rowD]
end ZL.K78

namespace ZL.K78
open PySem PySem.Spec PyProof.Rows L2
theorem e_check : sem_check_number = Hand.sem_check := rfl
theorem e_told : sem__law_told = Hand.sem_told := rfl
theorem e_draw : sem__law_draw = Hand.sem_draw := rfl
theorem e_hand : sem__law_hand = Hand.sem_hand := rfl
def fwK (c : Int) (w : Nat) : Nat → Option (List Int)
  | 0 => none
  | k + 1 => some (row c (fwK c w k) w).1
def rowK (c : Int) (w k : Nat) : List Int × List Int := row c (fwK c w k) w
theorem fwK_ok (c : Int) (w k : Nat) : fwOk (fwK c w k) w := fun f e => by
  cases k with
  | zero => cases e
  | succ k =>
    cases e
    rw [(row_len c (fwK c w k) w).1]
    omega
def rowsD (c : Int) (w n : Nat) : List D := (List.range n).map fun k => rowD (rowK c w k)
theorem rowsD_succ (c : Int) (w n : Nat) : rowsD c w (n + 1) = rowsD c w n ++ [rowD (rowK c w n)] := by simp [rowsD, List.range_succ]
theorem rowsD_len (c : Int) (w n : Nat) : (rowsD c w n).length = n := by simp [rowsD]
theorem best_rows_eq {c : Int} {w falls : Nat} (hw : w ≤ 60) (hf : falls ≤ 5) : Gives sem_best_rows [.d (.int w), .d (.int c), .d (.int falls)] (.list (rowsD c w (falls + 1))) := by
  refine gives_of ?_
  unfold sem_best_rows b_best_rows
  simp
  refine ⟨okR_of (by omega) (by omega), for_rngN (falls + 1) (by omega) (fun k Γ μ => ∃ w5 w6, Γ = [some (.d (.int w)), some (.d (.int c)), some (.d (.int falls)), some (.ref 0), some (.d (fwD (fwK c w k))), w5, w6] ∧ μ = [dA (rowsD c w k)]) ?_ ?_ ?_⟩
  · exact ⟨_, _, rfl, rfl⟩
  · rintro k Γ μ hk ⟨w5, w6, rfl, rfl⟩
    refine ⟨_, rfl, ?_⟩
    simp
    rw [W_gives (best_row_eq hw (fwK_ok c w k)) (by simp)]
    simp [rowD, rowsD_len, fwK, fwD, rowsD_succ, dA, rowK]
    omega
  · rintro Γ μ ⟨w5, w6, rfl, rfl⟩
    simp
theorem game_W {w c falls : Int} {Γ : Gam} {μ : Store} {Q : A → Store → Prop} (h : 0 ≤ w ∧ w ≤ 60) (h2 : 0 ≤ c ∧ c ≤ 20) (h3 : 0 ≤ falls ∧ falls ≤ 5) : W (callM .P sem_check_game [.d (.int w), .d (.int c), .d (.int falls)]) Γ μ Q ↔ Q (.d .none) μ := by
  refine W_callP_eq (μ' := []) (eq_of ?_) (by simp)
  unfold sem_check_game b_check_game
  simp only [e_check]
  simp [Hand.check_W, Hand.btw, h, h2, h3]
theorem rowsD_get (c : Int) (w : Nat) {n k : Nat} (h : k < n) : (rowsD c w n)[k]? = some (rowD (rowK c w k)) := by simp [rowsD, h]
theorem worst_eq {c : Int} {w falls : Nat} (hw : w ≤ 60) (hc : 0 ≤ c ∧ c ≤ 20) (hf : falls ≤ 5) : Gives sem_worst_time [.d (.int w), .d (.int c), .d (.int falls)] (.int ((rowK c w falls).1.getD w 0)) := by
  refine gives_of ?_
  unfold sem_worst_time b_worst_time
  have hl := (row_len c (fwK c w falls) w).1
  simp
  rw [game_W (by omega) hc (by omega)]
  rw [W_gives (best_rows_eq hw hf) (by simp)]
  simp
  rw [atI_gen (n := falls) rfl (rowsD_get c w (by omega))]
  simp [rowD]
  rw [atI_gen (n := w) (z := (rowK c w falls).1.getD w 0) rfl (by simp [rowK, hl])]
  simp
theorem first_eq {c : Int} {w falls : Nat} (hw : w ≤ 60) (hc : 0 ≤ c ∧ c ≤ 20) (hf : falls ≤ 5) : Gives sem_first_part [.d (.int w), .d (.int c), .d (.int falls)] (.int ((rowK c w falls).2.getD w 0)) := by
  refine gives_of ?_
  unfold sem_first_part b_first_part
  have hl := (row_len c (fwK c w falls) w).2
  simp
  rw [game_W (by omega) hc (by omega)]
  rw [W_gives (best_rows_eq hw hf) (by simp)]
  simp
  rw [atI_gen (n := falls) rfl (rowsD_get c w (by omega))]
  simp [rowD]
  rw [atI_gen (n := w) (z := (rowK c w falls).2.getD w 0) rfl (by simp [rowK, hl])]
  simp
def partD (c : Int) (w n : Nat) : D := .tuple ((List.range n).map fun k => .tuple ((rowK c w k).2.map .int))
theorem table_eq {c : Int} {w falls : Nat} (hw : w ≤ 60) (hc : 0 ≤ c ∧ c ≤ 20) (hf : falls ≤ 5) : Gives sem_part_table [.d (.int w), .d (.int c), .d (.int falls)] (partD c w (falls + 1)) := by
  refine gives_of ?_
  unfold sem_part_table b_part_table
  simp
  rw [game_W (by omega) hc (by omega)]
  rw [W_gives (best_rows_eq hw hf) (by simp)]
  simp [rowsD_len]
  refine ⟨by omega, ?_⟩
  rw [rowsD, List.map_map]
  refine WL_map (fun k : Nat => A.d (rowD (rowK c w k))) (fun k : Nat => A.d (.tuple ((rowK c w k).2.map .int))) (List.range (falls + 1)) (fun k hk => ?_) ?_
  · refine ⟨_, rfl, by simp, ?_⟩
    simp [W_tupOf]
  · simp [partD]
end ZL.K78

namespace ZL.K78
open PySem PySem.Spec PyProof.Rows L2
/-! ### what the law works out: the same -/
def fwL : Option (List Int) → List Int
  | none => []
  | some f => f
theorem part_eq {c : Int} {ts : List Int} {fw : Option (List Int)} {n p : Nat} {wh : Bool} (h1 : 1 ≤ p) (h2 : p ≤ n) (h3 : n - p < ts.length) (hn : n ≤ 60) (hc : 0 ≤ c ∧ c ≤ 20) (hf : fwOk fw n) (hl : fwL fw ≠ [] ∨ fw = none) :
    Gives sem__law_part [.d (.int n), .d (.int p), .d (.int c), .d (.list (ts.map .int)), .d (.list ((fwL fw).map .int)), .d (.bool wh)] (.int (T c ts fw n p)) := by
  refine gives_of ?_
  unfold sem__law_part b__law_part
  have main : ∀ (e : Int), (1 : Int) ≤ e → e ≤ 100 → ∀ Γ0 : Gam, Γ0 = [some (.d (.int n)), some (.d (.int p)), some (.d (.int c)), some (.d (.list (ts.map .int))), some (.d (.list ((fwL fw).map .int))), some (.d (.bool wh)), some (.d (.int e)), some (.d (.int (e + ts.getD (n - p) 0))), none, none] →
      VS (seq (ifS (cmp cGt (lenE (var 4)) (con (.int 0)))
        (seq (asg (bin opSub (var 6) (con (.int 1))) (tN 8))
        (seq (ifS (truE (var 5)) (asg (con (.int 0)) (tN 8)) (nextS))
        (forE (rng2 (var 8) (var 6)) (tN 9) (asg (max2 (var 7) (bin opAdd (var 9) (ix (var 4) (var 0)))) (tN 7)))))
        (nextS)) (retS (var 7))) Γ0 [] (ends1 fun y _ => y = .d (.int (wmax fw n e (e + ts.getD (n - p) 0)))) := by
    rintro e he1 he2 _ rfl
    cases fw with
    | none => simp [fwL, wmax]
    | some f =>
      have hfl := hf f rfl
      have hpos : 0 < f.length := by omega
      have loop : ∀ first : Int, (first = e - 1 ∨ first = 0) → VS (forE (rng2 (var 8) (var 6)) (tN 9) (asg (max2 (var 7) (bin opAdd (var 9) (ix (var 4) (var 0)))) (tN 7)))
          [some (.d (.int n)), some (.d (.int p)), some (.d (.int c)), some (.d (.list (ts.map .int))), some (.d (.list (f.map .int))), some (.d (.bool wh)), some (.d (.int e)), some (.d (.int (e + ts.getD (n - p) 0))), some (.d (.int first)), none] []
          (then1 (retS (var 7)) (ends1 fun y _ => y = .d (.int (max (e + ts.getD (n - p) 0) (e - 1 + f.getD n 0))))) := by
        intro first hfi
        generalize e + ts.getD (n - p) 0 = w0
        simp
        refine ⟨⟨okR_of (by omega) (by omega), okR_of (by omega) (by omega)⟩, for_rngN (e - first).toNat (by omega) (fun j Γ μ => ∃ w9, Γ = [some (.d (.int n)), some (.d (.int p)), some (.d (.int c)), some (.d (.list (ts.map .int))), some (.d (.list (f.map .int))), some (.d (.bool wh)), some (.d (.int e)), some (.d (.int (if j = 0 then w0 else max w0 (first + j - 1 + f.getD n 0)))), some (.d (.int first)), w9] ∧ μ = []) ?_ ?_ ?_⟩
        · exact ⟨_, rfl, rfl⟩
        · rintro j Γ μ hj ⟨w9, rfl, rfl⟩
          refine ⟨_, rfl, ?_⟩
          simp
          rw [atI_gen (n := n) (z := f.getD n 0) rfl (by simp [hfl])]
          simp
          generalize f[n]?.getD 0 = z
          split <;> omega
        · rintro Γ μ ⟨w9, rfl, rfl⟩
          simp
          generalize f[n]?.getD 0 = z
          split <;> omega
      have hne : f ≠ [] := fun e => by simp [e] at hpos
      simp [fwL, hpos, hne, wmax]
      cases wh with
      | true => simpa [fwL] using loop 0 (.inr rfl)
      | false => simpa [fwL] using loop (e - 1) (.inl rfl)
  rw [WQ_fnS]
  refine ⟨rfl, ?_⟩
  rw [VS_seq, VS_asgq]
  simp
  refine ⟨fun h => ?_, fun h => ?_⟩
  · rw [atI_gen (n := n - p) (z := ts.getD (n - p) 0) (by omega) (by simp [h3])]
    have := main ((p : Int) + c) (by omega) (by omega) _ rfl
    simpa [T, endP, h] using this
  · rw [atI_gen (n := n - p) (z := ts.getD (n - p) 0) (by omega) (by simp [h3])]
    have := main (p : Int) (by omega) (by omega) _ rfl
    simpa [T, endP, show ¬ p < n by omega] using this
end ZL.K78

namespace ZL.K78
open PySem PySem.Spec PyProof.Rows L2
def tmsD (c : Int) (w n : Nat) : List D := (List.range n).map fun k => .list ((rowK c w k).1.map .int)
def ptsD (c : Int) (w n : Nat) : List D := (List.range n).map fun k => .list ((rowK c w k).2.map .int)
theorem tmsD_succ (c : Int) (w n : Nat) : tmsD c w (n + 1) = tmsD c w n ++ [.list ((rowK c w n).1.map .int)] := by simp [tmsD, List.range_succ]
theorem ptsD_succ (c : Int) (w n : Nat) : ptsD c w (n + 1) = ptsD c w n ++ [.list ((rowK c w n).2.map .int)] := by simp [ptsD, List.range_succ]
theorem tmsD_len (c : Int) (w n : Nat) : (tmsD c w n).length = n := by simp [tmsD]
theorem ptsD_len (c : Int) (w n : Nat) : (ptsD c w n).length = n := by simp [ptsD]
def b1 : Option (Int × Int) → Int | none => 0 | some p => p.1
def b2 : Option (Int × Int) → Int | none => 0 | some p => p.2
theorem bst_pos {c : Int} {ts : List Int} {fw : Option (List Int)} {n : Nat} : ∀ {k : Nat} {b q : Int}, bst c ts fw n k = some (b, q) → 0 < q
  | 0, _, _, h => by cases h
  | k + 1, b, q, h => by
    unfold bst at h
    split at h
    · simp at h; omega
    · rename_i b' q' e
      have := bst_pos e
      split at h <;> simp at h <;> omega
theorem fwL_ok (c : Int) (w k : Nat) : fwL (fwK c w k) ≠ [] ∨ fwK c w k = none := by
  cases k with
  | zero => exact .inr rfl
  | succ k =>
    refine .inl fun e => ?_
    have := (row_len c (fwK c w k) w).1
    simp [fwK, fwL] at e
    rw [e] at this
    simp at this
def leastD (c : Int) (w falls : Nat) : D := .tuple [.list (tmsD c w (falls + 1)), .list (ptsD c w (falls + 1))]
theorem least_eq {c : Int} {w falls : Nat} {wh : Bool} (hw : w ≤ 60) (hc : 0 ≤ c ∧ c ≤ 20) (hf : falls ≤ 5) : Gives sem__law_least [.d (.int w), .d (.int c), .d (.int falls), .d (.bool wh)] (leastD c w falls) := by
  refine gives_of ?_
  unfold sem__law_least b__law_least
  simp
  refine ⟨okR_of (by omega) (by omega), for_rngN (falls + 1) (by omega) (fun k Γ μ => ∃ junk w7 w8 w9 w10 w11 w12 w13 w14, Γ = [some (.d (.int w)), some (.d (.int c)), some (.d (.int falls)), some (.d (.bool wh)), some (.ref 0), some (.ref 1), some (.d (.list ((fwL (fwK c w k)).map .int))), w7, w8, w9, w10, w11, w12, w13, w14] ∧ μ = dA (tmsD c w k) :: dA (ptsD c w k) :: junk) ?_ ?_ ?_⟩
  · exact ⟨[], _, _, _, _, _, _, _, _, rfl, rfl⟩
  · rintro k Γ μ hk ⟨junk, w7, w8, w9, w10, w11, w12, w13, w14, rfl, rfl⟩
    refine ⟨_, rfl, ?_⟩
    simp
    refine ⟨⟨okR_of (by omega) (by omega), okR_of (by omega) (by omega)⟩, for_rngN w (by omega) (fun j Γ μ => ∃ w10 w11 w12 w13 w14, Γ = [some (.d (.int w)), some (.d (.int c)), some (.d (.int falls)), some (.d (.bool wh)), some (.ref 0), some (.ref 1), some (.d (.list ((fwL (fwK c w k)).map .int))), some (.d (.int k)), some (.ref (junk.length + 1 + 1)), some (.ref (junk.length + 1 + 1 + 1)), w10, w11, w12, w13, w14]
      ∧ μ = dA (tmsD c w k) :: dA (ptsD c w k) :: (junk ++ [iA (row c (fwK c w k) j).1, iA (row c (fwK c w k) j).2])) ?_ ?_ ?_⟩
    · exact ⟨_, _, _, _, _, rfl, by simp [row, iA]⟩
    · rintro j Γ μ hj ⟨w10, w11, w12, w13, w14, rfl, rfl⟩
      refine ⟨_, rfl, ?_⟩
      obtain ⟨l1, l2⟩ := row_len c (fwK c w k) j
      simp
      refine ⟨⟨okR_of (by omega) (by omega), okR_of (by omega) (by omega)⟩, for_rngN (j + 1) (by omega) (fun i Γ μ => ∃ w13 w14, Γ = [some (.d (.int w)), some (.d (.int c)), some (.d (.int falls)), some (.d (.bool wh)), some (.ref 0), some (.ref 1), some (.d (.list ((fwL (fwK c w k)).map .int))), some (.d (.int k)), some (.ref (junk.length + 1 + 1)), some (.ref (junk.length + 1 + 1 + 1)), some (.d (.int (1 + (j : Int)))),
        some (.d (.int (b1 (bst c (row c (fwK c w k) j).1 (fwK c w k) (j + 1) i)))), some (.d (.int (b2 (bst c (row c (fwK c w k) j).1 (fwK c w k) (j + 1) i)))), w13, w14]
      ∧ μ = dA (tmsD c w k) :: dA (ptsD c w k) :: (junk ++ [iA (row c (fwK c w k) j).1, iA (row c (fwK c w k) j).2])) ?_ ?_ ?_⟩
      · exact ⟨_, _, rfl, rfl⟩
      · rintro i Γ μ hi ⟨w13, w14, rfl, rfl⟩
        refine ⟨_, rfl, ?_⟩
        simp
        have e0 : (1 + (j : Int)) = ((j + 1 : Nat) : Int) := by omega
        have e1 : (1 + (i : Int)) = ((i + 1 : Nat) : Int) := by omega
        have G := part_eq (c := c) (ts := (row c (fwK c w k) j).1) (fw := fwK c w k) (n := j + 1) (p := i + 1) (wh := wh) (by omega) (by omega) (by omega) (by omega) hc (fun f e => by have := fwK_ok c w k f e; omega) (fwL_ok c w k)
        generalize hM : dA (tmsD c w k) :: dA (ptsD c w k) :: (junk ++ [iA (row c (fwK c w k) j).1, iA (row c (fwK c w k) j).2]) = M
        have hg : M[junk.length + 1 + 1]? = some (iA (row c (fwK c w k) j).1) := by rw [← hM]; simp
        rw [W_givesB G rfl (by simp [rds, rd_iA hg, e0, e1])]
        cases hb : bst c (row c (fwK c w k) j).1 (fwK c w k) (j + 1) i with
        | none => simp [bst, hb, b1, b2, e1]
        | some p =>
          obtain ⟨b, q⟩ := p
          have hq := bst_pos hb
          simp [bst, hb, b1, b2, e1]
          by_cases hlt : T c (row c (fwK c w k) j).1 (fwK c w k) (j + 1) (i + 1) < b
          · simp [hlt, show ¬ q = 0 by omega]; intro h; omega
          · simp [hlt, show ¬ q = 0 by omega]
      · rintro Γ μ ⟨w13, w14, rfl, rfl⟩
        obtain ⟨b, q, hb⟩ := bst_some c (row c (fwK c w k) j).1 (fwK c w k) (j + 1) j
        simp [hb, b1, b2, row, iA, l1, l2]
        omega
    · rintro Γ μ ⟨w10, w11, w12, w13, w14, rfl, rfl⟩
      simp [tmsD_len, ptsD_len, tmsD_succ, ptsD_succ, dA, rowK, fwK, fwL]
      omega
  · rintro Γ μ ⟨junk, w7, w8, w9, w10, w11, w12, w13, w14, rfl, rfl⟩
    simp [leastD]
end ZL.K78

namespace ZL.K78
open PySem PySem.Spec PyProof.Rows L2
/-! ### plain facts -/
theorem bst_spec {c : Int} {ts : List Int} {fw : Option (List Int)} {n : Nat} : ∀ {k : Nat} {b q : Int}, bst c ts fw n k = some (b, q) →
    (∀ p, 1 ≤ p → p ≤ k → b ≤ T c ts fw n p) ∧ ∃ p, 1 ≤ p ∧ p ≤ k ∧ q = (p : Nat) ∧ b = T c ts fw n p ∧ ∀ r, 1 ≤ r → r < p → b < T c ts fw n r
  | 0, _, _, h => by cases h
  | k + 1, b, q, h => by
    unfold bst at h
    split at h
    · rename_i e
      cases h
      have : k = 0 := by
        cases k with
        | zero => rfl
        | succ k => obtain ⟨b, q, e'⟩ := bst_some c ts fw n k; rw [e'] at e; cases e
      subst this
      exact ⟨fun p h1 h2 => by rw [show p = 1 by omega]; exact Int.le_refl _, 1, by omega, by omega, rfl, rfl, fun r h1 h2 => by omega⟩
    · rename_i b' q' e
      obtain ⟨h1, p, p1, p2, rfl, hb, hr⟩ := bst_spec e
      split at h
      · rename_i hlt
        cases h
        refine ⟨fun r r1 r2 => ?_, k + 1, by omega, by omega, rfl, rfl, fun r r1 r2 => ?_⟩
        · by_cases e : r = k + 1
          · subst e; exact Int.le_refl _
          · have := h1 r r1 (by omega); omega
        · have := h1 r r1 (by omega); omega
      · rename_i hlt
        cases h
        refine ⟨fun r r1 r2 => ?_, p, p1, by omega, rfl, hb, hr⟩
        by_cases e : r = k + 1
        · subst e; omega
        · exact h1 r r1 (by omega)
theorem row_succ (c : Int) (fw : Option (List Int)) (n : Nat) : ∃ b q, bst c (row c fw n).1 fw (n + 1) (n + 1) = some (b, q) ∧ row c fw (n + 1) = ((row c fw n).1 ++ [b], (row c fw n).2 ++ [q]) := by
  obtain ⟨b, q, e⟩ := bst_some c (row c fw n).1 fw (n + 1) n
  exact ⟨b, q, e, by rw [row, e]⟩
theorem getD_app_lt {xs ys : List Int} {i : Nat} (h : i < xs.length) : (xs ++ ys).getD i 0 = xs.getD i 0 := by simp [List.getElem?_append_left h]
theorem getD_app_eq {xs : List Int} {y : Int} {i : Nat} (h : i = xs.length) : (xs ++ [y]).getD i 0 = y := by subst h; simp
theorem row_pre {c : Int} {fw : Option (List Int)} {n i : Nat} (hi : i ≤ n) : ∀ {m : Nat}, n ≤ m → (row c fw m).1.getD i 0 = (row c fw n).1.getD i 0 ∧ (row c fw m).2.getD i 0 = (row c fw n).2.getD i 0
  | 0, h => by rw [show n = 0 by omega]; exact ⟨rfl, rfl⟩
  | m + 1, h => by
    by_cases e : n = m + 1
    · subst e; exact ⟨rfl, rfl⟩
    · obtain ⟨a1, a2⟩ := row_pre (c := c) (fw := fw) hi (m := m) (by omega)
      obtain ⟨b, q, _, e2⟩ := row_succ c fw m
      obtain ⟨l1, l2⟩ := row_len c fw m
      rw [e2]
      exact ⟨(getD_app_lt (by omega)).trans a1, (getD_app_lt (by omega)).trans a2⟩
/-- alike up to n -/
def Agr (n : Nat) : Option (List Int) → Option (List Int) → Prop
  | none, none => True
  | some f, some g => ∀ i, i ≤ n → f.getD i 0 = g.getD i 0
  | _, _ => False
theorem bst_agr {c : Int} {ts : List Int} {fw fw' : Option (List Int)} {n : Nat} (h : Agr n fw fw') : ∀ k, bst c ts fw n k = bst c ts fw' n k := by
  have hT : ∀ p, T c ts fw n p = T c ts fw' n p := fun p => by
    unfold T wmax
    match fw, fw', h with
    | none, none, _ => rfl
    | some f, some g, h => simp only; rw [h n (Nat.le_refl _)]
  intro k
  induction k with
  | zero => rfl
  | succ k ih => simp only [bst, ih, hT]
theorem row_agr {c : Int} {fw fw' : Option (List Int)} : ∀ {n : Nat}, Agr n fw fw' → row c fw n = row c fw' n
  | 0, _ => rfl
  | n + 1, h => by
    have h' : Agr n fw fw' := by
      match fw, fw', h with
      | none, none, _ => trivial
      | some f, some g, h => exact fun i hi => h i (by omega)
    have ih := row_agr (c := c) h'
    simp only [row, ih, bst_agr h]
theorem fwK_agr (c : Int) {n w : Nat} (h : n ≤ w) : ∀ k, Agr n (fwK c w k) (fwK c n k)
  | 0 => trivial
  | k + 1 => fun i hi => by
    have e := row_agr (c := c) (fwK_agr c h k)
    show (row c (fwK c w k) w).1.getD i 0 = (row c (fwK c n k) n).1.getD i 0
    rw [(row_pre (c := c) (fw := fwK c w k) hi h).1, e]
theorem rowK_pre (c : Int) {n w : Nat} (h : n ≤ w) (k i : Nat) (hi : i ≤ n) : (rowK c w k).1.getD i 0 = (rowK c n k).1.getD i 0 ∧ (rowK c w k).2.getD i 0 = (rowK c n k).2.getD i 0 := by
  have e := row_agr (c := c) (fwK_agr c h k)
  have := row_pre (c := c) (fw := fwK c w k) hi h
  unfold rowK
  rw [this.1, this.2, e]
  exact ⟨rfl, rfl⟩
/-- without falls: all at once -/
theorem row_none {c : Int} (hc : 0 ≤ c) : ∀ n i, i ≤ n → (row c none n).1.getD i 0 = (i : Nat)
  | 0, i, h => by rw [show i = 0 by omega]; rfl
  | n + 1, i, h => by
    obtain ⟨b, q, e, e2⟩ := row_succ c none n
    obtain ⟨l1, l2⟩ := row_len c none n
    rw [e2]
    by_cases hi : i ≤ n
    · rw [getD_app_lt (by omega)]; exact row_none hc n i hi
    · rw [getD_app_eq (by omega)]
      obtain ⟨h1, p, p1, p2, rfl, hb, hr⟩ := bst_spec e
      have hT : ∀ p, 1 ≤ p → p ≤ n + 1 → T c (row c none n).1 none (n + 1) p = if p = n + 1 then ((n + 1 : Nat) : Int) else (n + 1 : Nat) + c := fun p p1 p2 => by
        unfold T wmax endP
        simp only
        rw [row_none hc n _ (by omega)]
        split <;> split <;> omega
      have a := h1 (n + 1) (by omega) (Nat.le_refl _)
      rw [hT _ (by omega) (Nat.le_refl _), if_pos rfl] at a
      rw [hT p p1 p2] at hb
      split at hb <;> omega
theorem part_none {c : Int} (hc : 1 ≤ c) (n : Nat) : (row c none (n + 1)).2.getD (n + 1) 0 = ((n + 1 : Nat) : Int) := by
  obtain ⟨b, q, e, e2⟩ := row_succ c none n
  obtain ⟨l1, l2⟩ := row_len c none n
  rw [e2, getD_app_eq (by omega)]
  obtain ⟨h1, p, p1, p2, rfl, hb, hr⟩ := bst_spec e
  have hT : ∀ p, 1 ≤ p → p ≤ n + 1 → T c (row c none n).1 none (n + 1) p = if p = n + 1 then ((n + 1 : Nat) : Int) else (n + 1 : Nat) + c := fun p p1 p2 => by
    unfold T wmax endP
    simp only
    rw [row_none (by omega) n _ (by omega)]
    split <;> split <;> omega
  have a := h1 (n + 1) (by omega) (Nat.le_refl _)
  rw [hT _ (by omega) (Nat.le_refl _), if_pos rfl] at a
  rw [hT p p1 p2] at hb
  split at hb <;> omega
/-- without cost -/
def Idn (n : Nat) : Option (List Int) → Prop
  | none => True
  | some f => ∀ i, i ≤ n → f.getD i 0 = (i : Nat)
theorem row_free {fw : Option (List Int)} : ∀ n, Idn n fw → ∀ i, i ≤ n → (row 0 fw n).1.getD i 0 = (i : Nat)
  | 0, _, i, h => by rw [show i = 0 by omega]; rfl
  | n + 1, hf, i, h => by
    have hf' : Idn n fw := by
      cases fw with
      | none => trivial
      | some f => exact fun i hi => hf i (by omega)
    obtain ⟨b, q, e, e2⟩ := row_succ 0 fw n
    obtain ⟨l1, l2⟩ := row_len 0 fw n
    rw [e2]
    by_cases hi : i ≤ n
    · rw [getD_app_lt (by omega)]; exact row_free n hf' i hi
    · rw [getD_app_eq (by omega)]
      obtain ⟨h1, p, p1, p2, rfl, hb, hr⟩ := bst_spec e
      have hT : ∀ p, 1 ≤ p → p ≤ n + 1 → ((n + 1 : Nat) : Int) ≤ T 0 (row 0 fw n).1 fw (n + 1) p ∧ T 0 (row 0 fw n).1 fw (n + 1) 1 = ((n + 1 : Nat) : Int) := fun p p1 p2 => by
        unfold T wmax endP
        rw [row_free n hf' _ (by omega), row_free n hf' _ (by omega)]
        cases fw with
        | none => simp only; constructor <;> split <;> omega
        | some f => simp only; rw [hf (n + 1) (Nat.le_refl _)]; constructor <;> split <;> omega
      have a := h1 1 (by omega) (by omega)
      rw [(hT 1 (by omega) (by omega)).2] at a
      have := (hT p p1 p2).1
      omega
theorem fwK_free (w : Nat) : ∀ k, Idn w (fwK 0 w k)
  | 0 => trivial
  | k + 1 => row_free w (fwK_free w k)
theorem part_free (w k : Nat) : (rowK 0 (w + 1) k).2.getD (w + 1) 0 = 1 := by
  unfold rowK
  have hf := fwK_free (w + 1) k
  generalize fwK 0 (w + 1) k = fw at hf ⊢
  obtain ⟨b, q, e, e2⟩ := row_succ 0 fw w
  obtain ⟨l1, l2⟩ := row_len 0 fw w
  rw [e2, getD_app_eq (by omega)]
  obtain ⟨h1, p, p1, p2, rfl, hb, hr⟩ := bst_spec e
  have hf' : Idn w fw := by
    cases fw with
    | none => trivial
    | some f => exact fun i hi => hf i (by omega)
  by_cases hp : p = 1
  · subst hp; rfl
  · have a := hr 1 (by omega) (by omega)
    rw [hb] at a
    exfalso
    revert a
    unfold T wmax endP
    rw [row_free w hf' _ (by omega), row_free w hf' _ (by omega)]
    cases fw with
    | none => simp only; split <;> split <;> omega
    | some f => simp only; rw [hf (w + 1) (Nat.le_refl _)]; split <;> split <;> omega
/-- one unit, none -/
theorem row_one {c : Int} {fw : Option (List Int)} (h : ∀ f, fw = some f → f.getD 1 0 = 1) : row c fw 1 = ([0, 1], [0, 1]) := by
  have ht : T c [0] fw 1 1 = 1 := by
    unfold T wmax endP
    cases fw with
    | none => simp
    | some f => simp; have := h f rfl; simp at this; omega
  unfold row
  simp [bst, ht, row]
theorem rowK_one (c : Int) : ∀ k, rowK c 1 k = ([0, 1], [0, 1])
  | 0 => row_one fun f e => by cases e
  | k + 1 => row_one fun f e => by
    have := rowK_one c k
    cases e
    show (rowK c 1 k).1.getD 1 0 = 1
    rw [this]; rfl
theorem rowK_zero (c : Int) (k : Nat) : rowK c 0 k = ([0], [0]) := rfl
end ZL.K78

namespace ZL.K78
open PySem PySem.Spec PyProof.Rows L2
open Hand (HG)
theorem table_law {c : Int} {w falls : Nat} (hw : w ≤ 60) (hc : 0 ≤ c ∧ c ≤ 20) (hf : falls ≤ 5) : Gives sem__law_table [.d (.int w), .d (.int c), .d (.int falls), .d (.list (ptsD c w (falls + 1)))] (.bool true) := by
  refine gives_of ?_
  unfold sem__law_table b__law_table
  simp
  rw [W_gives (table_eq hw hc hf) (by simp)]
  simp [partD]
  refine ⟨okR_of (by omega) (by omega), for_rngN (falls + 1) (by omega) (fun k Γ μ => ∃ w5 w6, Γ = [some (.d (.int w)), some (.d (.int c)), some (.d (.int falls)), some (.d (.list (ptsD c w (falls + 1)))), some (.d (partD c w (falls + 1))), w5, w6] ∧ μ = []) ?_ ?_ ?_⟩
  · exact ⟨_, _, rfl, rfl⟩
  · rintro k Γ μ hk ⟨w5, w6, rfl, rfl⟩
    refine ⟨_, rfl, ?_⟩
    obtain ⟨l1, l2⟩ := row_len c (fwK c w k) w
    have l2' : (rowK c w k).2.length = w + 1 := l2
    simp [partD, atI_n, hk, l2']
    refine ⟨okR_of (by omega) (by omega), for_rngN (w + 1) (by omega) (fun i Γ μ => ∃ w6, Γ = [some (.d (.int w)), some (.d (.int c)), some (.d (.int falls)), some (.d (.list (ptsD c w (falls + 1)))), some (.d (partD c w (falls + 1))), some (.d (.int k)), w6] ∧ μ = []) ?_ ?_ ?_⟩
    · exact ⟨_, rfl, rfl⟩
    · rintro i Γ μ hi ⟨w6, rfl, rfl⟩
      refine ⟨_, rfl, ?_⟩
      simp [partD, ptsD, atI_n, hk, hi, l2']
      simp [e_told, Hand.told_W]
    · rintro Γ μ ⟨w6, rfl, rfl⟩
      simp [partD]
  · rintro Γ μ ⟨w5, w6, rfl, rfl⟩
    simp
theorem game_L {h : Cell} {c : Int} {w falls : Nat} {wh : Bool} {Γ : Gam} {Q : A → Store → Prop} (hh : HG h) (hw : w ≤ 60) (hc : 0 ≤ c ∧ c ≤ 20) (hf : falls ≤ 5) (q : ∀ h, HG h → Q (.d (.bool true)) [h]) :
    W (callM .L sem__law_game [.ref 0, .d (.int w), .d (.int c), .d (.int falls), .d (.bool wh)]) Γ [h] Q := by
  refine W_callL_same ?_
  unfold sem__law_game b__law_game
  have Ww : ∀ {Γ μ Q}, W (callM .P sem_worst_time [.d (.int w), .d (.int c), .d (.int falls)]) Γ μ Q ↔ Q (.d (.int ((rowK c w falls).1.getD w 0))) μ := W_gives (worst_eq hw hc hf) (by simp)
  have Wf : ∀ {Γ μ Q}, W (callM .P sem_first_part [.d (.int w), .d (.int c), .d (.int falls)]) Γ μ Q ↔ Q (.d (.int ((rowK c w falls).2.getD w 0))) μ := W_gives (first_eq hw hc hf) (by simp)
  have Wt : ∀ {Γ μ Q}, W (callM .P sem__law_table [.d (.int w), .d (.int c), .d (.int falls), .d (.list (ptsD c w (falls + 1)))]) Γ μ Q ↔ Q (.d (.bool true)) μ := W_gives (table_law hw hc hf) (by simp)
  have Wl : ∀ {Γ μ Q}, W (callM .P sem__law_least [.d (.int w), .d (.int c), .d (.int falls), .d (.bool wh)]) Γ μ Q ↔ Q (.d (leastD c w falls)) μ := W_gives (least_eq hw hc hf) (by simp)
  have l1 : ∀ k, (rowK c w k).1.length = w + 1 := fun k => (row_len c (fwK c w k) w).1
  have l2 : ∀ k, (rowK c w k).2.length = w + 1 := fun k => (row_len c (fwK c w k) w).2
  simp [Wl, e_draw]
  refine Hand.draw_L hh (by omega) (by omega) fun first h f0 f1 hh => ?_
  refine ⟨okR_of (by omega) (by omega), for_rngN 3 (by omega) (fun k Γ μ => ∃ h w7 w8, HG h ∧ Γ = [some (.ref 0), some (.d (.int w)), some (.d (.int c)), some (.d (.int falls)), some (.d (.bool wh)), some (.d (leastD c w falls)), some (.d (.int first)), w7, w8, none, none] ∧ μ = [h]) ?_ ?_ ?_⟩
  · exact ⟨h, _, _, hh, rfl, rfl⟩
  · rintro k Γ μ hk ⟨h, w7, w8, hh, rfl, rfl⟩
    refine ⟨_, rfl, ?_⟩
    simp [leastD, Ww, Wf, Wt, e_told, Hand.told_W, tmsD, ptsD, atI_n, l1, l2]
    simp only [ptsD] at Wt
    simp [Wt, hh]
  · rintro Γ μ ⟨h, w7, w8, hh, rfl, rfl⟩
    simp
    refine Hand.draw_L hh (by omega) (by omega) fun n h n0 n1 hh => ?_
    simp
    refine Hand.draw_L hh (by omega) (by omega) fun left h t0 t1 hh => ?_
    obtain ⟨n, rfl⟩ := Int.eq_ofNat_of_zero_le n0
    obtain ⟨left, rfl⟩ := Int.eq_ofNat_of_zero_le t0
    have Ww : ∀ {Γ μ Q}, W (callM .P sem_worst_time [.d (.int n), .d (.int c), .d (.int left)]) Γ μ Q ↔ Q (.d (.int ((rowK c n left).1.getD n 0))) μ := W_gives (worst_eq (by omega) hc (by omega)) (by simp)
    have Wf : ∀ {Γ μ Q}, W (callM .P sem_first_part [.d (.int n), .d (.int c), .d (.int left)]) Γ μ Q ↔ Q (.d (.int ((rowK c n left).2.getD n 0))) μ := W_gives (first_eq (by omega) hc (by omega)) (by simp)
    have hp := rowK_pre c (n := n) (w := w) (by omega) left n (Nat.le_refl _)
    have n1' : n < w + 1 := by omega
    have t1' : left < falls + 1 := by omega
    simp [leastD, Ww, Wf, e_told, Hand.told_W, tmsD, ptsD, atI_n, l1, l2, n1', t1']
    simp [l1, l2, n1'] at hp
    simp [← hp.1, ← hp.2]
    exact q h hh
end ZL.K78

namespace ZL.K78
open PySem PySem.Spec PyProof.Rows L2
open Hand (HG btw)
/-- the first wrong one -/
def wrongOf (x y z b : D) : Prop := (btw x 0 60 = false ∧ b = x) ∨ (btw x 0 60 = true ∧ btw y 0 20 = false ∧ b = y) ∨ (btw x 0 60 = true ∧ btw y 0 20 = true ∧ btw z 0 5 = false ∧ b = z)
theorem game_bad {x y z b : D} (h : wrongOf x y z b) : Throws sem_check_game [.d x, .d y, .d z] "InvalidNumber" [("number", b)] := by
  refine throws_fn rfl ?_
  unfold b_check_game
  simp only [e_check]
  rcases h with ⟨h1, rfl⟩ | ⟨h1, h2, rfl⟩ | ⟨h1, h2, h3, rfl⟩
  · exact XS_seq (XS_eS (XE_call (by simp; exact XE_P ⟨_, Hand.check_bad h1⟩ (by simp) trivial)))
  · exact XS_seq2 (by simp [Hand.check_W, h1]; exact XS_seq (XS_eS (XE_call (by simp; exact XE_P ⟨_, Hand.check_bad h2⟩ (by simp) trivial))))
  · exact XS_seq2 (by simp [Hand.check_W, h1]; exact XS_seq2 (by simp [Hand.check_W, h2]; exact XS_eS (XE_call (by simp; exact XE_P ⟨_, Hand.check_bad h3⟩ (by simp) trivial))))
theorem worst_bad {x y z b : D} (h : wrongOf x y z b) : Throws sem_worst_time [.d x, .d y, .d z] "InvalidNumber" [("number", b)] :=
  throws_fn rfl (XS_seq (XS_eS (XE_call (by simp; exact XE_P (game_bad h) (by simp) trivial))))
theorem first_bad {x y z b : D} (h : wrongOf x y z b) : Throws sem_first_part [.d x, .d y, .d z] "InvalidNumber" [("number", b)] :=
  throws_fn rfl (XS_seq (XS_eS (XE_call (by simp; exact XE_P (game_bad h) (by simp) trivial))))
theorem table_bad {x y z b : D} (h : wrongOf x y z b) : Throws sem_part_table [.d x, .d y, .d z] "InvalidNumber" [("number", b)] :=
  throws_fn rfl (XS_seq (XS_eS (XE_call (by simp; exact XE_P (game_bad h) (by simp) trivial))))
theorem call_bad {x y z b : D} {ask : Int} (h : wrongOf x y z b) (h0 : 0 ≤ ask) (h2 : ask < 3) : Throws sem__law_call [.d (.int ask), .d (.list [x, y, z])] "InvalidNumber" [("number", b)] := by
  refine throws_fn rfl ?_
  unfold b__law_call
  have e : ask = 0 ∨ ask = 1 ∨ ask = 2 := by omega
  rcases e with rfl | rfl | rfl
  · exact XS_seq (XS_if (by simp; exact XS_eS (XE_call (by simp; exact XE_P (worst_bad h) (by simp) trivial))))
  · exact XS_seq2 (by simp; exact XS_seq (XS_if (by simp; exact XS_eS (XE_call (by simp; exact XE_P (first_bad h) (by simp) trivial)))))
  · exact XS_seq2 (by simp; exact XS_seq2 (by simp; exact XS_eS (XE_call (by simp; exact XE_P (table_bad h) (by simp) trivial))))
inductive Odd1 : D → Prop
  | int (i : Int) : Odd1 (.int i)
  | none : Odd1 .none
  | bool (b : Bool) : Odd1 (.bool b)
  | str : Odd1 (.str (PySem.Str.ofString "5"))
  | tup : Odd1 (.tuple [.int 3])
  | lst : Odd1 (.list [.int 3])
theorem cEq_5 : cEq (.str (PySem.Str.ofString "5")) (.str (PySem.Str.ofString "5")) = some true := by decide +kernel
theorem same_odd {v : D} (h : Odd1 v) : Gives sem__law_same [.d v, .d v] (.bool true) := by
  refine gives_of ?_
  unfold sem__law_same b__law_same
  cases h <;> simp [e_told, Hand.told_W, cEq_5]
theorem bounds_L {h : Cell} {Γ : Gam} {Q : A → Store → Prop} (hh : HG h) (q : ∀ h, HG h → Q (.d (.bool true)) [h]) : W (callM .L sem__law_bounds [.ref 0]) Γ [h] Q := by
  refine W_callL_same ?_
  unfold sem__law_bounds b__law_bounds
  simp [e_draw]
  refine Hand.draw_L hh (by omega) (by omega) fun w h w0 w1 hh => ?_
  try simp
  refine Hand.draw_L hh (by omega) (by omega) fun c h c0 c1 hh => ?_
  try simp
  refine Hand.draw_L hh (by omega) (by omega) fun falls h f0 f1 hh => ?_
  obtain ⟨w, rfl⟩ := Int.eq_ofNat_of_zero_le w0
  obtain ⟨falls, rfl⟩ := Int.eq_ofNat_of_zero_le f0
  have hc : 0 ≤ c ∧ c ≤ 20 := by omega
  have h20 : (0 : Int) ≤ 20 ∧ (20 : Int) ≤ 20 := by omega
  have h00 : (0 : Int) ≤ 0 ∧ (0 : Int) ≤ 20 := by omega
  have WW : ∀ {c : Int} {w f : Nat} {v : Int}, w ≤ 60 → 0 ≤ c ∧ c ≤ 20 → f ≤ 5 → (rowK c w f).1.getD w 0 = v → ∀ {Γ μ Q}, W (callM .P sem_worst_time [.d (.int w), .d (.int c), .d (.int f)]) Γ μ Q ↔ Q (.d (.int v)) μ := by
    intro c w f v a1 a2 a3 a4 Γ μ Q
    subst a4
    exact W_gives (worst_eq a1 a2 a3) (by simp)
  have WF : ∀ {c : Int} {w f : Nat} {v : Int}, w ≤ 60 → 0 ≤ c ∧ c ≤ 20 → f ≤ 5 → (rowK c w f).2.getD w 0 = v → ∀ {Γ μ Q}, W (callM .P sem_first_part [.d (.int w), .d (.int c), .d (.int f)]) Γ μ Q ↔ Q (.d (.int v)) μ := by
    intro c w f v a1 a2 a3 a4 Γ μ Q
    subst a4
    exact W_gives (first_eq a1 a2 a3) (by simp)
  have x1 := @WW c w 0 (w : Nat) (by omega) hc (by omega) (row_none hc.1 w w (Nat.le_refl _))
  have x2 := @WW 20 60 0 60 (by omega) h20 (by omega) (row_none h20.1 60 60 (Nat.le_refl _))
  have x3 := @WW 20 1 5 1 (by omega) h20 (by omega) (by rw [rowK_one]; rfl)
  have x4 := @WW c 0 falls 0 (by omega) hc (by omega) (by rw [rowK_zero]; rfl)
  have x5 := @WF c 0 falls 0 (by omega) hc (by omega) (by rw [rowK_zero]; rfl)
  have x6 := @WF c 1 falls 1 (by omega) hc (by omega) (by rw [rowK_one]; rfl)
  have x7 := @WW 0 60 falls 60 (by omega) h00 (by omega) (row_free 60 (fwK_free 60 falls) 60 (Nat.le_refl _))
  have x8 := @WF 0 60 5 1 (by omega) h00 (by omega) (part_free 59 5)
  have x9 := @WF (max 1 c) 60 0 60 (by omega) (by omega) (by omega) (part_none (by omega) 59)
  have x10 := @WW 0 w falls (w : Nat) (by omega) h00 (by omega) (row_free w (fwK_free w falls) w (Nat.le_refl _))
  simp at x1 x2 x3 x4 x5 x6 x7 x8 x9 x10
  simp [x1, x2, x3, x4, x5, x6, e_told, Hand.told_W]
  refine Hand.draw_L hh (by omega) (by omega) fun pl h p0 p1 hh => ?_
  simp [x7, x8, x9, x10, Hand.told_W]
  exact q h hh
end ZL.K78

namespace ZL.K78
open PySem PySem.Spec PyProof.Rows L2
open Hand (HG btw)
def bndOf (place : Nat) : Int := if place = 0 then 60 else if place = 1 then 20 else 5
def t_ref : SemS := (seq (tryS (frz 2 (drop (callE .P sem__law_call (acons (var 1) (acons (var 2) (anil))))))
     [⟨mtX kn sub "InvalidNumber", some 5, fun n fs => gdS (kn.contains n) (seq (asg (andV (exI kn sub n ["StageError"]) (andV (exV kn n) (notV (exI kn sub n ["InvalidRows"])))) (tN 6))
     (retS (andV (var 6) (callE .P sem__law_same (acons (exF fs "number") (acons (var 4) (anil)))))))⟩])
     (retS (con (.bool false))))
def m_ref : SemS := seq (setIx (var 4) (var 2) (var 3))
 (seq (ifS (andT (cmp cLt (var 3) (con (.int 2))) (cmp cEq (callE .L sem__law_draw (acons (var 0) (acons (con (.int 2)) (anil)))) (con (.int 0))))
 (setIx (con (.str (PySem.Str.ofString "late"))) (var 2) (bin opAdd (bin opAdd (var 3) (con (.int 1))) (callE .L sem__law_draw (acons (var 0) (acons (bin opSub (con (.int 2)) (var 3)) (anil))))))
 (nextS)) t_ref)
theorem refused_eq : b__law_refused = seq (asg (lstE true (acons (callE .L sem__law_draw (acons (var 0) (acons (con (.int 61)) (anil)))) (acons (callE .L sem__law_draw (acons (var 0) (acons (con (.int 21)) (anil)))) (acons (callE .L sem__law_draw (acons (var 0) (acons (con (.int 6)) (anil)))) (anil))))) (tN 2))
 (seq (asg (callE .L sem__law_draw (acons (var 0) (acons (con (.int 3)) (anil)))) (tN 3))
 (seq (asg (ix (lstE false (acons (ix (lstE false (acons (con (.int 61)) (acons (con (.int 21)) (acons (con (.int 6)) (anil))))) (var 3)) (acons (bin opSub (con (.int 0)) (con (.int 1))) (acons (con .none) (acons (con (.bool true)) (acons (con (.bool false)) (acons (con (.str (PySem.Str.ofString "5"))) (acons (tupE (acons (con (.int 3)) (anil))) (acons (lstE false (acons (con (.int 3)) (anil))) (acons (bin opPow (con (.int 10)) (con (.int 30))) (anil))))))))))) (callE .L sem__law_draw (acons (var 0) (acons (con (.int 9)) (anil))))) (tN 4)) m_ref)) := rfl
theorem tail_refused {h : Cell} {x y z b : D} {ask : Int} {pl : Option A} {w6 : Option A} {Q : A → Store → Prop} (hw : wrongOf x y z b) (ho : Odd1 b) (h0 : 0 ≤ ask) (h2 : ask < 3) (hh : HG h) (q : ∀ h ex, HG h → Q (.d (.bool true)) [h, ex]) :
    VS t_ref [some (.ref 0), some (.d (.int ask)), some (.ref 1), pl, some (.d b), none, w6] [h, dA [x, y, z]] (ends1 Q) := by
  unfold t_ref
  rw [VS_seq]
  refine VS_try_x (n := "InvalidNumber") (fs := [("number", b)]) ?_
  refine XS_frz (x := .ref 1) rfl (.inr ⟨1, [.d x, .d y, .d z], [x, y, z], rfl, rfl, by simp, ?_⟩)
  refine XS_eS (XE_call ?_)
  simp
  refine XE_P (call_bad hw h0 h2) (by simp) ?_
  refine VH_named (i := 5) (by decide) rfl (by simp) ?_
  dsimp only
  rw [gd_t (by decide)]
  have W1 : ∀ {Γ μ Q}, W (exV kn "InvalidNumber") Γ μ Q ↔ Q (.d (.bool true)) μ := fun {Γ μ Q} => W_some rfl
  simp [kn, sub, List.lookup, W1]
  have : ∀ {Γ μ Q}, W (exV ["InvalidNumber", "InvalidRows", "StageError"] "InvalidNumber") Γ μ Q ↔ Q (.d (.bool true)) μ := fun {Γ μ Q} => W_some rfl
  simp [this]
  rw [W_gives (same_odd ho) (by simp)]
  exact q h .dead hh
theorem ixN3 : ixN 3 0 = some 0 ∧ ixN 3 1 = some 1 ∧ ixN 3 2 = some 2 := by decide
theorem mid_refused {h : Cell} {n0 n1 n2 : Int} {b : D} {ask : Int} {pl : Nat} {Q : A → Store → Prop} (hb : btw b 0 (bndOf pl) = false) (ho : Odd1 b) (h0 : 0 ≤ ask) (h2 : ask < 3) (hh : HG h) (hp : pl < 3)
    (a0 : 0 ≤ n0 ∧ n0 < 61) (a1 : 0 ≤ n1 ∧ n1 < 21) (a2 : 0 ≤ n2 ∧ n2 < 6) (q : ∀ h ex, HG h → Q (.d (.bool true)) [h, ex]) :
    VS m_ref [some (.ref 0), some (.d (.int ask)), some (.ref 1), some (.d (.int pl)), some (.d b), none, none] [h, .lst [.d (.int n0), .d (.int n1), .d (.int n2)]] (ends1 Q) := by
  unfold m_ref
  have e0 : btw (.int n0) 0 60 = true := by simp [btw]; omega
  have e1 : btw (.int n1) 0 20 = true := by simp [btw]; omega
  have fin' : ∀ {h : Cell} {x y z : D}, HG h → wrongOf x y z b → VS t_ref [some (.ref 0), some (.d (.int ask)), some (.ref 1), some (.d (.int pl)), some (.d b), none, none] [h, .lst [.d x, .d y, .d z]] (ends1 Q) := fun hh hw => tail_refused hw ho h0 h2 hh q
  have e : pl = 0 ∨ pl = 1 ∨ pl = 2 := by omega
  rcases e with rfl | rfl | rfl
  · have w0 : ∀ y z, wrongOf b y z b := fun y z => .inl ⟨hb, rfl⟩
    simp [ixN3, e_draw]
    refine Hand.draw_L hh (by omega) (by omega) fun r h r0 r1 hh => ?_
    simp
    refine ⟨fun _ => ?_, fun _ => fin' hh (w0 _ _)⟩
    refine Hand.draw_L hh (by omega) (by omega) fun r h r0 r1 hh => ?_
    have e : r = 0 ∨ r = 1 := by omega
    rcases e with rfl | rfl
    · simp [ixN3]; exact fin' hh (w0 _ _)
    · simp [ixN3]; exact fin' hh (w0 _ _)
  · have w0 : ∀ z, wrongOf (.int n0) b z b := fun z => .inr (.inl ⟨e0, hb, rfl⟩)
    simp [ixN3, e_draw]
    refine Hand.draw_L hh (by omega) (by omega) fun r h r0 r1 hh => ?_
    simp
    refine ⟨fun _ => ?_, fun _ => fin' hh (w0 _)⟩
    refine Hand.draw_L hh (by omega) (by omega) fun r h r0 r1 hh => ?_
    have e : r = 0 := by omega
    subst e
    simp [ixN3]; exact fin' hh (w0 _)
  · simp [ixN3]
    exact fin' hh (.inr (.inr ⟨e0, e1, hb, rfl⟩))
theorem refused_L {h : Cell} {ask : Int} {Γ : Gam} {Q : A → Store → Prop} (h0 : 0 ≤ ask) (h2 : ask < 3) (hh : HG h) (q : ∀ h, HG h → Q (.d (.bool true)) [h]) : W (callM .L sem__law_refused [.ref 0, .d (.int ask)]) Γ [h] Q := by
  refine W_callL_cut ?_
  unfold sem__law_refused
  rw [refused_eq]
  have q' : ∀ h ex, HG h → ∃ d μ1 ex', A.d (.bool true) = A.d d ∧ [h, ex] = μ1 ++ ex' ∧ μ1.length = 1 ∧ μ1.all (blC 1) = true ∧ Q (.d d) μ1 := fun h ex hh => ⟨_, [h], [ex], rfl, rfl, rfl, by simp [hh.bl], q h hh⟩
  simp [e_draw]
  refine Hand.draw_L hh (by omega) (by omega) fun n0 h a0 b0 hh => ?_
  refine Hand.draw_L hh (by omega) (by omega) fun n1 h a1 b1 hh => ?_
  refine Hand.draw_L hh (by omega) (by omega) fun n2 h a2 b2 hh => ?_
  simp
  refine Hand.draw_L hh (by omega) (by omega) fun pl h p0 p1 hh => ?_
  obtain ⟨pl, rfl⟩ := Int.eq_ofNat_of_zero_le p0
  have hp : pl < 3 := by omega
  have bnd : bndOf pl + 1 = ([61, 21, 6] : List Int).getD pl 0 := by
    have e : pl = 0 ∨ pl = 1 ∨ pl = 2 := by omega
    rcases e with rfl | rfl | rfl <;> rfl
  have bp : 5 ≤ bndOf pl ∧ bndOf pl ≤ 60 := by
    have e : pl = 0 ∨ pl = 1 ∨ pl = 2 := by omega
    rcases e with rfl | rfl | rfl <;> decide
  simp
  rw [atI_gen (n := pl) (z := PyData.int (bndOf pl + 1)) rfl (by
    rw [bnd]
    have e : pl = 0 ∨ pl = 1 ∨ pl = 2 := by omega
    rcases e with rfl | rfl | rfl <;> rfl)]
  try simp
  refine Hand.draw_L hh (by omega) (by omega) fun r h r0 r1 hh => ?_
  have go : ∀ b, btw b 0 (bndOf pl) = false → Odd1 b → VS m_ref [some (.ref 0), some (.d (.int ask)), some (.ref 1), some (.d (.int pl)), some (.d b), none, none] [h, .lst [.d (.int n0), .d (.int n1), .d (.int n2)]] (ends1 fun x μ' => ∃ d μ1 ex', x = A.d d ∧ μ' = μ1 ++ ex' ∧ μ1.length = 1 ∧ μ1.all (blC 1) = true ∧ Q (.d d) μ1) :=
    fun b hb ho => mid_refused hb ho h0 h2 hh hp ⟨a0, b0⟩ ⟨a1, b1⟩ ⟨a2, b2⟩ q'
  refine ⟨r, rfl, OQ_mem r0 (by simp; omega) fun b hb => ?_⟩
  have ob : btw b 0 (bndOf pl) = false ∧ Odd1 b := by
    simp at hb
    rcases hb with rfl | rfl | rfl | rfl | rfl | rfl | rfl | rfl | rfl
    · exact ⟨by simp [btw]; omega, .int _⟩
    · exact ⟨by simp [btw], .int _⟩
    · exact ⟨rfl, .none⟩
    · exact ⟨rfl, .bool _⟩
    · exact ⟨rfl, .bool _⟩
    · exact ⟨rfl, .str⟩
    · exact ⟨rfl, .tup⟩
    · exact ⟨rfl, .lst⟩
    · exact ⟨by simp [btw]; omega, .int _⟩
  simpa using go b ob.1 ob.2
theorem law_ok (ns : List Int) (hl : ns.length ≤ 63) : ∃ μ, sem_law [.d (.list (ns.map .int))] [] = some (.ok (.d (.bool true)), μ) := by
  have main : WQ sem_law [.d (.list (ns.map .int))] [] fun x _ => x = .d (.bool true) := by
    unfold sem_law b_law
    simp
    rw [e_hand, W_callP_new (Hand.hand_eq ns) (by simp)]
    have h0 : HG (.lst [.d (.list (ns.map .int)), .d (.int 0), .d (.int 0), .d (.int 88172645463325252)]) := ⟨ns, 0, 0, _, rfl, by omega⟩
    simp [shC, shA, e_draw]
    refine Hand.draw_L h0 (by omega) (by omega) fun w h w0 w1 hh => ?_
    try simp
    refine Hand.draw_L hh (by omega) (by omega) fun c h c0 c1 hh => ?_
    try simp
    refine Hand.draw_L hh (by omega) (by omega) fun f h f0 f1 hh => ?_
    obtain ⟨w, rfl⟩ := Int.eq_ofNat_of_zero_le w0
    obtain ⟨f, rfl⟩ := Int.eq_ofNat_of_zero_le f0
    try simp
    refine game_L hh (by omega) (by omega) (by omega) fun h hh => ?_
    try simp
    refine Hand.draw_L hh (by omega) (by omega) fun n h n0 n1 hh => ?_
    try simp
    refine Hand.draw_L hh (by omega) (by omega) fun late h t0 t1 hh => ?_
    try simp
    refine Hand.draw_L hh (by omega) (by omega) fun k h k0 k1 hh => ?_
    try simp
    have tl : ∀ (h : Cell) (w5 w6 : Option A), HG h → VS (forS (rng 0 3) (tN 7) (ifS (notT (truE (callE Mode.L sem__law_refused (acons (var 1) (acons (var 7) anil))))) (retS (con (PyData.bool false))) nextS))
        [some (A.d (PyData.list (List.map PyData.int ns))), some (A.ref 0), some (A.d (PyData.int ↑w)), some (A.d (PyData.int c)), some (A.d (PyData.int ↑f)), w5, w6, none] [h]
        (then1 (seq (ifS (notT (truE (callE Mode.L sem__law_bounds (acons (var 1) anil)))) (retS (con (PyData.bool false))) nextS)
          (retS (callE Mode.L sem__law_game (acons (var 1) (acons (var 2) (acons (var 3) (acons (var 4) (acons (con (PyData.bool true)) anil)))))))) (ends1 fun x _ => x = A.d (PyData.bool true))) := by
      intro h w5 w6 hh
      refine for_rngN 3 (by omega) (fun k Γ μ => ∃ h w7, HG h ∧ Γ = [some (A.d (PyData.list (List.map PyData.int ns))), some (A.ref 0), some (A.d (PyData.int ↑w)), some (A.d (PyData.int c)), some (A.d (PyData.int ↑f)), w5, w6, w7] ∧ μ = [h]) ?_ ?_ ?_
      · exact ⟨h, none, hh, rfl, rfl⟩
      · rintro k Γ μ hk ⟨h, w7, hh, rfl, rfl⟩
        refine ⟨_, rfl, ?_⟩
        simp
        refine refused_L (by omega) (by omega) hh fun h hh => ?_
        simp [hh]
      · rintro Γ μ ⟨h, w7, hh, rfl, rfl⟩
        simp
        refine bounds_L hh fun h hh => ?_
        simp
        exact game_L hh (by omega) (by omega) (by omega) fun h hh => rfl
    refine ⟨fun _ => ?_, fun _ => ?_⟩
    · refine Hand.draw_L hh (by omega) (by omega) fun n h n0 n1 hh => ?_
      simp
      refine Hand.draw_L hh (by omega) (by omega) fun late h t0 t1 hh => ?_
      refine Hand.draw_L hh (by omega) (by omega) fun cc h c0 c1 hh => ?_
      obtain ⟨n, rfl⟩ := Int.eq_ofNat_of_zero_le n0
      obtain ⟨late, rfl⟩ := Int.eq_ofNat_of_zero_le t0
      refine game_L (w := 50 + n) hh (by omega) (by omega) (by omega) fun h hh => ?_
      simp
      exact ⟨okR_of (by omega) (by omega), tl _ _ _ hh⟩
    · refine Hand.draw_L hh (by omega) (by omega) fun cc h c0 c1 hh => ?_
      obtain ⟨n, rfl⟩ := Int.eq_ofNat_of_zero_le n0
      obtain ⟨late, rfl⟩ := Int.eq_ofNat_of_zero_le t0
      refine game_L (w := 10 + n) hh (by omega) (by omega) (by omega) fun h hh => ?_
      simp
      exact ⟨okR_of (by omega) (by omega), tl _ _ _ hh⟩
  obtain ⟨x, μ', e, rfl⟩ := main
  exact ⟨μ', e⟩
end ZL.K78

namespace ZL.K78
open PySem PySem.Spec PyProof.Rows L2
def eps (C_InvalidNumber C_InvalidRows C_StageError : Addr) : String → Addr := fun n => if n = "InvalidNumber" then C_InvalidNumber else if n = "InvalidRows" then C_InvalidRows else if n = "StageError" then C_StageError else 0
theorem all_mk {l : PySem.W.OpenLaw} {w : World} {K : PySem.W.Frag} {h : Heap} {mg : Str → Option Value} {fa : Addr}
    {C_InvalidNumber : Addr}
    {C_InvalidRows : Addr}
    {C_StageError : Addr}
    {nm_InvalidNumber qn_InvalidNumber : Str} {N_InvalidNumber : Addr} {bs_InvalidNumber : List Value} {sn_InvalidNumber : List Str} {su_InvalidNumber : List Value} {ab_InvalidNumber : Bool} {cl_InvalidNumber : Option Bool} {dd_InvalidNumber : Option Addr} {m0_InvalidNumber m1_InvalidNumber m2_InvalidNumber m3_InvalidNumber m5_InvalidNumber : Option Value}
    {f_InvalidNumber : Addr} {od_InvalidNumber an_InvalidNumber : Option Addr} {sl_InvalidNumber : Array (Option Value)} {oc_InvalidNumber kV_InvalidNumber dc_InvalidNumber pm_InvalidNumber cd_InvalidNumber ct_InvalidNumber : Value}
    {tk_MOST_COST : Tok}
    {tk_MOST_FALLS : Tok}
    {tk_MOST_WORK : Tok}
    {f__law_hand : Addr} {od__law_hand an__law_hand : Option Addr} {sl__law_hand : Array (Option Value)} {oc__law_hand kV__law_hand dc__law_hand pm__law_hand cd__law_hand ct__law_hand : Value}
    {f__law_draw : Addr} {od__law_draw an__law_draw : Option Addr} {sl__law_draw : Array (Option Value)} {oc__law_draw kV__law_draw dc__law_draw pm__law_draw cd__law_draw ct__law_draw : Value}
    {f__law_part : Addr} {od__law_part an__law_part : Option Addr} {sl__law_part : Array (Option Value)} {oc__law_part kV__law_part dc__law_part pm__law_part cd__law_part ct__law_part : Value}
    {f__law_least : Addr} {od__law_least an__law_least : Option Addr} {sl__law_least : Array (Option Value)} {oc__law_least kV__law_least dc__law_least pm__law_least cd__law_least ct__law_least : Value}
    {f__law_told : Addr} {od__law_told an__law_told : Option Addr} {sl__law_told : Array (Option Value)} {oc__law_told kV__law_told dc__law_told pm__law_told cd__law_told ct__law_told : Value}
    {f_is_between : Addr} {od_is_between an_is_between : Option Addr} {sl_is_between : Array (Option Value)} {oc_is_between kV_is_between dc_is_between pm_is_between cd_is_between ct_is_between : Value}
    {f_check_number : Addr} {od_check_number an_check_number : Option Addr} {sl_check_number : Array (Option Value)} {oc_check_number kV_check_number dc_check_number pm_check_number cd_check_number ct_check_number : Value}
    {f_check_game : Addr} {od_check_game an_check_game : Option Addr} {sl_check_game : Array (Option Value)} {oc_check_game kV_check_game dc_check_game pm_check_game cd_check_game ct_check_game : Value}
    {f_time_of_part : Addr} {od_time_of_part an_time_of_part : Option Addr} {sl_time_of_part : Array (Option Value)} {oc_time_of_part kV_time_of_part dc_time_of_part pm_time_of_part cd_time_of_part ct_time_of_part : Value}
    {f_best_row : Addr} {od_best_row an_best_row : Option Addr} {sl_best_row : Array (Option Value)} {oc_best_row kV_best_row dc_best_row pm_best_row cd_best_row ct_best_row : Value}
    {f_best_rows : Addr} {od_best_rows an_best_rows : Option Addr} {sl_best_rows : Array (Option Value)} {oc_best_rows kV_best_rows dc_best_rows pm_best_rows cd_best_rows ct_best_rows : Value}
    {f_worst_time : Addr} {od_worst_time an_worst_time : Option Addr} {sl_worst_time : Array (Option Value)} {oc_worst_time kV_worst_time dc_worst_time pm_worst_time cd_worst_time ct_worst_time : Value}
    {f_first_part : Addr} {od_first_part an_first_part : Option Addr} {sl_first_part : Array (Option Value)} {oc_first_part kV_first_part dc_first_part pm_first_part cd_first_part ct_first_part : Value}
    {f_part_table : Addr} {od_part_table an_part_table : Option Addr} {sl_part_table : Array (Option Value)} {oc_part_table kV_part_table dc_part_table pm_part_table cd_part_table ct_part_table : Value}
    {f__law_table : Addr} {od__law_table an__law_table : Option Addr} {sl__law_table : Array (Option Value)} {oc__law_table kV__law_table dc__law_table pm__law_table cd__law_table ct__law_table : Value}
    {f__law_game : Addr} {od__law_game an__law_game : Option Addr} {sl__law_game : Array (Option Value)} {oc__law_game kV__law_game dc__law_game pm__law_game cd__law_game ct__law_game : Value}
    {f__law_bounds : Addr} {od__law_bounds an__law_bounds : Option Addr} {sl__law_bounds : Array (Option Value)} {oc__law_bounds kV__law_bounds dc__law_bounds pm__law_bounds cd__law_bounds ct__law_bounds : Value}
    {f__law_call : Addr} {od__law_call an__law_call : Option Addr} {sl__law_call : Array (Option Value)} {oc__law_call kV__law_call dc__law_call pm__law_call cd__law_call ct__law_call : Value}
    {f__law_same : Addr} {od__law_same an__law_same : Option Addr} {sl__law_same : Array (Option Value)} {oc__law_same kV__law_same dc__law_same pm__law_same cd__law_same ct__law_same : Value}
    {f__law_refused : Addr} {od__law_refused an__law_refused : Option Addr} {sl__law_refused : Array (Option Value)} {oc__law_refused kV__law_refused dc__law_refused pm__law_refused cd__law_refused ct__law_refused : Value}
    {f_law : Addr} {od_law an_law : Option Addr} {sl_law : Array (Option Value)} {oc_law kV_law dc_law pm_law cd_law ct_law : Value}
    (X : K.In h) (G : h.Ns mainGlobals mg) (hfa : mg "law" = some (.ref fa))
    (g_InvalidNumber : PySem.W.nsIn K mainGlobals "InvalidNumber" = some (some (.ref C_InvalidNumber)))
    (g_InvalidRows : PySem.W.nsIn K mainGlobals "InvalidRows" = some (some (.ref C_InvalidRows)))
    (g_StageError : PySem.W.nsIn K mainGlobals "StageError" = some (some (.ref C_StageError)))
    (ehn : PySem.W.specialIn K (.builtin "object.__class__") "__get__" = some (some (.builtin "getset_descriptor.__get__")))
    (eht : PySem.W.takesIn K (.builtin "object.__class__") = some true)
    (ga_InvalidNumber : PySem.W.findIn K (.ref C_InvalidNumber) "__getattribute__" = some (some (.builtin "BaseException.__getattribute__")))
    (gg_InvalidNumber : PySem.W.findIn K (.ref C_InvalidNumber) "__getattr__" = some none)
    (sb_InvalidNumber : PySem.W.subIn K (.ref C_InvalidNumber) (.type "BaseException") = some true)
    (hd_InvalidNumber : PySem.W.hasDictIn K C_InvalidNumber = true)
    (ca_InvalidNumber : PySem.W.findIn K (.ref C_InvalidNumber) "__class__" = some (some (.builtin "object.__class__")))
    (mo_InvalidNumber : PySem.W.mroIn K C_InvalidNumber (.type "object") = some true)
    (ic_InvalidNumber : PySem.W.isClsIn K C_InvalidNumber = true)
    (ty_InvalidNumber : PySem.W.typeIn K (.ref C_InvalidNumber) = some (.type "type"))
    (sv_InvalidNumber : PySem.W.subIn K (.ref C_InvalidNumber) (.type "ValueError") = some true)
    (s_InvalidNumber_InvalidNumber : PySem.W.subIn K (.ref C_InvalidNumber) (.ref C_InvalidNumber) = some true)
    (s_InvalidNumber_InvalidRows : PySem.W.subIn K (.ref C_InvalidNumber) (.ref C_InvalidRows) = some false)
    (s_InvalidNumber_StageError : PySem.W.subIn K (.ref C_InvalidNumber) (.ref C_StageError) = some true)
    (n_InvalidNumber_0 : PySem.W.findIn K (.ref C_InvalidNumber) "number" = some none)
    (ga_InvalidRows : PySem.W.findIn K (.ref C_InvalidRows) "__getattribute__" = some (some (.builtin "BaseException.__getattribute__")))
    (gg_InvalidRows : PySem.W.findIn K (.ref C_InvalidRows) "__getattr__" = some none)
    (sb_InvalidRows : PySem.W.subIn K (.ref C_InvalidRows) (.type "BaseException") = some true)
    (hd_InvalidRows : PySem.W.hasDictIn K C_InvalidRows = true)
    (ca_InvalidRows : PySem.W.findIn K (.ref C_InvalidRows) "__class__" = some (some (.builtin "object.__class__")))
    (mo_InvalidRows : PySem.W.mroIn K C_InvalidRows (.type "object") = some true)
    (ic_InvalidRows : PySem.W.isClsIn K C_InvalidRows = true)
    (ty_InvalidRows : PySem.W.typeIn K (.ref C_InvalidRows) = some (.type "type"))
    (sv_InvalidRows : PySem.W.subIn K (.ref C_InvalidRows) (.type "ValueError") = some true)
    (s_InvalidRows_InvalidNumber : PySem.W.subIn K (.ref C_InvalidRows) (.ref C_InvalidNumber) = some false)
    (s_InvalidRows_InvalidRows : PySem.W.subIn K (.ref C_InvalidRows) (.ref C_InvalidRows) = some true)
    (s_InvalidRows_StageError : PySem.W.subIn K (.ref C_InvalidRows) (.ref C_StageError) = some true)
    (n_InvalidRows_0 : PySem.W.findIn K (.ref C_InvalidRows) "number" = some none)
    (ga_StageError : PySem.W.findIn K (.ref C_StageError) "__getattribute__" = some (some (.builtin "BaseException.__getattribute__")))
    (gg_StageError : PySem.W.findIn K (.ref C_StageError) "__getattr__" = some none)
    (sb_StageError : PySem.W.subIn K (.ref C_StageError) (.type "BaseException") = some true)
    (hd_StageError : PySem.W.hasDictIn K C_StageError = true)
    (ca_StageError : PySem.W.findIn K (.ref C_StageError) "__class__" = some (some (.builtin "object.__class__")))
    (mo_StageError : PySem.W.mroIn K C_StageError (.type "object") = some true)
    (ic_StageError : PySem.W.isClsIn K C_StageError = true)
    (ty_StageError : PySem.W.typeIn K (.ref C_StageError) = some (.type "type"))
    (sv_StageError : PySem.W.subIn K (.ref C_StageError) (.type "ValueError") = some true)
    (s_StageError_InvalidNumber : PySem.W.subIn K (.ref C_StageError) (.ref C_InvalidNumber) = some false)
    (s_StageError_InvalidRows : PySem.W.subIn K (.ref C_StageError) (.ref C_InvalidRows) = some false)
    (s_StageError_StageError : PySem.W.subIn K (.ref C_StageError) (.ref C_StageError) = some true)
    (n_StageError_0 : PySem.W.findIn K (.ref C_StageError) "number" = some none)
    (xL_InvalidNumber : K.lookup C_InvalidNumber = some (excClassObj nm_InvalidNumber qn_InvalidNumber C_InvalidNumber N_InvalidNumber bs_InvalidNumber [.ref C_StageError, .type "ValueError", .type "Exception", .type "BaseException", .type "object"] true sn_InvalidNumber su_InvalidNumber ab_InvalidNumber cl_InvalidNumber dd_InvalidNumber m0_InvalidNumber m1_InvalidNumber m2_InvalidNumber m3_InvalidNumber m5_InvalidNumber "ValueError.__new__"))
    (sa_InvalidNumber : PySem.W.findIn K (.ref C_InvalidNumber) "__setattr__" = some (some (.builtin "object.__setattr__")))
    (kC_InvalidNumber : PySem.W.keepIn K (.ref C_InvalidNumber) = true)
    (nf_InvalidNumber : PySem.W.findIn K (.ref C_InvalidNumber) "number" = some none)
    (a_InvalidNumber : PySem.W.findIn K (.ref C_InvalidNumber) "__init__" = some (some (.ref f_InvalidNumber)))
    (t_InvalidNumber : PySem.W.typeIn K (.ref f_InvalidNumber) = some (.type "function"))
    (l_InvalidNumber : K.lookup f_InvalidNumber = some ⟨oc_InvalidNumber, od_InvalidNumber, .func (PySem.W.fnOf "__init__" "InvalidNumber.__init__" (defArgs i_InvalidNumber) (defBody i_InvalidNumber) (defScope i_InvalidNumber) .none kV_InvalidNumber dc_InvalidNumber pm_InvalidNumber an_InvalidNumber cd_InvalidNumber ct_InvalidNumber), sl_InvalidNumber⟩)
    (cdin_InvalidNumber : PySem.W.codeIn K cd_InvalidNumber "InvalidNumber.__init__" = true)
    (keep_InvalidNumber : PySem.W.keepIn K (.ref f_InvalidNumber) = true)
    (kc_MOST_COST : PySem.W.nsIn K mainGlobals "MOST_COST" = some (some (.int 20 tk_MOST_COST)))
    (kc_MOST_FALLS : PySem.W.nsIn K mainGlobals "MOST_FALLS" = some (some (.int 5 tk_MOST_FALLS)))
    (kc_MOST_WORK : PySem.W.nsIn K mainGlobals "MOST_WORK" = some (some (.int 60 tk_MOST_WORK)))
    (b_ValueError : PySem.W.nsIn K mainGlobals "ValueError" = some none)
    (b_bool : PySem.W.nsIn K mainGlobals "bool" = some none)
    (b_int : PySem.W.nsIn K mainGlobals "int" = some none)
    (b_isinstance : PySem.W.nsIn K mainGlobals "isinstance" = some none)
    (b_len : PySem.W.nsIn K mainGlobals "len" = some none)
    (b_list : PySem.W.nsIn K mainGlobals "list" = some none)
    (b_max : PySem.W.nsIn K mainGlobals "max" = some none)
    (b_range : PySem.W.nsIn K mainGlobals "range" = some none)
    (b_str : PySem.W.nsIn K mainGlobals "str" = some none)
    (b_tuple : PySem.W.nsIn K mainGlobals "tuple" = some none)
    (a__law_hand : PySem.W.nsIn K mainGlobals "_law_hand" = some (some (.ref f__law_hand)))
    (l__law_hand : K.lookup f__law_hand = some ⟨oc__law_hand, od__law_hand, .func (PySem.W.fnOf "_law_hand" "_law_hand" (defArgs s__law_hand) (defBody s__law_hand) (defScope s__law_hand) .none kV__law_hand dc__law_hand pm__law_hand an__law_hand cd__law_hand ct__law_hand), sl__law_hand⟩)
    (cdin__law_hand : PySem.W.codeIn K cd__law_hand "_law_hand" = true)
    (keep__law_hand : PySem.W.keepIn K (.ref f__law_hand) = true)
    (a__law_draw : PySem.W.nsIn K mainGlobals "_law_draw" = some (some (.ref f__law_draw)))
    (l__law_draw : K.lookup f__law_draw = some ⟨oc__law_draw, od__law_draw, .func (PySem.W.fnOf "_law_draw" "_law_draw" (defArgs s__law_draw) (defBody s__law_draw) (defScope s__law_draw) .none kV__law_draw dc__law_draw pm__law_draw an__law_draw cd__law_draw ct__law_draw), sl__law_draw⟩)
    (cdin__law_draw : PySem.W.codeIn K cd__law_draw "_law_draw" = true)
    (keep__law_draw : PySem.W.keepIn K (.ref f__law_draw) = true)
    (a__law_part : PySem.W.nsIn K mainGlobals "_law_part" = some (some (.ref f__law_part)))
    (l__law_part : K.lookup f__law_part = some ⟨oc__law_part, od__law_part, .func (PySem.W.fnOf "_law_part" "_law_part" (defArgs s__law_part) (defBody s__law_part) (defScope s__law_part) .none kV__law_part dc__law_part pm__law_part an__law_part cd__law_part ct__law_part), sl__law_part⟩)
    (cdin__law_part : PySem.W.codeIn K cd__law_part "_law_part" = true)
    (keep__law_part : PySem.W.keepIn K (.ref f__law_part) = true)
    (a__law_least : PySem.W.nsIn K mainGlobals "_law_least" = some (some (.ref f__law_least)))
    (l__law_least : K.lookup f__law_least = some ⟨oc__law_least, od__law_least, .func (PySem.W.fnOf "_law_least" "_law_least" (defArgs s__law_least) (defBody s__law_least) (defScope s__law_least) .none kV__law_least dc__law_least pm__law_least an__law_least cd__law_least ct__law_least), sl__law_least⟩)
    (cdin__law_least : PySem.W.codeIn K cd__law_least "_law_least" = true)
    (keep__law_least : PySem.W.keepIn K (.ref f__law_least) = true)
    (a__law_told : PySem.W.nsIn K mainGlobals "_law_told" = some (some (.ref f__law_told)))
    (l__law_told : K.lookup f__law_told = some ⟨oc__law_told, od__law_told, .func (PySem.W.fnOf "_law_told" "_law_told" (defArgs s__law_told) (defBody s__law_told) (defScope s__law_told) .none kV__law_told dc__law_told pm__law_told an__law_told cd__law_told ct__law_told), sl__law_told⟩)
    (cdin__law_told : PySem.W.codeIn K cd__law_told "_law_told" = true)
    (keep__law_told : PySem.W.keepIn K (.ref f__law_told) = true)
    (a_is_between : PySem.W.nsIn K mainGlobals "is_between" = some (some (.ref f_is_between)))
    (l_is_between : K.lookup f_is_between = some ⟨oc_is_between, od_is_between, .func (PySem.W.fnOf "is_between" "is_between" (defArgs s_is_between) (defBody s_is_between) (defScope s_is_between) .none kV_is_between dc_is_between pm_is_between an_is_between cd_is_between ct_is_between), sl_is_between⟩)
    (cdin_is_between : PySem.W.codeIn K cd_is_between "is_between" = true)
    (keep_is_between : PySem.W.keepIn K (.ref f_is_between) = true)
    (a_check_number : PySem.W.nsIn K mainGlobals "check_number" = some (some (.ref f_check_number)))
    (l_check_number : K.lookup f_check_number = some ⟨oc_check_number, od_check_number, .func (PySem.W.fnOf "check_number" "check_number" (defArgs s_check_number) (defBody s_check_number) (defScope s_check_number) .none kV_check_number dc_check_number pm_check_number an_check_number cd_check_number ct_check_number), sl_check_number⟩)
    (cdin_check_number : PySem.W.codeIn K cd_check_number "check_number" = true)
    (keep_check_number : PySem.W.keepIn K (.ref f_check_number) = true)
    (a_check_game : PySem.W.nsIn K mainGlobals "check_game" = some (some (.ref f_check_game)))
    (l_check_game : K.lookup f_check_game = some ⟨oc_check_game, od_check_game, .func (PySem.W.fnOf "check_game" "check_game" (defArgs s_check_game) (defBody s_check_game) (defScope s_check_game) .none kV_check_game dc_check_game pm_check_game an_check_game cd_check_game ct_check_game), sl_check_game⟩)
    (cdin_check_game : PySem.W.codeIn K cd_check_game "check_game" = true)
    (keep_check_game : PySem.W.keepIn K (.ref f_check_game) = true)
    (a_time_of_part : PySem.W.nsIn K mainGlobals "time_of_part" = some (some (.ref f_time_of_part)))
    (l_time_of_part : K.lookup f_time_of_part = some ⟨oc_time_of_part, od_time_of_part, .func (PySem.W.fnOf "time_of_part" "time_of_part" (defArgs s_time_of_part) (defBody s_time_of_part) (defScope s_time_of_part) .none kV_time_of_part dc_time_of_part pm_time_of_part an_time_of_part cd_time_of_part ct_time_of_part), sl_time_of_part⟩)
    (cdin_time_of_part : PySem.W.codeIn K cd_time_of_part "time_of_part" = true)
    (keep_time_of_part : PySem.W.keepIn K (.ref f_time_of_part) = true)
    (a_best_row : PySem.W.nsIn K mainGlobals "best_row" = some (some (.ref f_best_row)))
    (l_best_row : K.lookup f_best_row = some ⟨oc_best_row, od_best_row, .func (PySem.W.fnOf "best_row" "best_row" (defArgs s_best_row) (defBody s_best_row) (defScope s_best_row) .none kV_best_row dc_best_row pm_best_row an_best_row cd_best_row ct_best_row), sl_best_row⟩)
    (cdin_best_row : PySem.W.codeIn K cd_best_row "best_row" = true)
    (keep_best_row : PySem.W.keepIn K (.ref f_best_row) = true)
    (a_best_rows : PySem.W.nsIn K mainGlobals "best_rows" = some (some (.ref f_best_rows)))
    (l_best_rows : K.lookup f_best_rows = some ⟨oc_best_rows, od_best_rows, .func (PySem.W.fnOf "best_rows" "best_rows" (defArgs s_best_rows) (defBody s_best_rows) (defScope s_best_rows) .none kV_best_rows dc_best_rows pm_best_rows an_best_rows cd_best_rows ct_best_rows), sl_best_rows⟩)
    (cdin_best_rows : PySem.W.codeIn K cd_best_rows "best_rows" = true)
    (keep_best_rows : PySem.W.keepIn K (.ref f_best_rows) = true)
    (a_worst_time : PySem.W.nsIn K mainGlobals "worst_time" = some (some (.ref f_worst_time)))
    (l_worst_time : K.lookup f_worst_time = some ⟨oc_worst_time, od_worst_time, .func (PySem.W.fnOf "worst_time" "worst_time" (defArgs s_worst_time) (defBody s_worst_time) (defScope s_worst_time) .none kV_worst_time dc_worst_time pm_worst_time an_worst_time cd_worst_time ct_worst_time), sl_worst_time⟩)
    (cdin_worst_time : PySem.W.codeIn K cd_worst_time "worst_time" = true)
    (keep_worst_time : PySem.W.keepIn K (.ref f_worst_time) = true)
    (a_first_part : PySem.W.nsIn K mainGlobals "first_part" = some (some (.ref f_first_part)))
    (l_first_part : K.lookup f_first_part = some ⟨oc_first_part, od_first_part, .func (PySem.W.fnOf "first_part" "first_part" (defArgs s_first_part) (defBody s_first_part) (defScope s_first_part) .none kV_first_part dc_first_part pm_first_part an_first_part cd_first_part ct_first_part), sl_first_part⟩)
    (cdin_first_part : PySem.W.codeIn K cd_first_part "first_part" = true)
    (keep_first_part : PySem.W.keepIn K (.ref f_first_part) = true)
    (a_part_table : PySem.W.nsIn K mainGlobals "part_table" = some (some (.ref f_part_table)))
    (l_part_table : K.lookup f_part_table = some ⟨oc_part_table, od_part_table, .func (PySem.W.fnOf "part_table" "part_table" (defArgs s_part_table) (defBody s_part_table) (defScope s_part_table) .none kV_part_table dc_part_table pm_part_table an_part_table cd_part_table ct_part_table), sl_part_table⟩)
    (cdin_part_table : PySem.W.codeIn K cd_part_table "part_table" = true)
    (keep_part_table : PySem.W.keepIn K (.ref f_part_table) = true)
    (a__law_table : PySem.W.nsIn K mainGlobals "_law_table" = some (some (.ref f__law_table)))
    (l__law_table : K.lookup f__law_table = some ⟨oc__law_table, od__law_table, .func (PySem.W.fnOf "_law_table" "_law_table" (defArgs s__law_table) (defBody s__law_table) (defScope s__law_table) .none kV__law_table dc__law_table pm__law_table an__law_table cd__law_table ct__law_table), sl__law_table⟩)
    (cdin__law_table : PySem.W.codeIn K cd__law_table "_law_table" = true)
    (keep__law_table : PySem.W.keepIn K (.ref f__law_table) = true)
    (a__law_game : PySem.W.nsIn K mainGlobals "_law_game" = some (some (.ref f__law_game)))
    (l__law_game : K.lookup f__law_game = some ⟨oc__law_game, od__law_game, .func (PySem.W.fnOf "_law_game" "_law_game" (defArgs s__law_game) (defBody s__law_game) (defScope s__law_game) .none kV__law_game dc__law_game pm__law_game an__law_game cd__law_game ct__law_game), sl__law_game⟩)
    (cdin__law_game : PySem.W.codeIn K cd__law_game "_law_game" = true)
    (keep__law_game : PySem.W.keepIn K (.ref f__law_game) = true)
    (a__law_bounds : PySem.W.nsIn K mainGlobals "_law_bounds" = some (some (.ref f__law_bounds)))
    (l__law_bounds : K.lookup f__law_bounds = some ⟨oc__law_bounds, od__law_bounds, .func (PySem.W.fnOf "_law_bounds" "_law_bounds" (defArgs s__law_bounds) (defBody s__law_bounds) (defScope s__law_bounds) .none kV__law_bounds dc__law_bounds pm__law_bounds an__law_bounds cd__law_bounds ct__law_bounds), sl__law_bounds⟩)
    (cdin__law_bounds : PySem.W.codeIn K cd__law_bounds "_law_bounds" = true)
    (keep__law_bounds : PySem.W.keepIn K (.ref f__law_bounds) = true)
    (a__law_call : PySem.W.nsIn K mainGlobals "_law_call" = some (some (.ref f__law_call)))
    (l__law_call : K.lookup f__law_call = some ⟨oc__law_call, od__law_call, .func (PySem.W.fnOf "_law_call" "_law_call" (defArgs s__law_call) (defBody s__law_call) (defScope s__law_call) .none kV__law_call dc__law_call pm__law_call an__law_call cd__law_call ct__law_call), sl__law_call⟩)
    (cdin__law_call : PySem.W.codeIn K cd__law_call "_law_call" = true)
    (keep__law_call : PySem.W.keepIn K (.ref f__law_call) = true)
    (a__law_same : PySem.W.nsIn K mainGlobals "_law_same" = some (some (.ref f__law_same)))
    (l__law_same : K.lookup f__law_same = some ⟨oc__law_same, od__law_same, .func (PySem.W.fnOf "_law_same" "_law_same" (defArgs s__law_same) (defBody s__law_same) (defScope s__law_same) .none kV__law_same dc__law_same pm__law_same an__law_same cd__law_same ct__law_same), sl__law_same⟩)
    (cdin__law_same : PySem.W.codeIn K cd__law_same "_law_same" = true)
    (keep__law_same : PySem.W.keepIn K (.ref f__law_same) = true)
    (a__law_refused : PySem.W.nsIn K mainGlobals "_law_refused" = some (some (.ref f__law_refused)))
    (l__law_refused : K.lookup f__law_refused = some ⟨oc__law_refused, od__law_refused, .func (PySem.W.fnOf "_law_refused" "_law_refused" (defArgs s__law_refused) (defBody s__law_refused) (defScope s__law_refused) .none kV__law_refused dc__law_refused pm__law_refused an__law_refused cd__law_refused ct__law_refused), sl__law_refused⟩)
    (cdin__law_refused : PySem.W.codeIn K cd__law_refused "_law_refused" = true)
    (keep__law_refused : PySem.W.keepIn K (.ref f__law_refused) = true)
    (a_law : PySem.W.nsIn K mainGlobals "law" = some (some (.ref f_law)))
    (l_law : K.lookup f_law = some ⟨oc_law, od_law, .func (PySem.W.fnOf "law" "law" (defArgs s_law) (defBody s_law) (defScope s_law) .none kV_law dc_law pm_law an_law cd_law ct_law), sl_law⟩)
    (cdin_law : PySem.W.codeIn K cd_law "law" = true)
    (keep_law : PySem.W.keepIn K (.ref f_law) = true)
    : ∃ fd : FuncData, (∀ (s : Shared) (v : Value), BindsTo s fd ⟨[v], []⟩ [("script", v)]) ∧ ∀ base : Heap, K.In base → base.Ns mainGlobals mg → FnOk l.prog w K mg base CX0 9 fa fd ["script"] (spLaw K) := by
  have e := hfa.symm.trans (PySem.W.mg_of X G a_law)
  cases e
  generalize hε : (eps C_InvalidNumber C_InvalidRows C_StageError) = ε
  have e_InvalidNumber : ε "InvalidNumber" = C_InvalidNumber := by rw [← hε]; simp [eps]
  have e_InvalidRows : ε "InvalidRows" = C_InvalidRows := by rw [← hε]; simp [eps]
  have e_StageError : ε "StageError" = C_StageError := by rw [← hε]; simp [eps]
  have F__law_hand := fun_mk (st := s__law_hand) l__law_hand cdin__law_hand keep__law_hand
  have B__law_hand := F__law_hand.binds (ps := ["script"]) fun _ _ _ _ _ _ us hl => match us, hl with | [_], _ => rfl
  have D__law_hand : DefZ K mg "_law_hand" s__law_hand ["script"] := ⟨_, _, F__law_hand, PySem.W.mg_of X G a__law_hand, B__law_hand⟩
  have F__law_draw := fun_mk (st := s__law_draw) l__law_draw cdin__law_draw keep__law_draw
  have B__law_draw := F__law_draw.binds (ps := ["hand", "many"]) fun _ _ _ _ _ _ us hl => match us, hl with | [_, _], _ => rfl
  have D__law_draw : DefZ K mg "_law_draw" s__law_draw ["hand", "many"] := ⟨_, _, F__law_draw, PySem.W.mg_of X G a__law_draw, B__law_draw⟩
  have F__law_part := fun_mk (st := s__law_part) l__law_part cdin__law_part keep__law_part
  have B__law_part := F__law_part.binds (ps := ["n", "p", "cost", "time", "fewer", "whole"]) fun _ _ _ _ _ _ us hl => match us, hl with | [_, _, _, _, _, _], _ => rfl
  have D__law_part : DefZ K mg "_law_part" s__law_part ["n", "p", "cost", "time", "fewer", "whole"] := ⟨_, _, F__law_part, PySem.W.mg_of X G a__law_part, B__law_part⟩
  have F__law_least := fun_mk (st := s__law_least) l__law_least cdin__law_least keep__law_least
  have B__law_least := F__law_least.binds (ps := ["work", "cost", "falls", "whole"]) fun _ _ _ _ _ _ us hl => match us, hl with | [_, _, _, _], _ => rfl
  have D__law_least : DefZ K mg "_law_least" s__law_least ["work", "cost", "falls", "whole"] := ⟨_, _, F__law_least, PySem.W.mg_of X G a__law_least, B__law_least⟩
  have F__law_told := fun_mk (st := s__law_told) l__law_told cdin__law_told keep__law_told
  have B__law_told := F__law_told.binds (ps := ["told", "due"]) fun _ _ _ _ _ _ us hl => match us, hl with | [_, _], _ => rfl
  have D__law_told : DefZ K mg "_law_told" s__law_told ["told", "due"] := ⟨_, _, F__law_told, PySem.W.mg_of X G a__law_told, B__law_told⟩
  have F_is_between := fun_mk (st := s_is_between) l_is_between cdin_is_between keep_is_between
  have B_is_between := F_is_between.binds (ps := ["value", "least", "most"]) fun _ _ _ _ _ _ us hl => match us, hl with | [_, _, _], _ => rfl
  have D_is_between : DefZ K mg "is_between" s_is_between ["value", "least", "most"] := ⟨_, _, F_is_between, PySem.W.mg_of X G a_is_between, B_is_between⟩
  have F_check_number := fun_mk (st := s_check_number) l_check_number cdin_check_number keep_check_number
  have B_check_number := F_check_number.binds (ps := ["value", "least", "most"]) fun _ _ _ _ _ _ us hl => match us, hl with | [_, _, _], _ => rfl
  have D_check_number : DefZ K mg "check_number" s_check_number ["value", "least", "most"] := ⟨_, _, F_check_number, PySem.W.mg_of X G a_check_number, B_check_number⟩
  have F_check_game := fun_mk (st := s_check_game) l_check_game cdin_check_game keep_check_game
  have B_check_game := F_check_game.binds (ps := ["work", "cost", "falls"]) fun _ _ _ _ _ _ us hl => match us, hl with | [_, _, _], _ => rfl
  have D_check_game : DefZ K mg "check_game" s_check_game ["work", "cost", "falls"] := ⟨_, _, F_check_game, PySem.W.mg_of X G a_check_game, B_check_game⟩
  have F_time_of_part := fun_mk (st := s_time_of_part) l_time_of_part cdin_time_of_part keep_time_of_part
  have B_time_of_part := F_time_of_part.binds (ps := ["part", "left", "cost", "times", "fewer"]) fun _ _ _ _ _ _ us hl => match us, hl with | [_, _, _, _, _], _ => rfl
  have D_time_of_part : DefZ K mg "time_of_part" s_time_of_part ["part", "left", "cost", "times", "fewer"] := ⟨_, _, F_time_of_part, PySem.W.mg_of X G a_time_of_part, B_time_of_part⟩
  have F_best_row := fun_mk (st := s_best_row) l_best_row cdin_best_row keep_best_row
  have B_best_row := F_best_row.binds (ps := ["work", "cost", "fewer"]) fun _ _ _ _ _ _ us hl => match us, hl with | [_, _, _], _ => rfl
  have D_best_row : DefZ K mg "best_row" s_best_row ["work", "cost", "fewer"] := ⟨_, _, F_best_row, PySem.W.mg_of X G a_best_row, B_best_row⟩
  have F_best_rows := fun_mk (st := s_best_rows) l_best_rows cdin_best_rows keep_best_rows
  have B_best_rows := F_best_rows.binds (ps := ["work", "cost", "falls"]) fun _ _ _ _ _ _ us hl => match us, hl with | [_, _, _], _ => rfl
  have D_best_rows : DefZ K mg "best_rows" s_best_rows ["work", "cost", "falls"] := ⟨_, _, F_best_rows, PySem.W.mg_of X G a_best_rows, B_best_rows⟩
  have F_worst_time := fun_mk (st := s_worst_time) l_worst_time cdin_worst_time keep_worst_time
  have B_worst_time := F_worst_time.binds (ps := ["work", "cost", "falls"]) fun _ _ _ _ _ _ us hl => match us, hl with | [_, _, _], _ => rfl
  have D_worst_time : DefZ K mg "worst_time" s_worst_time ["work", "cost", "falls"] := ⟨_, _, F_worst_time, PySem.W.mg_of X G a_worst_time, B_worst_time⟩
  have F_first_part := fun_mk (st := s_first_part) l_first_part cdin_first_part keep_first_part
  have B_first_part := F_first_part.binds (ps := ["work", "cost", "falls"]) fun _ _ _ _ _ _ us hl => match us, hl with | [_, _, _], _ => rfl
  have D_first_part : DefZ K mg "first_part" s_first_part ["work", "cost", "falls"] := ⟨_, _, F_first_part, PySem.W.mg_of X G a_first_part, B_first_part⟩
  have F_part_table := fun_mk (st := s_part_table) l_part_table cdin_part_table keep_part_table
  have B_part_table := F_part_table.binds (ps := ["work", "cost", "falls"]) fun _ _ _ _ _ _ us hl => match us, hl with | [_, _, _], _ => rfl
  have D_part_table : DefZ K mg "part_table" s_part_table ["work", "cost", "falls"] := ⟨_, _, F_part_table, PySem.W.mg_of X G a_part_table, B_part_table⟩
  have F__law_table := fun_mk (st := s__law_table) l__law_table cdin__law_table keep__law_table
  have B__law_table := F__law_table.binds (ps := ["work", "cost", "falls", "parts"]) fun _ _ _ _ _ _ us hl => match us, hl with | [_, _, _, _], _ => rfl
  have D__law_table : DefZ K mg "_law_table" s__law_table ["work", "cost", "falls", "parts"] := ⟨_, _, F__law_table, PySem.W.mg_of X G a__law_table, B__law_table⟩
  have F__law_game := fun_mk (st := s__law_game) l__law_game cdin__law_game keep__law_game
  have B__law_game := F__law_game.binds (ps := ["hand", "work", "cost", "falls", "whole"]) fun _ _ _ _ _ _ us hl => match us, hl with | [_, _, _, _, _], _ => rfl
  have D__law_game : DefZ K mg "_law_game" s__law_game ["hand", "work", "cost", "falls", "whole"] := ⟨_, _, F__law_game, PySem.W.mg_of X G a__law_game, B__law_game⟩
  have F__law_bounds := fun_mk (st := s__law_bounds) l__law_bounds cdin__law_bounds keep__law_bounds
  have B__law_bounds := F__law_bounds.binds (ps := ["hand"]) fun _ _ _ _ _ _ us hl => match us, hl with | [_], _ => rfl
  have D__law_bounds : DefZ K mg "_law_bounds" s__law_bounds ["hand"] := ⟨_, _, F__law_bounds, PySem.W.mg_of X G a__law_bounds, B__law_bounds⟩
  have F__law_call := fun_mk (st := s__law_call) l__law_call cdin__law_call keep__law_call
  have B__law_call := F__law_call.binds (ps := ["ask", "numbers"]) fun _ _ _ _ _ _ us hl => match us, hl with | [_, _], _ => rfl
  have D__law_call : DefZ K mg "_law_call" s__law_call ["ask", "numbers"] := ⟨_, _, F__law_call, PySem.W.mg_of X G a__law_call, B__law_call⟩
  have F__law_same := fun_mk (st := s__law_same) l__law_same cdin__law_same keep__law_same
  have B__law_same := F__law_same.binds (ps := ["told", "due"]) fun _ _ _ _ _ _ us hl => match us, hl with | [_, _], _ => rfl
  have D__law_same : DefZ K mg "_law_same" s__law_same ["told", "due"] := ⟨_, _, F__law_same, PySem.W.mg_of X G a__law_same, B__law_same⟩
  have F__law_refused := fun_mk (st := s__law_refused) l__law_refused cdin__law_refused keep__law_refused
  have B__law_refused := F__law_refused.binds (ps := ["hand", "ask"]) fun _ _ _ _ _ _ us hl => match us, hl with | [_, _], _ => rfl
  have D__law_refused : DefZ K mg "_law_refused" s__law_refused ["hand", "ask"] := ⟨_, _, F__law_refused, PySem.W.mg_of X G a__law_refused, B__law_refused⟩
  have F_law := fun_mk (st := s_law) l_law cdin_law keep_law
  have B_law := F_law.binds (ps := ["script"]) fun _ _ _ _ _ _ us hl => match us, hl with | [_], _ => rfl
  have D_law : DefZ K mg "law" s_law ["script"] := ⟨_, _, F_law, PySem.W.mg_of X G a_law, B_law⟩
  have E_InvalidNumber : ExcC K (ε "InvalidNumber") := by rw [e_InvalidNumber]; exact ⟨ga_InvalidNumber, gg_InvalidNumber, sb_InvalidNumber, hd_InvalidNumber, ca_InvalidNumber, ehn, eht, mo_InvalidNumber⟩
  have E_InvalidRows : ExcC K (ε "InvalidRows") := by rw [e_InvalidRows]; exact ⟨ga_InvalidRows, gg_InvalidRows, sb_InvalidRows, hd_InvalidRows, ca_InvalidRows, ehn, eht, mo_InvalidRows⟩
  have E_StageError : ExcC K (ε "StageError") := by rw [e_StageError]; exact ⟨ga_StageError, gg_StageError, sb_StageError, hd_StageError, ca_StageError, ehn, eht, mo_StageError⟩
  have xt : XT K ε kn sub := by
    refine ⟨fun n hn => ?_, fun n hn m hm => ?_, fun n hn => ?_, fun n hn m hm => ?_⟩
    · simp only [kn, List.mem_cons, List.not_mem_nil, or_false] at hn; rcases hn with rfl | rfl | rfl
      · exact E_InvalidNumber
      · exact E_InvalidRows
      · exact E_StageError
    · simp only [kn, List.mem_cons, List.not_mem_nil, or_false] at hn; rcases hn with rfl | rfl | rfl <;> (simp only [kn, List.mem_cons, List.not_mem_nil, or_false] at hm; rcases hm with rfl | rfl | rfl)
      · rw [e_InvalidNumber]; exact kit_by (exm_by sb_InvalidNumber ic_InvalidNumber ty_InvalidNumber s_InvalidNumber_InvalidNumber).2 s_InvalidNumber_InvalidNumber s_InvalidNumber_InvalidNumber
      · rw [e_InvalidNumber, e_InvalidRows]; exact kit_by (exm_by sb_InvalidRows ic_InvalidRows ty_InvalidRows s_InvalidNumber_InvalidRows).2 s_InvalidNumber_InvalidNumber s_InvalidNumber_InvalidRows
      · rw [e_InvalidNumber, e_StageError]; exact kit_by (exm_by sb_StageError ic_StageError ty_StageError s_InvalidNumber_StageError).2 s_InvalidNumber_InvalidNumber s_InvalidNumber_StageError
      · rw [e_InvalidRows, e_InvalidNumber]; exact kit_by (exm_by sb_InvalidNumber ic_InvalidNumber ty_InvalidNumber s_InvalidRows_InvalidNumber).2 s_InvalidRows_InvalidRows s_InvalidRows_InvalidNumber
      · rw [e_InvalidRows]; exact kit_by (exm_by sb_InvalidRows ic_InvalidRows ty_InvalidRows s_InvalidRows_InvalidRows).2 s_InvalidRows_InvalidRows s_InvalidRows_InvalidRows
      · rw [e_InvalidRows, e_StageError]; exact kit_by (exm_by sb_StageError ic_StageError ty_StageError s_InvalidRows_StageError).2 s_InvalidRows_InvalidRows s_InvalidRows_StageError
      · rw [e_StageError, e_InvalidNumber]; exact kit_by (exm_by sb_InvalidNumber ic_InvalidNumber ty_InvalidNumber s_StageError_InvalidNumber).2 s_StageError_StageError s_StageError_InvalidNumber
      · rw [e_StageError, e_InvalidRows]; exact kit_by (exm_by sb_InvalidRows ic_InvalidRows ty_InvalidRows s_StageError_InvalidRows).2 s_StageError_StageError s_StageError_InvalidRows
      · rw [e_StageError]; exact kit_by (exm_by sb_StageError ic_StageError ty_StageError s_StageError_StageError).2 s_StageError_StageError s_StageError_StageError
    · simp only [kn, List.mem_cons, List.not_mem_nil, or_false] at hn; rcases hn with rfl | rfl | rfl
      · rw [e_InvalidNumber]; exact kitV_by sv_InvalidNumber
      · rw [e_InvalidRows]; exact kitV_by sv_InvalidRows
      · rw [e_StageError]; exact kitV_by sv_StageError
    · simp only [kn, List.mem_cons, List.not_mem_nil, or_false] at hn; rcases hn with rfl | rfl | rfl <;> (simp only [kn, List.mem_cons, List.not_mem_nil, or_false] at hm; rcases hm with rfl | rfl | rfl)
      · rw [e_InvalidNumber]; exact (exm_by sb_InvalidNumber ic_InvalidNumber ty_InvalidNumber s_InvalidNumber_InvalidNumber).1
      · rw [e_InvalidNumber, e_InvalidRows]; exact (exm_by sb_InvalidRows ic_InvalidRows ty_InvalidRows s_InvalidNumber_InvalidRows).1
      · rw [e_InvalidNumber, e_StageError]; exact (exm_by sb_StageError ic_StageError ty_StageError s_InvalidNumber_StageError).1
      · rw [e_InvalidRows, e_InvalidNumber]; exact (exm_by sb_InvalidNumber ic_InvalidNumber ty_InvalidNumber s_InvalidRows_InvalidNumber).1
      · rw [e_InvalidRows]; exact (exm_by sb_InvalidRows ic_InvalidRows ty_InvalidRows s_InvalidRows_InvalidRows).1
      · rw [e_InvalidRows, e_StageError]; exact (exm_by sb_StageError ic_StageError ty_StageError s_InvalidRows_StageError).1
      · rw [e_StageError, e_InvalidNumber]; exact (exm_by sb_InvalidNumber ic_InvalidNumber ty_InvalidNumber s_StageError_InvalidNumber).1
      · rw [e_StageError, e_InvalidRows]; exact (exm_by sb_InvalidRows ic_InvalidRows ty_InvalidRows s_StageError_InvalidRows).1
      · rw [e_StageError]; exact (exm_by sb_StageError ic_StageError ty_StageError s_StageError_StageError).1
  refine ⟨PySem.W.fnOf "law" "law" (defArgs s_law) (defBody s_law) (defScope s_law) .none kV_law dc_law pm_law an_law cd_law ct_law, fun s v => .of_eq rfl, fun base _ _ => ?_⟩
  have FI_InvalidNumber := fun_mk (st := i_InvalidNumber) l_InvalidNumber cdin_InvalidNumber keep_InvalidNumber
  have T_InvalidNumber : OexC K C_InvalidNumber := ⟨⟨_, _, _, _, _, _, _, _, _, _, _, _, _, _, _, xL_InvalidNumber, by first | rfl | decide +kernel⟩, sa_InvalidNumber, sb_InvalidNumber, ty_InvalidNumber, kC_InvalidNumber⟩
  have X_InvalidNumber : ExK l.prog w K mg base ε "InvalidNumber" "InvalidNumber" "number" := by
    have h3 := ok_excInit (P := l.prog) (w := w) (mg := mg) (base := base) FI_InvalidNumber ⟨rfl, rfl, rfl, by decide +kernel, rfl, by decide +kernel, by decide +kernel⟩ T_InvalidNumber nf_InvalidNumber rfl rfl rfl rfl rfl (fun _ => rfl)
    have h4 := FI_InvalidNumber.binds (ps := ["self", "number"]) fun _ _ _ _ _ _ us hl => match us, hl with | [_, _], _ => rfl
    exact ⟨by rw [e_InvalidNumber]; exact T_InvalidNumber, by rw [e_InvalidNumber]; exact PySem.W.mg_of X G g_InvalidNumber, by rw [e_InvalidNumber]; exact nf_InvalidNumber, ⟨_, _, by rw [e_InvalidNumber]; exact a_InvalidNumber, t_InvalidNumber, by rw [e_InvalidNumber]; exact h3, h4⟩, E_InvalidNumber⟩
  have T : Txt l.prog w K mg base ε :=
    { xt := xt
      nf := by
        intro n hn f hf
        simp only [kn, List.mem_cons, List.not_mem_nil, or_false] at hn; rcases hn with rfl | rfl | rfl <;> (simp only [List.mem_cons, List.not_mem_nil, or_false] at hf; rcases hf with rfl)
        · rw [e_InvalidNumber]; exact n_InvalidNumber_0
        · rw [e_InvalidRows]; exact n_InvalidRows_0
        · rw [e_StageError]; exact n_StageError_0
      b_ValueError := PySem.W.mg_none_of X G b_ValueError
      b_bool := PySem.W.mg_none_of X G b_bool
      b_int := PySem.W.mg_none_of X G b_int
      b_isinstance := PySem.W.mg_none_of X G b_isinstance
      b_len := PySem.W.mg_none_of X G b_len
      b_list := PySem.W.mg_none_of X G b_list
      b_max := PySem.W.mg_none_of X G b_max
      b_range := PySem.W.mg_none_of X G b_range
      b_str := PySem.W.mg_none_of X G b_str
      b_tuple := PySem.W.mg_none_of X G b_tuple
      k_MOST_COST := ⟨_, PySem.W.mg_of X G kc_MOST_COST⟩
      k_MOST_FALLS := ⟨_, PySem.W.mg_of X G kc_MOST_FALLS⟩
      k_MOST_WORK := ⟨_, PySem.W.mg_of X G kc_MOST_WORK⟩
      g_InvalidNumber := by rw [e_InvalidNumber]; exact PySem.W.mg_of X G g_InvalidNumber
      g_InvalidRows := by rw [e_InvalidRows]; exact PySem.W.mg_of X G g_InvalidRows
      g_StageError := by rw [e_StageError]; exact PySem.W.mg_of X G g_StageError
      x_InvalidNumber := X_InvalidNumber
    }
  have Z__law_hand := c__law_hand T D__law_hand 
  have Z__law_draw := c__law_draw T D__law_draw 
  have Z__law_part := c__law_part T D__law_part 
  have Z__law_least := c__law_least T D__law_least Z__law_part
  have Z__law_told := c__law_told T D__law_told 
  have H__law_told := qc__law_told T D__law_told 
  have Z_is_between := c_is_between T D_is_between 
  have Z_check_number := c_check_number T D_check_number Z_is_between
  have Z_check_game := c_check_game T D_check_game Z_check_number
  have Z_time_of_part := c_time_of_part T D_time_of_part 
  have Z_best_row := c_best_row T D_best_row Z_time_of_part
  have Z_best_rows := c_best_rows T D_best_rows Z_best_row
  have Z_worst_time := c_worst_time T D_worst_time Z_check_game Z_best_rows
  have Z_first_part := c_first_part T D_first_part Z_check_game Z_best_rows
  have Z_part_table := c_part_table T D_part_table Z_check_game Z_best_rows
  have Z__law_table := c__law_table T D__law_table Z_part_table Z__law_told
  have Z__law_game := c__law_game T D__law_game Z__law_least Z__law_draw Z__law_told Z_worst_time Z_first_part Z__law_table
  have Z__law_bounds := c__law_bounds T D__law_bounds Z__law_draw Z__law_told Z_worst_time Z_first_part
  have Z__law_call := c__law_call T D__law_call Z_part_table Z_worst_time Z_first_part
  have Z__law_same := c__law_same T D__law_same Z__law_told
  have H__law_same := qc__law_same T D__law_same H__law_told
  have Z__law_refused := c__law_refused T D__law_refused Z__law_draw Z__law_call Z__law_same H__law_same
  exact z_law (ok_law T F_law Z__law_hand Z__law_draw Z__law_game Z__law_bounds Z__law_refused) rfl law_ok
theorem walk {l : PySem.W.OpenLaw} {q : Program} {loose : List Str} {XP : (Str → Option Value) → Heap → Prop} {YP : World → Heap → Prop} {d : DefRec} {K : Params → PySem.W.Frag} (hn : l.most = some 63) (hdf : d.params.defaults = [])
    (hY : ∀ (w : World) (h : Heap), YP w h → (K w.params).In h)
    (F : ∀ (w : World) (mg : Str → Option Value) (fa : Addr) (h : Heap), (K w.params).In h → h.Ns mainGlobals mg → mg d.name = some (.ref fa) →
      ∃ fd : FuncData, (∀ (s : Shared) (u : Value), BindsTo s fd ⟨[u], []⟩ [("script", u)]) ∧
        ∀ base : Heap, (K w.params).In base → base.Ns mainGlobals mg → FnOk l.prog w (K w.params) mg base CX0 9 fa fd ["script"] (spLaw (K w.params))) :
    PySem.W.WalkO q loose XP YP l.row.toRowW d [] (fun f vs => PySem.call f vs) :=
  L2.walk_of (n := 63) (k := 9) (x := "script") (CX := fun _ => CX0) (sp := fun w => spLaw (K w.params)) hn (by decide) hdf ⟨rfl, by decide, by decide⟩ hY F
    (fun _ _ a ns hl _ hS => ⟨a, ns, rfl, hS, hl, fun _ => rfl⟩) fun _ _ _ _ _ z => z
end ZL.K78
open PySem PySem.W PyProof.Rows
set_option maxRecDepth 100000 in
set_option maxHeartbeats 0 in
theorem PySem.Challenge.cw_everystage_k78_whole_games_by_all_parts_holds : PySem.Challenge.rw_everystage_k78_whole_games_by_all_parts.Holds := by
  w_on; o_law; k_head; (case hw => w_witness2)
  k_fill
  refine ZL.K78.walk (l := PySem.Challenge.rw_everystage_k78_whole_games_by_all_parts) rfl rfl (fun w h Y => PySem.W.kIn_of Y) ?F
  case F =>
    intro w mg fa h KX G hmg
    refine' ZL.K78.all_mk KX G hmg ?g_InvalidNumber ?g_InvalidRows ?g_StageError ?ehn ?eht ?ga_InvalidNumber ?gg_InvalidNumber ?sb_InvalidNumber ?hd_InvalidNumber ?ca_InvalidNumber ?mo_InvalidNumber ?ic_InvalidNumber ?ty_InvalidNumber ?sv_InvalidNumber ?s_InvalidNumber_InvalidNumber ?s_InvalidNumber_InvalidRows ?s_InvalidNumber_StageError ?n_InvalidNumber_0 ?ga_InvalidRows ?gg_InvalidRows ?sb_InvalidRows ?hd_InvalidRows ?ca_InvalidRows ?mo_InvalidRows ?ic_InvalidRows ?ty_InvalidRows ?sv_InvalidRows ?s_InvalidRows_InvalidNumber ?s_InvalidRows_InvalidRows ?s_InvalidRows_StageError ?n_InvalidRows_0 ?ga_StageError ?gg_StageError ?sb_StageError ?hd_StageError ?ca_StageError ?mo_StageError ?ic_StageError ?ty_StageError ?sv_StageError ?s_StageError_InvalidNumber ?s_StageError_InvalidRows ?s_StageError_StageError ?n_StageError_0 ?xL_InvalidNumber ?sa_InvalidNumber ?kC_InvalidNumber ?nf_InvalidNumber ?a_InvalidNumber ?t_InvalidNumber ?l_InvalidNumber ?cdin_InvalidNumber ?keep_InvalidNumber ?kc_MOST_COST ?kc_MOST_FALLS ?kc_MOST_WORK ?b_ValueError ?b_bool ?b_int ?b_isinstance ?b_len ?b_list ?b_max ?b_range ?b_str ?b_tuple ?a__law_hand ?l__law_hand ?cdin__law_hand ?keep__law_hand ?a__law_draw ?l__law_draw ?cdin__law_draw ?keep__law_draw ?a__law_part ?l__law_part ?cdin__law_part ?keep__law_part ?a__law_least ?l__law_least ?cdin__law_least ?keep__law_least ?a__law_told ?l__law_told ?cdin__law_told ?keep__law_told ?a_is_between ?l_is_between ?cdin_is_between ?keep_is_between ?a_check_number ?l_check_number ?cdin_check_number ?keep_check_number ?a_check_game ?l_check_game ?cdin_check_game ?keep_check_game ?a_time_of_part ?l_time_of_part ?cdin_time_of_part ?keep_time_of_part ?a_best_row ?l_best_row ?cdin_best_row ?keep_best_row ?a_best_rows ?l_best_rows ?cdin_best_rows ?keep_best_rows ?a_worst_time ?l_worst_time ?cdin_worst_time ?keep_worst_time ?a_first_part ?l_first_part ?cdin_first_part ?keep_first_part ?a_part_table ?l_part_table ?cdin_part_table ?keep_part_table ?a__law_table ?l__law_table ?cdin__law_table ?keep__law_table ?a__law_game ?l__law_game ?cdin__law_game ?keep__law_game ?a__law_bounds ?l__law_bounds ?cdin__law_bounds ?keep__law_bounds ?a__law_call ?l__law_call ?cdin__law_call ?keep__law_call ?a__law_same ?l__law_same ?cdin__law_same ?keep__law_same ?a__law_refused ?l__law_refused ?cdin__law_refused ?keep__law_refused ?a_law ?l_law ?cdin_law ?keep_law
    (case g_InvalidNumber => k_is)
    (case g_InvalidRows => k_is)
    (case g_StageError => k_is)
    (case ehn => k_is)
    (case eht => k_is)
    (case ga_InvalidNumber => k_is)
    (case gg_InvalidNumber => k_is)
    (case sb_InvalidNumber => k_is)
    (case hd_InvalidNumber => k_is)
    (case ca_InvalidNumber => k_is)
    (case mo_InvalidNumber => k_is)
    (case ic_InvalidNumber => k_is)
    (case ty_InvalidNumber => k_is)
    (case sv_InvalidNumber => k_is)
    (case s_InvalidNumber_InvalidNumber => k_is)
    (case s_InvalidNumber_InvalidRows => k_is)
    (case s_InvalidNumber_StageError => k_is)
    (case n_InvalidNumber_0 => k_is)
    (case ga_InvalidRows => k_is)
    (case gg_InvalidRows => k_is)
    (case sb_InvalidRows => k_is)
    (case hd_InvalidRows => k_is)
    (case ca_InvalidRows => k_is)
    (case mo_InvalidRows => k_is)
    (case ic_InvalidRows => k_is)
    (case ty_InvalidRows => k_is)
    (case sv_InvalidRows => k_is)
    (case s_InvalidRows_InvalidNumber => k_is)
    (case s_InvalidRows_InvalidRows => k_is)
    (case s_InvalidRows_StageError => k_is)
    (case n_InvalidRows_0 => k_is)
    (case ga_StageError => k_is)
    (case gg_StageError => k_is)
    (case sb_StageError => k_is)
    (case hd_StageError => k_is)
    (case ca_StageError => k_is)
    (case mo_StageError => k_is)
    (case ic_StageError => k_is)
    (case ty_StageError => k_is)
    (case sv_StageError => k_is)
    (case s_StageError_InvalidNumber => k_is)
    (case s_StageError_InvalidRows => k_is)
    (case s_StageError_StageError => k_is)
    (case n_StageError_0 => k_is)
    (case xL_InvalidNumber => k_is)
    (case sa_InvalidNumber => k_is)
    (case kC_InvalidNumber => k_is)
    (case nf_InvalidNumber => k_is)
    (case a_InvalidNumber => k_is)
    (case t_InvalidNumber => k_is)
    (case l_InvalidNumber => k_is)
    (case cdin_InvalidNumber => k_is)
    (case keep_InvalidNumber => k_is)
    (case kc_MOST_COST => k_is)
    (case kc_MOST_FALLS => k_is)
    (case kc_MOST_WORK => k_is)
    (case b_ValueError => k_is)
    (case b_bool => k_is)
    (case b_int => k_is)
    (case b_isinstance => k_is)
    (case b_len => k_is)
    (case b_list => k_is)
    (case b_max => k_is)
    (case b_range => k_is)
    (case b_str => k_is)
    (case b_tuple => k_is)
    (case a__law_hand => k_is)
    (case l__law_hand => k_is)
    (case cdin__law_hand => k_is)
    (case keep__law_hand => k_is)
    (case a__law_draw => k_is)
    (case l__law_draw => k_is)
    (case cdin__law_draw => k_is)
    (case keep__law_draw => k_is)
    (case a__law_part => k_is)
    (case l__law_part => k_is)
    (case cdin__law_part => k_is)
    (case keep__law_part => k_is)
    (case a__law_least => k_is)
    (case l__law_least => k_is)
    (case cdin__law_least => k_is)
    (case keep__law_least => k_is)
    (case a__law_told => k_is)
    (case l__law_told => k_is)
    (case cdin__law_told => k_is)
    (case keep__law_told => k_is)
    (case a_is_between => k_is)
    (case l_is_between => k_is)
    (case cdin_is_between => k_is)
    (case keep_is_between => k_is)
    (case a_check_number => k_is)
    (case l_check_number => k_is)
    (case cdin_check_number => k_is)
    (case keep_check_number => k_is)
    (case a_check_game => k_is)
    (case l_check_game => k_is)
    (case cdin_check_game => k_is)
    (case keep_check_game => k_is)
    (case a_time_of_part => k_is)
    (case l_time_of_part => k_is)
    (case cdin_time_of_part => k_is)
    (case keep_time_of_part => k_is)
    (case a_best_row => k_is)
    (case l_best_row => k_is)
    (case cdin_best_row => k_is)
    (case keep_best_row => k_is)
    (case a_best_rows => k_is)
    (case l_best_rows => k_is)
    (case cdin_best_rows => k_is)
    (case keep_best_rows => k_is)
    (case a_worst_time => k_is)
    (case l_worst_time => k_is)
    (case cdin_worst_time => k_is)
    (case keep_worst_time => k_is)
    (case a_first_part => k_is)
    (case l_first_part => k_is)
    (case cdin_first_part => k_is)
    (case keep_first_part => k_is)
    (case a_part_table => k_is)
    (case l_part_table => k_is)
    (case cdin_part_table => k_is)
    (case keep_part_table => k_is)
    (case a__law_table => k_is)
    (case l__law_table => k_is)
    (case cdin__law_table => k_is)
    (case keep__law_table => k_is)
    (case a__law_game => k_is)
    (case l__law_game => k_is)
    (case cdin__law_game => k_is)
    (case keep__law_game => k_is)
    (case a__law_bounds => k_is)
    (case l__law_bounds => k_is)
    (case cdin__law_bounds => k_is)
    (case keep__law_bounds => k_is)
    (case a__law_call => k_is)
    (case l__law_call => k_is)
    (case cdin__law_call => k_is)
    (case keep__law_call => k_is)
    (case a__law_same => k_is)
    (case l__law_same => k_is)
    (case cdin__law_same => k_is)
    (case keep__law_same => k_is)
    (case a__law_refused => k_is)
    (case l__law_refused => k_is)
    (case cdin__law_refused => k_is)
    (case keep__law_refused => k_is)
    (case a_law => k_is)
    (case l_law => k_is)
    (case cdin_law => k_is)
    (case keep_law => k_is)
#print axioms PySem.Challenge.cw_everystage_k78_whole_games_by_all_parts_holds

