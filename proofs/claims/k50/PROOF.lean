import PyProof.Rows.All
import Wide.All
import OpenK.AllK
import Wide.FinOn
import HandS.ForMost
import HandS.ForExc
import HandS.Wide
import HandS.Flow
import HandS.TupAny
import HandS.Deep
import HandS.IsInst
import HandS.Style
import HandS.Defaults
import KE.KExcSuper
import HandS.ExcInit
import HandS.ExcSuper
import HandS.ExcField
import HandS.ExcIs
import HandS.OwnEq
import HandS.TupLe
import HandS.StrMore
import HandS.Text
import KE.KIsAll
import KE.KTryMore
import HandS.Exc
import HandS.Ends
import HandS.Words
import HandS.Conv
import PySem.Challenge.RW_turnsfit_k50_whole_texts_of_turnings_the
section
set_option Elab.async false
set_option linter.all false
set_option autoImplicit false
set_option maxRecDepth 100000
/-! DL: a layer of data over the hand layer: what stands on the heap is told by trees (D) and by few cells that change. -/
namespace DL
open PySem PySem.Spec PyProof.Rows L2

/-- data: what never changes again -/
inductive D where
  | non | bl (b : Bool) | int (i : Int) | str (s : Str)
  | lst (xs : List D) | tup (xs : List D)
  | ins (c : Str) (ns : List Str) (xs : List D)
/-- a value: data, a list that may change (a cell of the store), the script -/
inductive Val where
  | d (x : D) | ref (n : Nat) | scr (xs : List D)
inductive Cell where
  | lst (xs : List Val)
abbrev Store := List (Option Cell)
abbrev Env := List (Option Val)
inductive R (α : Type) where
  | ok (a : α) (s : Store)
  | exc (c : Str) (ns : List Str) (vs : List D) (s : Store)
  | err
inductive RS where
  | nx (ρ : Env) (s : Store)
  | ret (v : Val) (s : Store)
  | brk (ρ : Env) (s : Store)
  | cnt (ρ : Env) (s : Store)
  | exc (ρ : Env) (c : Str) (ns : List Str) (vs : List D) (s : Store)
  | err
abbrev SE := Env → Store → R Val
abbrev ST := Env → Store → R Bool
abbrev SA := Env → Store → R (List Val)
abbrev SS := Env → Store → RS

def bindR {α β : Type} (r : R α) (k : α → Store → R β) : R β := match r with
  | .ok a s => k a s
  | .exc c ns vs s => .exc c ns vs s
  | .err => .err
/-- from an expression to a statement -/
def bindS {α : Type} (ρ : Env) (r : R α) (k : α → Store → RS) : RS := match r with
  | .ok a s => k a s
  | .exc c ns vs s => .exc ρ c ns vs s
  | .err => .err

/-! ### what stands for what -/
/-- c: where the cells stand; h: lists under way that no value tells of -/
structure Mp where
  c : List (Option Addr)
  h : List Addr
def Mp.has (m : Mp) (a : Addr) : Prop := some a ∈ m.c ∨ a ∈ m.h
section
variable (K : PySem.W.Frag) (mg : Str → Option Value)
def ScrAt (m : Mp) (H : Hp) (a : Addr) (vs : List V) : Prop := (∃ o, H a = some (.frz o (.lst vs)) ∧ ¬ m.has a) ∨ ∀ H' : Hp, SqL K H' a vs
theorem ScrAt.sq {m : Mp} {H : Hp} {a : Addr} {vs : List V} (h : ScrAt K m H a vs) : SqL K H a vs := h.elim (fun ⟨o, z, _⟩ => .inl (.inr ⟨o, z⟩)) fun z => z H
def TupAt (m : Mp) (H : Hp) (a : Addr) (vs : List V) : Prop := (Rd H a (.tup vs) ∧ ¬ m.has a) ∨ ∀ H' : Hp, SqT K H' a vs
theorem TupAt.sq {m : Mp} {H : Hp} {a : Addr} {vs : List V} (h : TupAt K m H a vs) : SqT K H a vs := h.elim (fun z => .inl z.1) fun z => z H
mutual
inductive RepD (m : Mp) (H : Hp) : V → D → Prop
  | non : RepD m H .non .non
  | bl (b : Bool) : RepD m H (.bl b) (.bl b)
  | int (i : Int) : RepD m H (.int i) (.int i)
  | str (s : Str) : RepD m H (.str s) (.str s)
  | lst {a : Addr} {vs : List V} {xs : List D} : H a = some (.lst vs) → ¬ m.has a → RepDs m H vs xs → RepD m H (.ref a) (.lst xs)
  | tup {a : Addr} {vs : List V} {xs : List D} : TupAt K m H a vs → RepDs m H vs xs → RepD m H (.ref a) (.tup xs)
  | ins {a C dx : Addr} {fs : List (Str × V)} {c : Str} {ns : List Str} {vs : List V} {xs : List D} : H a = some (.ins C dx fs) → ¬ m.has a → mg c = some (.ref C) → fs.map (·.1) = ns → fs.map (·.2) = vs → RepDs m H vs xs → RepD m H (.ref a) (.ins c ns xs)
inductive RepDs (m : Mp) (H : Hp) : List V → List D → Prop
  | nil : RepDs m H [] []
  | cons {v : V} {vs : List V} {x : D} {xs : List D} : RepD m H v x → RepDs m H vs xs → RepDs m H (v :: vs) (x :: xs)
end
inductive RepV (m : Mp) (H : Hp) : V → Val → Prop
  | d {v : V} {x : D} : RepD K mg m H v x → RepV m H v (.d x)
  | ref {v : V} {n : Nat} : n < m.c.length → (∀ b, m.c[n]? = some (some b) → v = .ref b) → RepV m H v (.ref n)
  | scr {a : Addr} {vs : List V} {xs : List D} : ScrAt K m H a vs → RepDs K mg m H vs xs → RepV m H (.ref a) (.scr xs)
inductive RepVs (m : Mp) (H : Hp) : List V → List Val → Prop
  | nil : RepVs m H [] []
  | cons {v : V} {vs : List V} {x : Val} {xs : List Val} : RepV K mg m H v x → RepVs m H vs xs → RepVs m H (v :: vs) (x :: xs)
/-- cell n -/
def CellOk (m : Mp) (H : Hp) (n : Nat) : Option (Option Addr) → Option (Option Cell) → Prop
  | some (some a), some (some (.lst xs)) => (∃ vs, H a = some (.lst vs) ∧ RepVs K mg m H vs xs) ∧ ∀ k, Val.ref k ∈ xs → k < n
  | some none, some none => True
  | none, none => True
  | _, _ => False
structure RepSt (m : Mp) (H : Hp) (st : Store) : Prop where
  cell : ∀ n, CellOk K mg m H n m.c[n]? st[n]?
  inj : ∀ (i j : Nat) (a : Addr), m.c[i]? = some (some a) → m.c[j]? = some (some a) → i = j
  dis : ∀ a, some a ∈ m.c → a ∉ m.h
  hid : ∀ a, a ∈ m.h → ∃ o, H a = some o
structure RepEnv (m : Mp) (H : Hp) (σ : L2.St) (ρ : Env) : Prop where
  len : σ.length = ρ.length
  val : ∀ (i : Nat) (v : Val), ρ[i]? = some (some v) → ∃ x, σ[i]? = some (some x) ∧ RepV K mg m H x v
end
/-- from one moment to a later one -/
structure Step (m : Mp) (H : Hp) (m' : Mp) (H' : Hp) : Prop where
  kept : ∀ a o, some a ∉ m.c → H a = some o → H' a = some o ∧ some a ∉ m'.c
  open_ : ∀ a o, ¬ m.has a → H a = some o → a ∉ m'.h
  hid : ∀ a, a ∈ m.h → a ∈ m'.h
  le : m.c.length ≤ m'.c.length
  cells : ∀ n, n < m.c.length → ∀ b, m'.c[n]? = some (some b) → m.c[n]? = some (some b)
theorem Mp.not_has {m : Mp} {a : Addr} (h1 : some a ∉ m.c) (h2 : a ∉ m.h) : ¬ m.has a := fun z => z.elim h1 h2
theorem Step.data {m : Mp} {H : Hp} {m' : Mp} {H' : Hp} (s : Step m H m' H') {a : Addr} {o : HO} (n : ¬ m.has a) (e : H a = some o) : H' a = some o ∧ ¬ m'.has a :=
  have q := s.kept a o (fun z => n (.inl z)) e
  ⟨q.1, Mp.not_has q.2 (s.open_ a o n e)⟩
theorem Step.refl (m : Mp) (H : Hp) : Step m H m H := ⟨fun _ _ h e => ⟨e, h⟩, fun a o n _ z => n (.inr z), fun _ h => h, Nat.le_refl _, fun _ _ _ e => e⟩
theorem Step.trans {m m1 m2 : Mp} {H H1 H2 : Hp} (a : Step m H m1 H1) (b : Step m1 H1 m2 H2) : Step m H m2 H2 :=
  ⟨fun p o h e => have q := a.kept p o h e; b.kept p o q.2 q.1, fun p o n e => have q := a.data n e; b.open_ p o q.2 q.1, fun p h => b.hid p (a.hid p h), Nat.le_trans a.le b.le, fun n h c e => a.cells n h c (b.cells n (Nat.lt_of_lt_of_le h a.le) c e)⟩
theorem Step.new {m : Mp} {H : Hp} {p : Addr} {o : HO} (h : H p = none) : Step m H m (upd H p o) :=
  ⟨fun a u n e => ⟨by rw [upd_ne (ne_of_none e h)]; exact e, n⟩, fun a u n _ z => n (.inr z), fun _ h => h, Nat.le_refl _, fun _ _ _ e => e⟩
def Mp.push (m : Mp) (p : Addr) : Mp := ⟨m.c ++ [some p], m.h⟩
def Mp.hide (m : Mp) (p : Addr) : Mp := ⟨m.c, p :: m.h⟩
def Mp.kill (m : Mp) (n : Nat) : Mp := ⟨m.c.set n none, m.h⟩
def Mp.cut (m : Mp) (n : Nat) : Mp := ⟨m.c.take n, m.h⟩
theorem Step.newCell {m : Mp} {H : Hp} {p : Addr} {o : HO} (h : H p = none) : Step m H (m.push p) (upd H p o) :=
  ⟨fun a u n e => by
    have ne := ne_of_none e h
    refine ⟨by rw [upd_ne ne]; exact e, fun z => ?_⟩
    rcases List.mem_append.mp z with z | z
    · exact n z
    · rw [List.mem_singleton] at z
      exact ne (Option.some.inj z), fun a u n _ z => n (.inr z), fun _ h => h, by show _ ≤ (m.c ++ [some p]).length; rw [List.length_append]; exact Nat.le_add_right _ _, fun n hn b e => by have e : (m.c ++ [some p])[n]? = _ := e; rw [List.getElem?_append_left hn] at e; exact e⟩
theorem Step.mut {m : Mp} {H : Hp} {a : Addr} {n : Nat} {o : HO} (h : m.c[n]? = some (some a)) : Step m H m (upd H a o) :=
  ⟨fun b u nb e => ⟨by rw [upd_ne (fun z => nb (by rw [z]; exact List.mem_of_getElem? h))]; exact e, nb⟩, fun a u n _ z => n (.inr z), fun _ h => h, Nat.le_refl _, fun _ _ _ e => e⟩
theorem Step.kill {m : Mp} {H : Hp} {n : Nat} : Step m H (m.kill n) H :=
  ⟨fun b u nb e => ⟨e, fun z => by
    rcases List.mem_or_eq_of_mem_set z with z | z
    · exact nb z
    · cases z⟩, fun a u n _ z => n (.inr z), fun _ h => h, by show _ ≤ (m.c.set n none).length; rw [List.length_set]; exact Nat.le_refl _, fun k hk b e => by
    have e : (m.c.set n none)[k]? = _ := e
    by_cases h : n = k
    · subst h
      rw [List.getElem?_set_self hk] at e
      cases e
    · rw [List.getElem?_set_ne h] at e
      exact e⟩
/-- a list under way -/
theorem Step.hide {m : Mp} {H : Hp} {p : Addr} {o : HO} (h : H p = none) : Step m H (m.hide p) (upd H p o) :=
  ⟨fun a u n e => ⟨by rw [upd_ne (ne_of_none e h)]; exact e, n⟩, fun a u n e z => by
    rcases List.mem_cons.mp z with z | z
    · exact ne_of_none e h z
    · exact n (.inr z), fun _ h => List.mem_cons_of_mem _ h, Nat.le_refl _, fun _ _ _ e => e⟩

section
variable {K : PySem.W.Frag} {mg : Str → Option Value} {m m' : Mp} {H H' : Hp}
theorem Rd.step {a : Addr} {o : HO} (s : Step m H m' H') (h : Rd H a o) (n : ¬ m.has a) : Rd H' a o ∧ ¬ m'.has a := by
  rcases h with h | ⟨u, h⟩
  · exact ⟨.inl (s.data n h).1, (s.data n h).2⟩
  · exact ⟨.inr ⟨u, (s.data n h).1⟩, (s.data n h).2⟩
theorem TupAt.step {a : Addr} {vs : List V} (s : Step m H m' H') (h : TupAt K m H a vs) : TupAt K m' H' a vs := h.elim (fun z => .inl (Rd.step s z.1 z.2)) .inr
mutual
theorem RepD.step (s : Step m H m' H') : ∀ {v : V} {x : D}, RepD K mg m H v x → RepD K mg m' H' v x
  | _, _, .non => .non
  | _, _, .bl b => .bl b
  | _, _, .int i => .int i
  | _, _, .str x => .str x
  | _, _, .lst h n r => .lst (s.data n h).1 (s.data n h).2 (RepDs.step s r)
  | _, _, .tup h r => .tup (TupAt.step s h) (RepDs.step s r)
  | _, _, .ins h n c e f r => .ins (s.data n h).1 (s.data n h).2 c e f (RepDs.step s r)
theorem RepDs.step (s : Step m H m' H') : ∀ {v : List V} {x : List D}, RepDs K mg m H v x → RepDs K mg m' H' v x
  | _, _, .nil => .nil
  | _, _, .cons h r => .cons (RepD.step s h) (RepDs.step s r)
end
theorem RepV.step (s : Step m H m' H') {v : V} {x : Val} (h : RepV K mg m H v x) : RepV K mg m' H' v x := by
  cases h with
  | d h => exact .d (h.step s)
  | ref l e => exact .ref (Nat.lt_of_lt_of_le l s.le) fun b q => e b (s.cells _ l b q)
  | scr h r => exact .scr (h.elim (fun ⟨o, z, n⟩ => .inl ⟨o, (s.data n z).1, (s.data n z).2⟩) .inr) (r.step s)
theorem RepVs.step (s : Step m H m' H') : ∀ {v : List V} {x : List Val}, RepVs K mg m H v x → RepVs K mg m' H' v x
  | _, _, .nil => .nil
  | _, _, .cons h r => .cons (h.step s) (RepVs.step s r)
theorem RepEnv.step (s : Step m H m' H') {σ : L2.St} {ρ : Env} (h : RepEnv K mg m H σ ρ) : RepEnv K mg m' H' σ ρ := ⟨h.len, fun i v e => by
  obtain ⟨x, e1, r⟩ := h.val i v e
  exact ⟨x, e1, r.step s⟩⟩
theorem RepDs.length : ∀ {vs : List V} {xs : List D}, RepDs K mg m H vs xs → vs.length = xs.length
  | _, _, .nil => rfl
  | _, _, .cons _ r => congrArg (· + 1) (RepDs.length r)
theorem RepVs.length : ∀ {vs : List V} {xs : List Val}, RepVs K mg m H vs xs → vs.length = xs.length
  | _, _, .nil => rfl
  | _, _, .cons _ r => congrArg (· + 1) (RepVs.length r)
theorem RepDs.get : ∀ {vs : List V} {xs : List D} {i : Nat} {x : D}, RepDs K mg m H vs xs → xs[i]? = some x → ∃ v, vs[i]? = some v ∧ RepD K mg m H v x
  | _, _, _, _, .nil, e => by simp at e
  | _, _, 0, _, .cons r _, e => by simp at e; subst e; exact ⟨_, rfl, r⟩
  | _, _, i + 1, x, .cons _ t, e => by
    obtain ⟨u, h1, h2⟩ := RepDs.get (i := i) (x := x) t (by simpa using e)
    exact ⟨u, by simpa using h1, h2⟩
theorem RepVs.get : ∀ {vs : List V} {xs : List Val} {i : Nat} {x : Val}, RepVs K mg m H vs xs → xs[i]? = some x → ∃ v, vs[i]? = some v ∧ RepV K mg m H v x
  | _, _, _, _, .nil, e => by simp at e
  | _, _, 0, _, .cons r _, e => by simp at e; subst e; exact ⟨_, rfl, r⟩
  | _, _, i + 1, x, .cons _ t, e => by
    obtain ⟨u, h1, h2⟩ := RepVs.get (i := i) (x := x) t (by simpa using e)
    exact ⟨u, by simpa using h1, h2⟩
theorem RepDs.append : ∀ {vs us : List V} {xs ys : List D}, RepDs K mg m H vs xs → RepDs K mg m H us ys → RepDs K mg m H (vs ++ us) (xs ++ ys)
  | _, _, _, _, .nil, s => s
  | _, _, _, _, .cons r t, s => .cons r (RepDs.append t s)
theorem RepVs.append : ∀ {vs us : List V} {xs ys : List Val}, RepVs K mg m H vs xs → RepVs K mg m H us ys → RepVs K mg m H (vs ++ us) (xs ++ ys)
  | _, _, _, _, .nil, s => s
  | _, _, _, _, .cons r t, s => .cons r (RepVs.append t s)
theorem RepDs.take : ∀ {vs : List V} {xs : List D} (n : Nat), RepDs K mg m H vs xs → RepDs K mg m H (vs.take n) (xs.take n)
  | _, _, 0, _ => .nil
  | _, _, _ + 1, .nil => .nil
  | _, _, n + 1, .cons r t => .cons r (RepDs.take n t)
theorem RepDs.drop : ∀ {vs : List V} {xs : List D} (n : Nat), RepDs K mg m H vs xs → RepDs K mg m H (vs.drop n) (xs.drop n)
  | _, _, 0, r => r
  | _, _, _ + 1, .nil => .nil
  | _, _, n + 1, .cons _ t => RepDs.drop n t
theorem RepDs.reverse : ∀ {vs : List V} {xs : List D}, RepDs K mg m H vs xs → RepDs K mg m H vs.reverse xs.reverse
  | _, _, .nil => .nil
  | _, _, .cons r t => by
    rw [List.reverse_cons, List.reverse_cons]
    exact RepDs.append (RepDs.reverse t) (.cons r .nil)
theorem RepVs.take : ∀ {vs : List V} {xs : List Val} (n : Nat), RepVs K mg m H vs xs → RepVs K mg m H (vs.take n) (xs.take n)
  | _, _, 0, _ => .nil
  | _, _, _ + 1, .nil => .nil
  | _, _, n + 1, .cons r t => .cons r (RepVs.take n t)
theorem RepVs.set : ∀ {vs : List V} {xs : List Val} {v : V} {x : Val} (n : Nat), RepV K mg m H v x → RepVs K mg m H vs xs → RepVs K mg m H (vs.set n v) (xs.set n x)
  | _, _, _, _, _, _, .nil => .nil
  | _, _, _, _, 0, h, .cons _ t => .cons h t
  | _, _, _, _, n + 1, h, .cons r t => .cons r (RepVs.set n h t)
theorem RepVs.dropLast {vs : List V} {xs : List Val} (h : RepVs K mg m H vs xs) : RepVs K mg m H vs.dropLast xs.dropLast := by
  rw [List.dropLast_eq_take, List.dropLast_eq_take, h.length]
  exact h.take _
/-- the values that are data -/
def asD : Val → Option D
  | .d x => some x
  | _ => none
def asDs : List Val → Option (List D)
  | [] => some []
  | .d x :: r => (asDs r).map (x :: ·)
  | _ :: _ => none
@[simp] theorem asDs_map (xs : List D) : asDs (xs.map Val.d) = some xs := by
  induction xs with
  | nil => rfl
  | cons x r ih => simp [asDs, ih]
theorem RepVs.ds : ∀ {vs : List V} {xs : List Val} {ds : List D}, RepVs K mg m H vs xs → asDs xs = some ds → RepDs K mg m H vs ds
  | _, _, _, .nil, e => by cases e; exact .nil
  | _, _, _, .cons (.d r) t, e => by
    unfold asDs at e
    rename_i x xs
    cases h : asDs xs with
    | none => rw [h] at e; cases e
    | some l => rw [h] at e; cases e; exact .cons r (RepVs.ds t h)
  | _, _, _, .cons (.ref _ _) t, e => by cases e
  | _, _, _, .cons (.scr _ _) t, e => by cases e
theorem RepDs.vs : ∀ {vs : List V} {xs : List D}, RepDs K mg m H vs xs → RepVs K mg m H vs (xs.map Val.d)
  | _, _, .nil => .nil
  | _, _, .cons r t => .cons (.d r) (RepDs.vs t)

/-! ### what is wanted of a result -/
def ExcAt (K : PySem.W.Frag) (mg : Str → Option Value) (m : Mp) (H : Hp) (cls : Value) (d : Option Addr) (c : Str) (ns : List Str) (xs : List D) : Prop :=
  mg c = some cls ∧ ∃ dd fs vs, d = some dd ∧ H dd = some (.xd fs) ∧ ¬ m.has dd ∧ fs.map (·.1) = ns ∧ fs.map (·.2) = vs ∧ RepDs K mg m H vs xs
def Post {α β : Type} (K : PySem.W.Frag) (mg : Str → Option Value) (m : Mp) (H : Hp) (r : R α) (A : Mp → Hp → β → α → Prop) (Q : β → Hp → Prop) (W : XK) : Prop := match r with
  | .ok a st => ∀ m' H' x, Step m H m' H' → RepSt K mg m' H' st → A m' H' x a → Q x H'
  | .exc c ns vs st => ∀ m' H' cls d, Step m H m' H' → RepSt K mg m' H' st → ExcAt K mg m' H' cls d c ns vs → W cls d H'
  | .err => False
abbrev AV (K : PySem.W.Frag) (mg : Str → Option Value) : Mp → Hp → V → Val → Prop := fun m H x v => RepV K mg m H x v
abbrev AB : Mp → Hp → Bool → Bool → Prop := fun _ _ x v => x = v
abbrev AL (K : PySem.W.Frag) (mg : Str → Option Value) : Mp → Hp → List V → List Val → Prop := fun m H x v => RepVs K mg m H x v
theorem Post.step {α β : Type} {r : R α} {A : Mp → Hp → β → α → Prop} {Q : β → Hp → Prop} {W : XK} (s : Step m H m' H') (h : Post K mg m H r A Q W) : Post K mg m' H' r A Q W := by
  cases r with
  | ok a st => exact fun m2 H2 x s2 => h m2 H2 x (s.trans s2)
  | exc c ns vs st => exact fun m2 H2 x d s2 => h m2 H2 x d (s.trans s2)
  | err => exact h
theorem Post.bind {α β γ δ : Type} {r : R α} {k : α → Store → R γ} {A : Mp → Hp → β → α → Prop} {B : Mp → Hp → δ → γ → Prop} {Q : δ → Hp → Prop} {W : XK} (h : Post K mg m H (bindR r k) B Q W) :
    Post K mg m H r A (fun x H1 => ∃ m1 a st1, Step m H m1 H1 ∧ RepSt K mg m1 H1 st1 ∧ A m1 H1 x a ∧ Post K mg m1 H1 (k a st1) B Q W) W := by
  cases r with
  | ok a st => exact fun m1 H1 x s1 t1 a1 => ⟨m1, a, st, s1, t1, a1, Post.step s1 h⟩
  | exc c ns vs st => exact h
  | err => exact h
theorem Post.ok_now {α β : Type} {a : α} {st : Store} {A : Mp → Hp → β → α → Prop} {Q : β → Hp → Prop} {W : XK} {x : β} (h : Post K mg m H (.ok a st) A Q W) (t : RepSt K mg m H st) (r : A m H x a) : Q x H := h m H x (Step.refl _ _) t r

/-! ### readings -/
/-- a wish about exceptions, by the slots -/
def tE (K : PySem.W.Frag) (mg : Str → Option Value) (W : WX) (f : SE) : TE := fun σ H Q => ∃ m ρ st, RepEnv K mg m H σ ρ ∧ RepSt K mg m H st ∧ Post K mg m H (f ρ st) (AV K mg) Q fun c d H' => W c d σ H'
def tT (K : PySem.W.Frag) (mg : Str → Option Value) (W : WX) (f : ST) : TT := fun σ H Q => ∃ m ρ st, RepEnv K mg m H σ ρ ∧ RepSt K mg m H st ∧ Post K mg m H (f ρ st) AB Q fun c d H' => W c d σ H'
def tA (K : PySem.W.Frag) (mg : Str → Option Value) (W : WX) (f : SA) : TA := fun σ H Q => ∃ m ρ st, RepEnv K mg m H σ ρ ∧ RepSt K mg m H st ∧ Post K mg m H (f ρ st) (AL K mg) Q fun c d H' => W c d σ H'
end
end DL
end

section
set_option Elab.async false
set_option linter.all false
set_option autoImplicit false
set_option maxRecDepth 100000
/-! DL2: expressions over data. -/
namespace DL
open PySem PySem.Spec PyProof.Rows L2
section
variable {X : Cx} {W : WX} {K : PySem.W.Frag} {mg : Str → Option Value} {m m' : Mp} {H H' : Hp} {st : Store}
theorem _root_.L2.PE.imp {e : Expr} {t t' : TE} (h : PE X e t) (i : ∀ σ H Q, t' σ H Q → t σ H Q) : PE X e t' := ⟨fun pins s σ H Q I q => h.run pins s σ H Q I (i σ H Q q)⟩
theorem _root_.L2.PT.imp {e : Expr} {t t' : TT} (h : PT X e t) (i : ∀ σ H Q, t' σ H Q → t σ H Q) : PT X e t' := ⟨fun pins s σ H Q I q => h.run pins s σ H Q I (i σ H Q q)⟩
theorem _root_.L2.PW.imp {e : Expr} {t t' : TT} (h : PW X e t) (i : ∀ σ H Q, t' σ H Q → t σ H Q) : PW X e t' := ⟨fun w pins s σ H Q I q => h.run w pins s σ H Q I (i σ H Q q)⟩
theorem _root_.L2.PA.imp {e : List Expr} {t t' : TA} (h : PA X e t) (i : ∀ σ H Q, t' σ H Q → t σ H Q) : PA X e t' := ⟨fun p pins s σ H Q I q => h.run p pins s σ H Q I (i σ H Q q)⟩
theorem _root_.L2.PO.imp {e : Option Expr} {t t' : TO} (h : PO X e t) (i : ∀ σ H Q, t' σ H Q → t σ H Q) : PO X e t' := ⟨fun pins s σ H Q I q => h.run pins s σ H Q I (i σ H Q q)⟩
theorem Post.mono {α β : Type} {r : R α} {A : Mp → Hp → β → α → Prop} {Q Q' : β → Hp → Prop} {E : XK} (h : Post K mg m H r A Q E) (i : ∀ x H', Q x H' → Q' x H') : Post K mg m H r A Q' E := by
  cases r with
  | ok a st => exact fun m' H' x s t r => i _ _ (h m' H' x s t r)
  | exc c ns vs st => exact h
  | err => exact h
theorem RepSt.freshC (t : RepSt K mg m H st) {p : Addr} (h : H p = none) : some p ∉ m.c := fun z => by
  obtain ⟨i, hi⟩ := List.mem_iff_getElem?.mp z
  have q := t.cell i
  rw [hi] at q
  cases e : st[i]? with
  | none => rw [e] at q; exact q
  | some c =>
    rw [e] at q
    cases c with
    | none => exact q
    | some c =>
      cases c with
      | lst xs =>
        obtain ⟨⟨vs, e1, _⟩, _⟩ := q
        rw [h] at e1
        cases e1
theorem RepSt.freshH (t : RepSt K mg m H st) {p : Addr} (h : H p = none) : p ∉ m.h := fun z => by
  obtain ⟨o, e⟩ := t.hid p z
  rw [h] at e
  cases e
theorem RepSt.fresh (t : RepSt K mg m H st) {p : Addr} (h : H p = none) : ¬ m.has p := Mp.not_has (t.freshC h) (t.freshH h)
theorem CellOk.step (s : Step m H m' H') {n : Nat} {a : Option (Option Addr)} {c : Option (Option Cell)} (hs : ∀ p, a = some (some p) → ∀ o, H p = some o → H' p = some o) (h : CellOk K mg m H n a c) : CellOk K mg m' H' n a c := by
  rcases a with _ | _ | a <;> rcases c with _ | _ | ⟨xs⟩ <;> try exact h
  obtain ⟨⟨vs, e, r⟩, w⟩ := h
  exact ⟨⟨vs, hs a rfl _ e, r.step s⟩, w⟩
/-- a new object that is no cell -/
theorem RepSt.new (t : RepSt K mg m H st) {p : Addr} {o : HO} (h : H p = none) : RepSt K mg m (upd H p o) st :=
  ⟨fun n => (t.cell n).step (Step.new h) fun a _ u e => by rw [upd_ne (ne_of_none e h)]; exact e, t.inj, t.dis, fun a ha => by
    obtain ⟨u, e⟩ := t.hid a ha
    exact ⟨u, by rw [upd_ne (ne_of_none e h)]; exact e⟩⟩
/-- a list under way begins -/
theorem RepSt.hide (t : RepSt K mg m H st) {p : Addr} {o : HO} (h : H p = none) : RepSt K mg (m.hide p) (upd H p o) st :=
  ⟨fun n => (t.cell n).step (Step.hide h) fun a _ u e => by rw [upd_ne (ne_of_none e h)]; exact e, t.inj, fun a ha z => by
    rcases List.mem_cons.mp z with z | z
    · rw [z] at ha
      exact t.freshC h ha
    · exact t.dis a ha z, fun a ha => by
    rcases List.mem_cons.mp ha with z | z
    · rw [z]
      exact ⟨o, upd_same⟩
    · obtain ⟨u, e⟩ := t.hid a z
      exact ⟨u, by rw [upd_ne (ne_of_none e h)]; exact e⟩⟩
theorem RepSt.len (t : RepSt K mg m H st) : m.c.length = st.length := by
  rcases Nat.lt_trichotomy m.c.length st.length with h | h | h
  · have q := t.cell m.c.length
    rw [List.getElem?_eq_none_iff.mpr (Nat.le_refl _), List.getElem?_eq_getElem h] at q
    cases e : st[m.c.length] with
    | none => rw [e] at q; exact q.elim
    | some c => rw [e] at q; exact q.elim
  · exact h
  · have q := t.cell st.length
    rw [List.getElem?_eq_none_iff.mpr (Nat.le_refl st.length), List.getElem?_eq_getElem h] at q
    cases e : m.c[st.length] with
    | none => rw [e] at q; exact q.elim
    | some c => rw [e] at q; exact q.elim
/-- what stands in a cell -/
theorem RepSt.at (t : RepSt K mg m H st) {n : Nat} {xs : List Val} (h : st[n]? = some (some (.lst xs))) : ∃ a vs, m.c[n]? = some (some a) ∧ H a = some (.lst vs) ∧ RepVs K mg m H vs xs ∧ ∀ k, Val.ref k ∈ xs → k < n := by
  have q := t.cell n
  rw [h] at q
  cases e : m.c[n]? with
  | none => rw [e] at q; exact q.elim
  | some c =>
    rw [e] at q
    cases c with
    | none => exact q.elim
    | some a =>
      obtain ⟨⟨vs, e1, r⟩, w⟩ := q
      exact ⟨a, vs, rfl, e1, r, w⟩
/-- a cell gets other items -/
theorem RepSt.put (t : RepSt K mg m H st) {n : Nat} {a : Addr} {vs : List V} {xs : List Val} (hm : m.c[n]? = some (some a)) (r : RepVs K mg m H vs xs) (hw : ∀ k, Val.ref k ∈ xs → k < n) :
    RepSt K mg m (upd H a (.lst vs)) (st.set n (some (.lst xs))) := by
  have hn : n < st.length := by
    rw [← t.len]
    exact (List.getElem?_eq_some_iff.mp hm).1
  refine ⟨fun k => ?_, t.inj, t.dis, fun b hb => ?_⟩
  · by_cases e : n = k
    · subst e
      rw [hm, List.getElem?_set_self hn]
      exact ⟨⟨vs, upd_same, r.step (Step.mut hm)⟩, hw⟩
    · rw [List.getElem?_set_ne e]
      refine (t.cell k).step (Step.mut hm) fun p hp o ho => ?_
      rw [upd_ne fun z => e (t.inj n k a hm (by rw [hp, z]))]
      exact ho
  · obtain ⟨u, e⟩ := t.hid b hb
    by_cases z : b = a
    · rw [z]
      exact ⟨_, upd_same⟩
    · exact ⟨u, by rw [upd_ne z]; exact e⟩
/-- a new cell -/
theorem RepSt.newCell (t : RepSt K mg m H st) {p : Addr} {vs : List V} {xs : List Val} (h : H p = none) (r : RepVs K mg m H vs xs) (hw : ∀ k, Val.ref k ∈ xs → k < st.length) :
    RepSt K mg (m.push p) (upd H p (.lst vs)) (st ++ [some (.lst xs)]) := by
  have nf := t.freshC h
  have l := t.len
  have key : ∀ (i : Nat) (a : Addr), (m.c ++ [some p])[i]? = some (some a) → (i < m.c.length ∧ m.c[i]? = some (some a)) ∨ (i = m.c.length ∧ a = p) := fun i a hi => by
    rcases Nat.lt_trichotomy i m.c.length with hk | hk | hk
    · rw [List.getElem?_append_left hk] at hi
      exact .inl ⟨hk, hi⟩
    · subst hk
      rw [List.getElem?_append_right (Nat.le_refl _), Nat.sub_self] at hi
      exact .inr ⟨rfl, (Option.some.inj (Option.some.inj hi)).symm⟩
    · rw [List.getElem?_eq_none_iff.mpr (by simp; omega)] at hi
      cases hi
  refine ⟨fun k => ?_, fun i j a hi hj => ?_, fun a ha => ?_, fun a ha => ?_⟩
  · show CellOk K mg (m.push p) _ k (m.c ++ [some p])[k]? _
    rcases Nat.lt_trichotomy k m.c.length with hk | hk | hk
    · rw [List.getElem?_append_left hk, List.getElem?_append_left (l ▸ hk)]
      exact (t.cell k).step (Step.newCell h) fun a _ u e => by rw [upd_ne (ne_of_none e h)]; exact e
    · subst hk
      rw [List.getElem?_append_right (Nat.le_refl _), Nat.sub_self, l, List.getElem?_append_right (Nat.le_refl _), Nat.sub_self]
      exact ⟨⟨vs, upd_same, r.step (Step.newCell h)⟩, hw⟩
    · rw [List.getElem?_eq_none_iff.mpr (by simp; omega), List.getElem?_eq_none_iff.mpr (by simp; omega)]
      trivial
  · rcases key i a hi with ⟨h1, e1⟩ | ⟨h1, e1⟩ <;> rcases key j a hj with ⟨h2, e2⟩ | ⟨h2, e2⟩
    · exact t.inj i j a e1 e2
    · exact absurd (List.mem_of_getElem? e1) (by rw [e2]; exact nf)
    · exact absurd (List.mem_of_getElem? e2) (by rw [e1]; exact nf)
    · omega
  · obtain ⟨i, hi⟩ := List.mem_iff_getElem?.mp ha
    rcases key i a hi with ⟨_, e⟩ | ⟨_, e⟩
    · exact t.dis a (List.mem_of_getElem? e)
    · rw [e]
      exact t.freshH h
  · obtain ⟨u, e⟩ := t.hid a ha
    exact ⟨u, by rw [upd_ne (ne_of_none e h)]; exact e⟩
theorem kill_at {n i : Nat} {a : Addr} {c : List (Option Addr)} (hi : (c.set n none)[i]? = some (some a)) : c[i]? = some (some a) := by
  by_cases e : n = i
  · subst e
    by_cases hn : n < c.length
    · rw [List.getElem?_set_self hn] at hi
      cases hi
    · rw [List.getElem?_eq_none_iff.mpr (by simp; omega)] at hi
      cases hi
  · rw [List.getElem?_set_ne e] at hi
    exact hi
/-- a cell is given up: its list is data from now on -/
theorem RepSt.kill (t : RepSt K mg m H st) (n : Nat) : RepSt K mg (m.kill n) H (st.set n none) := by
  refine ⟨fun k => ?_, fun i j a hi hj => t.inj i j a (kill_at hi) (kill_at hj), fun a ha => ?_, t.hid⟩
  · show CellOk K mg (m.kill n) _ k (m.c.set n none)[k]? _
    by_cases e : n = k
    · subst e
      by_cases hn : n < m.c.length
      · rw [List.getElem?_set_self hn, List.getElem?_set_self (t.len ▸ hn)]
        trivial
      · rw [List.getElem?_eq_none_iff.mpr (by simp; omega), List.getElem?_eq_none_iff.mpr (by have := t.len; simp; omega)]
        trivial
    · rw [List.getElem?_set_ne e, List.getElem?_set_ne e]
      exact (t.cell k).step Step.kill fun _ _ _ h => h
  · obtain ⟨i, hi⟩ := List.mem_iff_getElem?.mp ha
    exact t.dis a (List.mem_of_getElem? (kill_at hi))

/-! ### names, constants -/
abbrev DE (X : Cx) (W : WX) (e : Expr) (f : SE) : Prop := PE X e (tE X.K X.mg W f)
abbrev DT (X : Cx) (W : WX) (e : Expr) (f : ST) : Prop := PT X e (tT X.K X.mg W f)
abbrev DW (X : Cx) (W : WX) (e : Expr) (f : ST) : Prop := PW X e (tT X.K X.mg W f)
abbrev DA (X : Cx) (W : WX) (es : List Expr) (f : SA) : Prop := PA X es (tA X.K X.mg W f)
def varE (i : Nat) : SE := fun ρ st => match ρ[i]? with
  | some (some v) => .ok v st
  | _ => .err
def cE (x : D) : SE := fun _ st => .ok (.d x) st
theorem de_var {e : Expr} {i : Nat} (h : PE X e (tVar i)) : DE X W e (varE i) := h.imp fun σ H Q ⟨m, ρ, st, he, hs, hp⟩ => by
  cases e : ρ[i]? with
  | none => simp only [varE, e] at hp; exact hp.elim
  | some o =>
    cases o with
    | none => simp only [varE, e] at hp; exact hp.elim
    | some v =>
      simp only [varE, e] at hp
      obtain ⟨x, hx, r⟩ := he.val i v e
      exact ⟨x, hx, hp.ok_now hs r⟩
theorem dv (i : Nat) {x : Str} {pos : Pos} (hN : X.N[i]? = some x := by rfl) (hv : Vis X.env.scope x := by first | exact Or.inl rfl | exact Or.inr (Or.inl rfl) | exact Or.inr (Or.inr rfl)) (hd : (x == ("__debug__" : Str)) = false := by decide)
    (hcd : (x == ("__classdict__" : Str)) = false := by decide) : DE X W (.Name x pos) (varE i) := de_var (pe_var hN hv hd hcd)
theorem de_c {e : Expr} {v : V} {x : D} (h : PE X e (tC v)) (r : ∀ m H, RepD X.K X.mg m H v x) : DE X W e (cE x) := h.imp fun σ H Q ⟨m, ρ, st, he, hs, hp⟩ => hp.ok_now hs (.d (r m H))
theorem de_int {i j pos} : DE X W (.Constant (.int i) j pos) (cE (.int i)) := de_c pe_int fun _ _ => .int i
theorem de_bl {b j pos} : DE X W (.Constant (.bool b) j pos) (cE (.bl b)) := de_c pe_bl fun _ _ => .bl b
theorem de_non {j pos} : DE X W (.Constant .none j pos) (cE .non) := de_c pe_non fun _ _ => .non
theorem de_str {x j pos} : DE X W (.Constant (.str x) j pos) (cE (.str x)) := de_c pe_str fun _ _ => .str x
theorem de_globS {x z : Str} {t : Tok} {pos : Pos} (hg : Gl X x) (hm : X.mg x = some (.str z t)) (hd : (x == ("__debug__" : Str)) = false := by decide) : DE X W (.Name x pos) (cE (.str z)) := de_c (pe_glob (v := .str z) hg hm ⟨t, rfl⟩ hd) fun _ _ => .str z
theorem de_globI {x : Str} {z : Int} {t : Tok} {pos : Pos} (hg : Gl X x) (hm : X.mg x = some (.int z t)) (hd : (x == ("__debug__" : Str)) = false := by decide) : DE X W (.Name x pos) (cE (.int z)) := de_c (pe_glob (v := .int z) hg hm ⟨t, rfl⟩ hd) fun _ _ => .int z

/-! ### two operands -/
def op2 (g : Val → Val → Store → R Val) (fa fb : SE) : SE := fun ρ st => bindR (fa ρ st) fun a st => bindR (fb ρ st) fun b st => g a b st
def OpD (K : PySem.W.Frag) (mg : Str → Option Value) (r : R2) (g : Val → Val → Store → R Val) : Prop := ∀ (m : Mp) (H : Hp) (st : Store) (x y : V) (a b : Val) (Q : VK) (E : XK), RepSt K mg m H st → RepV K mg m H x a → RepV K mg m H y b → Post K mg m H (g a b st) (AV K mg) Q E → r x y H Q
theorem tOp_of {r : R2} {g : Val → Val → Store → R Val} {fa fb : SE} (hg : OpD K mg r g) (σ : L2.St) (H : Hp) (Q : VK) (h : tE K mg W (op2 g fa fb) σ H Q) : tOp r (tE K mg W fa) (tE K mg W fb) σ H Q := by
  obtain ⟨m, ρ, st, he, hs, hp⟩ := h
  exact ⟨m, ρ, st, he, hs, (Post.bind hp).mono fun x H1 ⟨m1, a, st1, s1, t1, r1, p1⟩ => ⟨m1, ρ, st1, he.step s1, t1, (Post.bind p1).mono fun y H2 ⟨m2, b, st2, s2, t2, r2, p2⟩ => hg m2 H2 st2 x y a b Q _ t2 (r1.step s2) r2 p2⟩⟩
theorem de_op {op : Operator} {a b : Expr} {pos : Pos} {r : R2} {g : Val → Val → Store → R Val} {fa fb : SE} (ho : OpR X (binaryOp op) r) (hg : OpD X.K X.mg r g) (ha : DE X W a fa) (hb : DE X W b fb) : DE X W (.BinOp a op b pos) (op2 g fa fb) := (pe_op ho ha hb).imp fun σ H Q h => tOp_of hg σ H Q h
theorem de_cmp {op : CmpOp} {a b : Expr} {pos : Pos} {r : R2} {g : Val → Val → Store → R Val} {fa fb : SE} (ho : OpR X (compareOp op) r) (hg : OpD X.K X.mg r g) (ha : DE X W a fa) (hb : DE X W b fb) (hm : behindInMarks op b = false := by first | exact nobehind _ (by decide) (by decide) | rfl) : DE X W (.Compare a [op] [b] pos) (op2 g fa fb) := (pe_cmpR ho ha hb hm).imp fun σ H Q h => tOp_of hg σ H Q h
/-- a value as a test -/
def asB (f : SE) : ST := fun ρ st => bindR (f ρ st) fun a st => match a with
  | .d (.bl b) => .ok b st
  | _ => .err
theorem dt_cmp {op : CmpOp} {a b : Expr} {pos : Pos} {r : R2} {g : Val → Val → Store → R Val} {fa fb : SE} (ho : OpR X (compareOp op) r) (hg : OpD X.K X.mg r g) (ha : DE X W a fa) (hb : DE X W b fb) (hm : behindInMarks op b = false := by first | exact nobehind _ (by decide) (by decide) | rfl) : DT X W (.Compare a [op] [b] pos) (asB (op2 g fa fb)) :=
  (pt_cmpR ho ha hb hm).imp fun σ H Q ⟨m, ρ, st, he, hs, hp⟩ => tOp_of hg σ H _ ⟨m, ρ, st, he, hs, (Post.bind hp).mono fun x H1 ⟨m1, a, st1, s1, t1, r1, p1⟩ => by
    cases r1 with
    | d r1 => cases r1 with
      | bl b => exact ⟨b, rfl, p1.ok_now t1 rfl⟩
      | _ => exact p1.elim
    | _ => exact p1.elim⟩
theorem dt_val {e : Expr} {f : SE} (h : DE X W e f) (he : ∀ whole, isTrue e X.env whole = (do let v ← whole; standAt e.pos; holding [v] (truthy v)) := by intro _; rfl) : DT X W e (asB f) :=
  (pt_val h he).imp fun σ H Q ⟨m, ρ, st, he, hs, hp⟩ => ⟨m, ρ, st, he, hs, (Post.bind hp).mono fun x H1 ⟨m1, a, st1, s1, t1, r1, p1⟩ => by
    cases r1 with
    | d r1 => cases r1 with
      | bl b => exact ⟨b, rfl, p1.ok_now t1 rfl⟩
      | _ => exact p1.elim
    | _ => exact p1.elim⟩

/-! ### and, or, not, if -/
def andT (f g : ST) : ST := fun ρ st => bindR (f ρ st) fun b st => if b then g ρ st else .ok false st
def orT (f g : ST) : ST := fun ρ st => bindR (f ρ st) fun b st => if b then .ok true st else g ρ st
def notT (f : ST) : ST := fun ρ st => bindR (f ρ st) fun b st => .ok (!b) st
def ifE (c : ST) (f g : SE) : SE := fun ρ st => bindR (c ρ st) fun b st => if b then f ρ st else g ρ st
section
variable {a b : Expr} {rest : List Expr} {pos : Pos} {fa fb : ST}
theorem dw_and1 (ha : DT X W a fa) : DW X W (.BoolOp .And [a] pos) fa := pw_and1 ha
theorem dw_or1 (ha : DT X W a fa) : DW X W (.BoolOp .Or [a] pos) fa := pw_or1 ha
theorem tAnd_of (σ : L2.St) (H : Hp) (Q : Bool → Hp → Prop) (h : tT K mg W (andT fa fb) σ H Q) : tAnd (tT K mg W fa) (tT K mg W fb) σ H Q := by
  obtain ⟨m, ρ, st, he, hs, hp⟩ := h
  exact ⟨m, ρ, st, he, hs, (Post.bind hp).mono fun c H1 ⟨m1, c', st1, s1, t1, r1, p1⟩ => by
    cases r1
    cases c with
    | true => exact ⟨m1, ρ, st1, he.step s1, t1, p1⟩
    | false => exact p1.ok_now t1 rfl⟩
theorem tOr_of (σ : L2.St) (H : Hp) (Q : Bool → Hp → Prop) (h : tT K mg W (orT fa fb) σ H Q) : tOr (tT K mg W fa) (tT K mg W fb) σ H Q := by
  obtain ⟨m, ρ, st, he, hs, hp⟩ := h
  exact ⟨m, ρ, st, he, hs, (Post.bind hp).mono fun c H1 ⟨m1, c', st1, s1, t1, r1, p1⟩ => by
    cases r1
    cases c with
    | true => exact p1.ok_now t1 rfl
    | false => exact ⟨m1, ρ, st1, he.step s1, t1, p1⟩⟩
theorem dw_and (ha : DT X W a fa) (hb : DW X W (.BoolOp .And (b :: rest) pos) fb) : DW X W (.BoolOp .And (a :: b :: rest) pos) (andT fa fb) := (pw_and ha hb).imp fun σ H Q h => tAnd_of σ H Q h
theorem dw_or (ha : DT X W a fa) (hb : DW X W (.BoolOp .Or (b :: rest) pos) fb) : DW X W (.BoolOp .Or (a :: b :: rest) pos) (orT fa fb) := (pw_or ha hb).imp fun σ H Q h => tOr_of σ H Q h
theorem dt_not (ha : DT X W a fa) : DT X W (.UnaryOp .Not a pos) (notT fa) := (pt_not ha).imp fun σ H Q ⟨m, ρ, st, he, hs, hp⟩ => ⟨m, ρ, st, he, hs, (Post.bind hp).mono fun c H1 ⟨m1, c', st1, s1, t1, r1, p1⟩ => by
    cases r1
    exact p1.ok_now t1 rfl⟩
end
section
variable {a b c : Expr} {rest : List Expr} {pos : Pos} {fa fb : SE} {fc : ST}
/-- and, or, not as values (of bools) -/
def andE (f g : SE) : SE := fun ρ st => bindR (f ρ st) fun a st => match a with
  | .d (.bl true) => g ρ st
  | .d (.bl false) => .ok (.d (.bl false)) st
  | _ => .err
def orE (f g : SE) : SE := fun ρ st => bindR (f ρ st) fun a st => match a with
  | .d (.bl true) => .ok (.d (.bl true)) st
  | .d (.bl false) => g ρ st
  | _ => .err
def notE (f : SE) : SE := fun ρ st => bindR (f ρ st) fun a st => match a with
  | .d (.bl b) => .ok (.d (.bl (!b))) st
  | _ => .err
theorem de_one {op} (h : DE X W a fa) : DE X W (.BoolOp op [a] pos) fa := pe_one h
theorem de_and (ha : DE X W a fa) (hb : DE X W (.BoolOp .And (b :: rest) pos) fb) : DE X W (.BoolOp .And (a :: b :: rest) pos) (andE fa fb) := (pe_and ha hb).imp fun σ H Q ⟨m, ρ, st, he, hs, hp⟩ => ⟨m, ρ, st, he, hs, (Post.bind hp).mono fun x H1 ⟨m1, a, st1, s1, t1, r1, p1⟩ => by
    cases r1 with
    | d r1 => cases r1 with
      | bl b =>
        refine ⟨b, rfl, ?_⟩
        cases b with
        | true => exact ⟨m1, ρ, st1, he.step s1, t1, p1⟩
        | false => exact p1.ok_now t1 (.d (.bl false))
      | _ => exact p1.elim
    | _ => exact p1.elim⟩
theorem de_or (ha : DE X W a fa) (hb : DE X W (.BoolOp .Or (b :: rest) pos) fb) : DE X W (.BoolOp .Or (a :: b :: rest) pos) (orE fa fb) := (pe_or ha hb).imp fun σ H Q ⟨m, ρ, st, he, hs, hp⟩ => ⟨m, ρ, st, he, hs, (Post.bind hp).mono fun x H1 ⟨m1, a, st1, s1, t1, r1, p1⟩ => by
    cases r1 with
    | d r1 => cases r1 with
      | bl b =>
        refine ⟨b, rfl, ?_⟩
        cases b with
        | true => exact p1.ok_now t1 (.d (.bl true))
        | false => exact ⟨m1, ρ, st1, he.step s1, t1, p1⟩
      | _ => exact p1.elim
    | _ => exact p1.elim⟩
theorem de_not (ha : DE X W a fa) : DE X W (.UnaryOp .Not a pos) (notE fa) := (pe_not ha).imp fun σ H Q ⟨m, ρ, st, he, hs, hp⟩ => ⟨m, ρ, st, he, hs, (Post.bind hp).mono fun x H1 ⟨m1, a, st1, s1, t1, r1, p1⟩ => by
    cases r1 with
    | d r1 => cases r1 with
      | bl b => exact ⟨b, rfl, p1.ok_now t1 (.d (.bl (!b)))⟩
      | _ => exact p1.elim
    | _ => exact p1.elim⟩
theorem de_if (hc : DT X W c fc) (ha : DE X W a fa) (hb : DE X W b fb) : DE X W (.IfExp c a b pos) (ifE fc fa fb) := (pe_ifExp hc ha hb).imp fun σ H Q ⟨m, ρ, st, he, hs, hp⟩ => ⟨m, ρ, st, he, hs, (Post.bind hp).mono fun c H1 ⟨m1, c', st1, s1, t1, r1, p1⟩ => by
    cases r1
    cases c with
    | true => exact ⟨m1, ρ, st1, he.step s1, t1, p1⟩
    | false => exact ⟨m1, ρ, st1, he.step s1, t1, p1⟩⟩
end

/-! ### arguments, displays -/
def nilA : SA := fun _ st => .ok [] st
def consA (f : SE) (g : SA) : SA := fun ρ st => bindR (f ρ st) fun a st => bindR (g ρ st) fun as st => .ok (a :: as) st
theorem da_nil : DA X W [] nilA := pa_nil.imp fun σ H Q ⟨m, ρ, st, he, hs, hp⟩ => hp.ok_now hs .nil
theorem da_cons {e : Expr} {es : List Expr} {f : SE} {g : SA} (he : DE X W e f) (hr : DA X W es g) (hs : starEach (e :: es) X.env = (false, eval e X.env) :: starEach es X.env := by rfl) : DA X W (e :: es) (consA f g) :=
  (pa_cons he hr hs).imp fun σ H Q ⟨m, ρ, st, he, hs, hp⟩ => ⟨m, ρ, st, he, hs, (Post.bind hp).mono fun x H1 ⟨m1, a, st1, s1, t1, r1, p1⟩ => ⟨m1, ρ, st1, he.step s1, t1, (Post.bind p1).mono fun xs H2 ⟨m2, as, st2, s2, t2, r2, p2⟩ => p2.ok_now t2 (.cons (r1.step s2) r2)⟩⟩
def tupE (f : SA) : SE := fun ρ st => bindR (f ρ st) fun as st => match asDs as with
  | some xs => if xs.length ≤ sizeLine then .ok (.d (.tup xs)) st else .err
  | none => .err
def lstE (f : SA) : SE := fun ρ st => bindR (f ρ st) fun as st => match asDs as with
  | some xs => if xs.length ≤ sizeLine then .ok (.d (.lst xs)) st else .err
  | none => .err
def refsBelow (n : Nat) (as : List Val) : Bool := as.all fun v => match v with
  | .ref k => decide (k < n)
  | _ => true
theorem refsBelow_mem {n : Nat} {as : List Val} (h : refsBelow n as = true) : ∀ k, Val.ref k ∈ as → k < n := fun k hk => by
  have := List.all_eq_true.mp h _ hk
  simpa using this
/-- a new list that may change -/
def newE (f : SA) : SE := fun ρ st => bindR (f ρ st) fun as st => if as.length ≤ sizeLine ∧ refsBelow st.length as = true then .ok (.ref st.length) (st ++ [some (.lst as)]) else .err
theorem AV.tup {m : Mp} {H : Hp} {p : Addr} {vs : List V} {xs : List D} (t : RepSt K mg m H st) (h : H p = none) (r : RepDs K mg m H vs xs) : RepV K mg m (upd H p (.tup vs)) (.ref p) (.d (.tup xs)) :=
  .d (.tup (.inl ⟨.inl upd_same, t.fresh h⟩) (r.step (Step.new h)))
theorem AV.lst {m : Mp} {H : Hp} {p : Addr} {vs : List V} {xs : List D} (t : RepSt K mg m H st) (h : H p = none) (r : RepDs K mg m H vs xs) : RepV K mg m (upd H p (.lst vs)) (.ref p) (.d (.lst xs)) :=
  .d (.lst upd_same (t.fresh h) (r.step (Step.new h)))
/-- a result at a new object -/
theorem Post.tupN {xs : List D} {vs : List V} {Q : VK} {E : XK} (hp : Post K mg m H (.ok (.d (.tup xs)) st) (AV K mg) Q E) (t : RepSt K mg m H st) (r : RepDs K mg m H vs xs) : ∀ p, H p = none → Q (.ref p) (upd H p (.tup vs)) := fun p hn =>
  hp m _ _ (Step.new hn) (t.new hn) (AV.tup t hn r)
theorem Post.lstN {xs : List D} {vs : List V} {Q : VK} {E : XK} (hp : Post K mg m H (.ok (.d (.lst xs)) st) (AV K mg) Q E) (t : RepSt K mg m H st) (r : RepDs K mg m H vs xs) : ∀ p, H p = none → Q (.ref p) (upd H p (.lst vs)) := fun p hn =>
  hp m _ _ (Step.new hn) (t.new hn) (AV.lst t hn r)
theorem de_tup {es : List Expr} {x1} {pos : Pos} {f : SA} (h : DA X W es f) : DE X W (.Tuple es x1 pos) (tupE f) := (pe_tup h).imp fun σ H Q ⟨m, ρ, st, he, hs, hp⟩ => ⟨m, ρ, st, he, hs, (Post.bind hp).mono fun vs H1 ⟨m1, as, st1, s1, t1, r1, p1⟩ => by
    cases e : asDs as with
    | none => simp only [e] at p1; exact p1.elim
    | some xs =>
      have rd := r1.ds e
      simp only [e] at p1
      by_cases hl : xs.length ≤ sizeLine
      · rw [if_pos hl] at p1
        exact ⟨by rw [rd.length]; exact hl, p1.tupN t1 rd⟩
      · rw [if_neg hl] at p1; exact p1.elim⟩
theorem de_lst {es : List Expr} {pos : Pos} {f : SA} (h : DA X W es f) : DE X W (.List es pos) (lstE f) := (pe_lst h).imp fun σ H Q ⟨m, ρ, st, he, hs, hp⟩ => ⟨m, ρ, st, he, hs, (Post.bind hp).mono fun vs H1 ⟨m1, as, st1, s1, t1, r1, p1⟩ => by
    cases e : asDs as with
    | none => simp only [e] at p1; exact p1.elim
    | some xs =>
      have rd := r1.ds e
      simp only [e] at p1
      by_cases hl : xs.length ≤ sizeLine
      · rw [if_pos hl] at p1
        exact ⟨by rw [rd.length]; exact hl, p1.lstN t1 rd⟩
      · rw [if_neg hl] at p1; exact p1.elim⟩
theorem de_new {es : List Expr} {pos : Pos} {f : SA} (h : DA X W es f) : DE X W (.List es pos) (newE f) := (pe_lst h).imp fun σ H Q ⟨m, ρ, st, he, hs, hp⟩ => ⟨m, ρ, st, he, hs, (Post.bind hp).mono fun vs H1 ⟨m1, as, st1, s1, t1, r1, p1⟩ => by
    by_cases hl : as.length ≤ sizeLine ∧ refsBelow st1.length as = true
    · simp only [if_pos hl] at p1
      refine ⟨by rw [r1.length]; exact hl.1, fun p hn => ?_⟩
      refine p1 (m1.push p) _ _ (Step.newCell hn) (t1.newCell hn r1 (refsBelow_mem hl.2)) (.ref (by show _ < (m1.c ++ [some p]).length; rw [List.length_append, ← t1.len]; exact Nat.lt_succ_self _) fun b e => ?_)
      have e : (m1.c ++ [some p])[_]? = _ := e
      rw [← t1.len, List.getElem?_append_right (Nat.le_refl _), Nat.sub_self] at e
      cases e
      rfl
    · simp only [if_neg hl] at p1; exact p1.elim⟩

/-! ### lists and tuples that are read -/
/-- the items of a list -/
def listOf (st : Store) : Val → Option (List D)
  | .d (.lst xs) => some xs
  | .ref n => match st[n]? with
    | some (some (.lst xs)) => asDs xs
    | _ => none
  | _ => none
theorem listOf_at {v : Val} {x : V} {xs : List D} (t : RepSt K mg m H st) (r : RepV K mg m H x v) (e : listOf st v = some xs) : ∃ a vs, x = .ref a ∧ H a = some (.lst vs) ∧ RepDs K mg m H vs xs := by
  cases r with
  | d r => cases r with
    | lst h n r => cases e; exact ⟨_, _, rfl, h, r⟩
    | _ => cases e
  | scr => cases e
  | @ref _ n hl hr =>
    simp only [listOf] at e
    cases q : st[n]? with
    | none => rw [q] at e; cases e
    | some o => rw [q] at e; rcases o with _ | ⟨ys⟩
                · cases e
                · obtain ⟨a, vs, e1, e2, r, _⟩ := t.at q
                  exact ⟨a, vs, hr a e1, e2, r.ds e⟩
/-- .. of any values -/
def valsOf (st : Store) : Val → Option (List Val)
  | .d (.lst xs) => some (xs.map .d)
  | .d (.tup xs) => some (xs.map .d)
  | .scr xs => some (xs.map .d)
  | .ref n => match st[n]? with
    | some (some (.lst xs)) => some xs
    | _ => none
  | _ => none
theorem valsOf_at {v : Val} {x : V} {xs : List Val} (t : RepSt K mg m H st) (r : RepV K mg m H x v) (e : valsOf st v = some xs) : ∃ a vs, x = .ref a ∧ (SqL K H a vs ∨ SqT K H a vs) ∧ RepVs K mg m H vs xs := by
  cases r with
  | d r => cases r with
    | lst h n r => cases e; exact ⟨_, _, rfl, .inl (.inl (.inl h)), r.vs⟩
    | tup h r => cases e; exact ⟨_, _, rfl, .inr h.sq, r.vs⟩
    | _ => cases e
  | scr h r => cases e; exact ⟨_, _, rfl, .inl h.sq, r.vs⟩
  | @ref _ n hl hr =>
    simp only [valsOf] at e
    cases q : st[n]? with
    | none => rw [q] at e; cases e
    | some o => rw [q] at e; rcases o with _ | ⟨ys⟩
                · cases e
                · cases e
                  obtain ⟨a, vs, e1, e2, r, _⟩ := t.at q
                  exact ⟨a, vs, hr a e1, .inl (.inl (.inl e2)), r⟩
/-- the items of a list, a tuple, the script -/
def seqOf (st : Store) : Val → Option (List D)
  | .d (.lst xs) => some xs
  | .d (.tup xs) => some xs
  | .scr xs => some xs
  | .ref n => match st[n]? with
    | some (some (.lst xs)) => asDs xs
    | _ => none
  | _ => none
theorem seqOf_at {v : Val} {x : V} {xs : List D} (t : RepSt K mg m H st) (r : RepV K mg m H x v) (e : seqOf st v = some xs) : ∃ a vs, x = .ref a ∧ (SqL K H a vs ∨ SqT K H a vs) ∧ RepDs K mg m H vs xs := by
  cases r with
  | d r => cases r with
    | lst h n r => cases e; exact ⟨_, _, rfl, .inl (.inl (.inl h)), r⟩
    | tup h r => cases e; exact ⟨_, _, rfl, .inr h.sq, r⟩
    | _ => cases e
  | scr h r => cases e; exact ⟨_, _, rfl, .inl h.sq, r⟩
  | @ref _ n hl hr =>
    simp only [seqOf] at e
    cases q : st[n]? with
    | none => rw [q] at e; cases e
    | some o => rw [q] at e; rcases o with _ | ⟨ys⟩
                · cases e
                · obtain ⟨a, vs, e1, e2, r, _⟩ := t.at q
                  exact ⟨a, vs, hr a e1, .inl (.inl (.inl e2)), r.ds e⟩
end
end DL
end

section
set_option Elab.async false
set_option linter.all false
set_option autoImplicit false
set_option maxRecDepth 100000
/-! DL3: operators over data. -/
namespace DL
open PySem PySem.Spec PyProof.Rows L2
mutual
def toPy : D → Option PyData
  | .non => some .none
  | .bl b => some (.bool b)
  | .int i => some (.int i)
  | .str s => some (.str s)
  | .lst xs => (toPys xs).map .list
  | .tup xs => (toPys xs).map .tuple
  | .ins _ _ _ => none
def toPys : List D → Option (List PyData)
  | [] => some []
  | x :: xs => match toPy x, toPys xs with
    | some a, some b => some (a :: b)
    | _, _ => none
end
def okIf (b : Bool) (v : Val) (st : Store) : R Val := if b then .ok v st else .err
/-- a value of the store as data -/
def valD (st : Store) : Val → Option D
  | .d x => some x
  | .ref n => match st[n]? with
    | some (some (.lst xs)) => (asDs xs).map .lst
    | _ => none
  | .scr _ => none
/-- == of data -/
def eqG (a b : D) : Option Bool := match toPy a, toPy b with
  | some p, some q => if SeqAt.shaped p && SeqAt.shaped q then some (PyData.eqv p q) else none
  | _, _ => none
def eqB : D → D → Option Bool
  | .str a, .str b => some (decide (a = b))
  | .int a, .int b => some (decide (a = b))
  | .bl a, .bl b => some (decide (a = b))
  | .non, .non => some true
  | .non, .str _ => some false
  | .str _, .non => some false
  | a, b => eqG a b
def bin (o : Option Bool) (neg : Bool) (st : Store) : R Val := match o with
  | some b => .ok (.d (.bl (if neg then !b else b))) st
  | none => .err
def eqV (neg : Bool) (a b : Val) (st : Store) : R Val := match valD st a, valD st b with
  | some x, some y => bin (eqB x y) neg st
  | _, _ => .err
def inG (x : D) (xs : List D) : Option Bool := match toPy x, toPys xs with
  | some d, some ds => if SeqAt.shaped d && SeqAt.shaped (.list ds) then some (ds.any fun z => PyData.eqv z d) else none
  | _, _ => none
def inSign (a z : Str) : Option Bool := match a.cps.toList with
  | [c] => some (decide (c ∈ z.cps.toList))
  | _ => none
def inV (neg : Bool) (a b : Val) (st : Store) : R Val := match a, b with
  | .d (.str a), .d (.str z) => bin (inSign a z) neg st
  | a, b => match valD st a, seqOf st b with
    | some x, some xs => bin (inG x xs) neg st
    | _, _ => .err
def isNon (neg : Bool) (a b : Val) (st : Store) : R Val := match a, b with
  | .d x, .d .non => .ok (.d (.bl (if neg then !(match x with | .non => true | _ => false) else (match x with | .non => true | _ => false)))) st
  | _, _ => .err
def addV (a b : Val) (st : Store) : R Val := match a, b with
  | .d (.int i), .d (.int j) => .ok (.d (.int (i + j))) st
  | .d (.str i), .d (.str j) => if i.length + j.length ≤ sizeLine then .ok (.d (.str (i ++ j))) st else .err
  | .d (.tup i), .d (.tup j) => if i.length + j.length ≤ sizeLine then .ok (.d (.tup (i ++ j))) st else .err
  | a, b => match listOf st a, listOf st b with
    | some i, some j => if i.length + j.length ≤ sizeLine then .ok (.d (.lst (i ++ j))) st else .err
    | _, _ => .err
def subV (a b : Val) (st : Store) : R Val := match a, b with
  | .d (.int i), .d (.int j) => .ok (.d (.int (i - j))) st
  | _, _ => .err
def small64 (i : Int) : Bool := decide (-(2 ^ 64) < i) && decide (i < 2 ^ 64)
def mulV (a b : Val) (st : Store) : R Val := match a, b with
  | .d (.int i), .d (.int j) => if small64 i || small64 j then .ok (.d (.int (i * j))) st else .err
  | a, .d (.int k) => match listOf st a with
    | some xs => if -(2 ^ 63) ≤ k ∧ k < 2 ^ 63 ∧ xs.length * k.toNat ≤ sizeLine then .ok (.d (.lst (List.replicate k.toNat xs).flatten)) st else .err
    | none => .err
  | _, _ => .err
def fdivV (a b : Val) (st : Store) : R Val := match a, b with
  | .d (.int i), .d (.int j) => if 0 < j ∧ j < 1073741824 then .ok (.d (.int (i / j))) st else .err
  | _, _ => .err
def modV (a b : Val) (st : Store) : R Val := match a, b with
  | .d (.int i), .d (.int j) => if 0 < j then .ok (.d (.int (i % j))) st else .err
  | _, _ => .err
def powV (a b : Val) (st : Store) : R Val := match a, b with
  | .d (.int i), .d (.int j) => if 0 ≤ j ∧ j ≤ 1000000 ∧ i.natAbs < 2 ^ 64 then .ok (.d (.int (i ^ j.toNat))) st else .err
  | _, _ => .err
def ltV (a b : Val) (st : Store) : R Val := match a, b with
  | .d (.int i), .d (.int j) => .ok (.d (.bl (decide (i < j)))) st
  | .d (.str i), .d (.str j) => .ok (.d (.bl (decide (i.cps.toList < j.cps.toList)))) st
  | _, _ => .err
def leV (a b : Val) (st : Store) : R Val := match a, b with
  | .d (.int i), .d (.int j) => .ok (.d (.bl (decide (i ≤ j)))) st
  | .d (.str i), .d (.str j) => .ok (.d (.bl (!decide (j.cps.toList < i.cps.toList)))) st
  | _, _ => .err
def gtV (a b : Val) (st : Store) : R Val := match a, b with
  | .d (.int i), .d (.int j) => .ok (.d (.bl (decide (j < i)))) st
  | .d (.str i), .d (.str j) => .ok (.d (.bl (decide (j.cps.toList < i.cps.toList)))) st
  | _, _ => .err
def geV (a b : Val) (st : Store) : R Val := match a, b with
  | .d (.int i), .d (.int j) => .ok (.d (.bl (decide (j ≤ i)))) st
  | .d (.str i), .d (.str j) => .ok (.d (.bl (!decide (i.cps.toList < j.cps.toList)))) st
  | _, _ => .err
/-- an index -/
def ixV (a b : Val) (st : Store) : R Val := match a, b with
  | .d (.str z), .d (.int i) => if z.length ≤ sizeLine then match atI z.cps.toList i with
    | some c => .ok (.d (.str ⟨#[c]⟩)) st
    | none => .err
    else .err
  | a, .d (.int i) => match valsOf st a with
    | some xs => match atI xs i with
      | some v => .ok v st
      | none => .err
    | none => .err
  | _, _ => .err
section
variable {X : Cx} {W : WX} {K : PySem.W.Frag} {mg : Str → Option Value} {m m' : Mp} {H H' : Hp} {st : Store}
mutual
theorem RepD.dp : ∀ {v : V} {x : D} {p : PyData}, RepD K mg m H v x → toPy x = some p → Dp K H v p
  | _, _, _, .non, e => by cases e; exact .non
  | _, _, _, .bl b, e => by cases e; exact .bl b
  | _, _, _, .int i, e => by cases e; exact .int i
  | _, _, _, .str x, e => by cases e; exact .str x
  | _, _, _, @RepD.lst _ _ _ _ a vs xs h n r, e => by
    simp only [toPy] at e
    cases q : toPys xs with
    | none => rw [q] at e; cases e
    | some l => rw [q] at e; cases e; exact .lst (.inl (.inl h)) (RepDs.dp r q)
  | _, _, _, @RepD.tup _ _ _ _ a vs xs h r, e => by
    simp only [toPy] at e
    cases q : toPys xs with
    | none => rw [q] at e; cases e
    | some l => rw [q] at e; cases e; exact .tup h.sq (RepDs.dp r q)
  | _, _, _, .ins _ _ _ _ _ _, e => by cases e
theorem RepDs.dp : ∀ {v : List V} {x : List D} {p : List PyData}, RepDs K mg m H v x → toPys x = some p → DpAll K H v p
  | _, _, _, .nil, e => by cases e; exact .nil
  | _, _, _, @RepDs.cons _ _ _ _ v vs x xs r t, e => by
    simp only [toPys] at e
    cases q : toPy x with
    | none => rw [q] at e; cases e
    | some a =>
      cases q2 : toPys xs with
      | none => rw [q, q2] at e; cases e
      | some b => rw [q, q2] at e; cases e; exact .cons (RepD.dp r q) (RepDs.dp t q2)
end
theorem valD_dp {v : Val} {x : V} {d : D} {p : PyData} (t : RepSt K mg m H st) (r : RepV K mg m H x v) (e : valD st v = some d) (hp : toPy d = some p) : Dp K H x p := by
  cases r with
  | d r => cases e; exact r.dp hp
  | scr => cases e
  | @ref _ n hl hr =>
    simp only [valD] at e
    cases q : st[n]? with
    | none => rw [q] at e; cases e
    | some o => rw [q] at e; rcases o with _ | c
                · cases e
                · obtain ⟨ys⟩ := c
                  obtain ⟨a, vs, e1, e2, r, _⟩ := t.at q
                  simp only at e
                  cases e3 : asDs ys with
                  | none => simp only [e3] at e; cases e
                  | some ds =>
                    simp only [e3] at e
                    cases e
                    simp only [toPy] at hp
                    cases e4 : toPys ds with
                    | none => rw [e4] at hp; cases hp
                    | some l => rw [e4] at hp; cases hp; rw [hr a e1]; exact .lst (.inl (.inl e2)) ((r.ds e3).dp e4)
theorem DpAll.length : ∀ {vs : List V} {ds : List PyData}, DpAll K H vs ds → vs.length = ds.length
  | _, _, .nil => rfl
  | _, _, .cons _ r => congrArg (· + 1) (DpAll.length r)
theorem okbl {b : Bool} {Q : VK} {E : XK} (t : RepSt K mg m H st) (h : Post K mg m H (.ok (.d (.bl b)) st) (AV K mg) Q E) : Q (.bl b) H := h.ok_now t (.d (.bl b))
/-! ### ==, != -/
def rEqA (K : PySem.W.Frag) (neg : Bool) : R2 := fun x y H Q => (∃ z w, x = .str z ∧ y = .str w ∧ Q (.bl (if neg then !decide (z = w) else decide (z = w))) H) ∨ (scal x y = true ∧ Q (.bl (if neg then !decide (x = y) else decide (x = y))) H) ∨ (∃ d e, Dp K H x d ∧ Dp K H y e ∧ SeqAt.shaped d = true ∧ SeqAt.shaped e = true ∧ Q (.bl (if neg then !PyData.eqv d e else PyData.eqv d e)) H)
theorem op_eqA (hu : X.A.units + 64 < cLine) : OpR X (compareOp .Eq) (rEqA X.K false) := by
  intro pins s σ H x y v u Q I rx ry h
  rcases h with ⟨z, w, rfl, rfl, q⟩ | ⟨e, q⟩ | ⟨d, e, h1, h2, h3, h4, q⟩
  · exact op_eq pins s σ H _ _ v u Q I rx ry ⟨rfl, by simpa using q⟩
  · exact op_eq pins s σ H _ _ v u Q I rx ry ⟨e, by simpa using q⟩
  · exact op_eqD hu pins s σ H _ _ v u Q I rx ry ⟨d, e, h1, h2, h3, h4, by simpa using q⟩
theorem op_neA (hu : X.A.units + 64 < cLine) : OpR X (compareOp .NotEq) (rEqA X.K true) := by
  intro pins s σ H x y v u Q I rx ry h
  rcases h with ⟨z, w, rfl, rfl, q⟩ | ⟨e, q⟩ | ⟨d, e, h1, h2, h3, h4, q⟩
  · exact op_ne pins s σ H _ _ v u Q I rx ry ⟨rfl, by simpa using q⟩
  · exact op_ne pins s σ H _ _ v u Q I rx ry ⟨e, by simpa using q⟩
  · exact op_neD hu pins s σ H _ _ v u Q I rx ry ⟨d, e, h1, h2, h3, h4, by simpa using q⟩
theorem eqG_of {neg : Bool} {x y : V} {a b : Val} {c d : D} {Q : VK} {E : XK} (t : RepSt K mg m H st) (rx : RepV K mg m H x a) (ry : RepV K mg m H y b) (ea : valD st a = some c) (eb : valD st b = some d) (h : Post K mg m H (DL.bin (eqG c d) neg st) (AV K mg) Q E) : rEqA K neg x y H Q := by
  unfold eqG at h
  cases e1 : toPy c with
  | none => rw [e1] at h; exact h.elim
  | some p =>
    cases e2 : toPy d with
    | none => rw [e1, e2] at h; exact h.elim
    | some q =>
      rw [e1, e2] at h
      simp only [DL.bin] at h
      cases e3 : SeqAt.shaped p && SeqAt.shaped q with
      | false => rw [e3] at h; exact h.elim
      | true =>
        rw [e3] at h
        obtain ⟨s1, s2⟩ := Bool.and_eq_true_iff.mp e3
        exact .inr (.inr ⟨p, q, valD_dp t rx ea e1, valD_dp t ry eb e2, s1, s2, okbl t h⟩)
theorem valD_ref {n : Nat} {d : D} (e : valD st (.ref n) = some d) : ∃ xs, d = .lst xs := by
  simp only [valD] at e
  split at e
  · obtain ⟨l, _, rfl⟩ := Option.map_eq_some_iff.mp e
    exact ⟨l, rfl⟩
  · cases e
theorem eqB_lst1 {xs : List D} {d : D} : eqB (.lst xs) d = eqG (.lst xs) d := by cases d <;> rfl
theorem eqB_lst2 {xs : List D} {d : D} : eqB d (.lst xs) = eqG d (.lst xs) := by cases d <;> rfl
theorem od_eq {neg : Bool} : OpD K mg (rEqA K neg) (eqV neg) := by
  intro m H st x y a b Q E t rx ry h
  unfold eqV at h
  cases ea : valD st a with
  | none => rw [ea] at h; exact h.elim
  | some c =>
    cases eb : valD st b with
    | none => rw [ea, eb] at h; exact h.elim
    | some d =>
      rw [ea, eb] at h
      simp only at h
      have gen : Post K mg m H (DL.bin (eqG c d) neg st) (AV K mg) Q E → rEqA K neg x y H Q := eqG_of t rx ry ea eb
      cases rx with
      | d rx =>
        cases ry with
        | d ry =>
          cases ea
          cases eb
          cases rx <;> cases ry <;> first
            | exact gen h
            | (refine .inr (.inl ⟨rfl, ?_⟩); have q := okbl t h; simpa using q)
        | ref => obtain ⟨l, rfl⟩ := valD_ref eb; exact gen (by rw [eqB_lst2] at h; exact h)
        | scr => cases eb
      | ref => obtain ⟨l, rfl⟩ := valD_ref ea; exact gen (by rw [eqB_lst1] at h; exact h)
      | scr => cases ea
end
end DL
end

section
set_option Elab.async false
set_option linter.all false
set_option autoImplicit false
set_option maxRecDepth 100000
/-! DL4: more operators, indices, slices. -/
namespace DL
open PySem PySem.Spec PyProof.Rows L2
section
variable {X : Cx} {W : WX} {K : PySem.W.Frag} {mg : Str → Option Value} {m m' : Mp} {H H' : Hp} {st : Store}
/-! ### in -/
def rInTD (K : PySem.W.Frag) : R2 := fun x y H Q => ∃ d ds, Dp K H x d ∧ Dp K H y (.tuple ds) ∧ SeqAt.shaped d = true ∧ SeqAt.shaped (.tuple ds) = true ∧ Q (.bl (ds.any fun z => PyData.eqv z d)) H
def rNotInTD (K : PySem.W.Frag) : R2 := fun x y H Q => ∃ d ds, Dp K H x d ∧ Dp K H y (.tuple ds) ∧ SeqAt.shaped d = true ∧ SeqAt.shaped (.tuple ds) = true ∧ Q (.bl (!ds.any fun z => PyData.eqv z d)) H
theorem op_inTD (hu : X.A.units + 65 < cLine) : OpR X (compareOp .In) (rInTD X.K) := by
  intro pins s σ H x y v u Q I rx ry h
  obtain ⟨d, ds, hd, he, sd, se, q⟩ := h
  obtain ⟨as, r1⟩ := Dp.reads I d x v hd rx
  obtain ⟨bs, r2⟩ := Dp.reads I (.tuple ds) y u he ry
  exact SeqAt.in_tuple_reads r2 r1 (SeqAt.canLay_of_shaped se) (SeqAt.canLay_of_shaped sd) (room_in_shaped sd hu) ⟨.bl _, H, I, rfl, q⟩
theorem op_notInTD (hu : X.A.units + 65 < cLine) : OpR X (compareOp .NotIn) (rNotInTD X.K) := by
  intro pins s σ H x y v u Q I rx ry h
  obtain ⟨d, ds, hd, he, sd, se, q⟩ := h
  obtain ⟨as, r1⟩ := Dp.reads I d x v hd rx
  obtain ⟨bs, r2⟩ := Dp.reads I (.tuple ds) y u he ry
  exact SeqAt.notIn_tuple_reads r2 r1 (SeqAt.canLay_of_shaped se) (SeqAt.canLay_of_shaped sd) (room_in_shaped sd hu) ⟨.bl _, H, I, rfl, q⟩
def rInA (K : PySem.W.Frag) (neg : Bool) : R2 := fun x y H Q => (∃ (c : Nat) (z : Str), x = .str ⟨#[c]⟩ ∧ y = .str z ∧ Q (.bl (if neg then !decide (c ∈ z.cps.toList) else decide (c ∈ z.cps.toList))) H) ∨
  (∃ d ds, Dp K H x d ∧ (Dp K H y (.list ds) ∨ Dp K H y (.tuple ds)) ∧ SeqAt.shaped d = true ∧ SeqAt.shaped (.list ds) = true ∧ Q (.bl (if neg then !(ds.any fun z => PyData.eqv z d) else (ds.any fun z => PyData.eqv z d))) H)
theorem op_inA (hu : X.A.units + 65 < cLine) : OpR X (compareOp .In) (rInA X.K false) := by
  intro pins s σ H x y v u Q I rx ry h
  rcases h with ⟨c, z, rfl, rfl, q⟩ | ⟨d, ds, h1, h2, h3, h4, q⟩
  · exact op_in_sign pins s σ H _ _ v u Q I rx ry ⟨c, z, rfl, rfl, by simpa using q⟩
  · rcases h2 with h2 | h2
    · exact op_inD hu pins s σ H _ _ v u Q I rx ry ⟨d, ds, h1, h2, h3, h4, by simpa using q⟩
    · exact op_inTD hu pins s σ H _ _ v u Q I rx ry ⟨d, ds, h1, h2, h3, h4, by simpa using q⟩
theorem op_notInA (hu : X.A.units + 65 < cLine) : OpR X (compareOp .NotIn) (rInA X.K true) := by
  intro pins s σ H x y v u Q I rx ry h
  rcases h with ⟨c, z, rfl, rfl, q⟩ | ⟨d, ds, h1, h2, h3, h4, q⟩
  · exact op_notIn_sign pins s σ H _ _ v u Q I rx ry ⟨c, z, rfl, rfl, by simpa using q⟩
  · rcases h2 with h2 | h2
    · exact op_notInD hu pins s σ H _ _ v u Q I rx ry ⟨d, ds, h1, h2, h3, h4, by simpa using q⟩
    · exact op_notInTD hu pins s σ H _ _ v u Q I rx ry ⟨d, ds, h1, h2, h3, h4, by simpa using q⟩
theorem seqOf_dp {v : Val} {x : V} {ds : List D} {ps : List PyData} (t : RepSt K mg m H st) (r : RepV K mg m H x v) (e : seqOf st v = some ds) (hp : toPys ds = some ps) : Dp K H x (.list ps) ∨ Dp K H x (.tuple ps) := by
  obtain ⟨a, vs, rfl, hq, rd⟩ := seqOf_at t r e
  rcases hq with hq | hq
  · exact .inl (.lst hq (rd.dp hp))
  · exact .inr (.tup hq (rd.dp hp))
theorem od_in {neg : Bool} : OpD K mg (rInA K neg) (inV neg) := by
  intro m H st x y a b Q E t rx ry h
  have gen : ∀ {c : D} {xs : List D}, valD st a = some c → seqOf st b = some xs → Post K mg m H (DL.bin (inG c xs) neg st) (AV K mg) Q E → rInA K neg x y H Q := by
    intro c xs ea eb h
    unfold inG at h
    cases e1 : toPy c with
    | none => rw [e1] at h; exact h.elim
    | some p =>
      cases e2 : toPys xs with
      | none => rw [e1, e2] at h; exact h.elim
      | some q =>
        rw [e1, e2] at h
        simp only [DL.bin] at h
        cases e3 : SeqAt.shaped p && SeqAt.shaped (.list q) with
        | false => rw [e3] at h; exact h.elim
        | true =>
          rw [e3] at h
          obtain ⟨s1, s2⟩ := Bool.and_eq_true_iff.mp e3
          exact .inr ⟨p, q, valD_dp t rx ea e1, seqOf_dp t ry eb e2, s1, s2, okbl t h⟩
  unfold inV at h
  split at h
  · rename_i s z
    cases rx with
    | d rx => cases rx; cases ry with
      | d ry =>
        cases ry
        unfold inSign at h
        split at h
        · rename_i c hc
          have : s = ⟨#[c]⟩ := by
            cases s with
            | mk cps =>
              have : cps = #[c] := by
                apply Array.ext'
                simpa using hc
              rw [this]
          exact .inl ⟨c, z, by rw [this], rfl, okbl t h⟩
        · exact h.elim
  · cases ea : valD st a with
    | none => rw [ea] at h; exact h.elim
    | some c =>
      cases eb : seqOf st b with
      | none => rw [ea, eb] at h; exact h.elim
      | some xs => rw [ea, eb] at h; exact gen ea eb h
/-! ### is None -/
def rIsNA (neg : Bool) : R2 := fun x y H Q => y = .non ∧ Q (.bl (if neg then !decide (x = .non) else decide (x = .non))) H
theorem op_isA : OpR X (compareOp .Is) (rIsNA false) := op_isN
theorem op_isnotA : OpR X (compareOp .IsNot) (rIsNA true) := op_notN
theorem od_is {neg : Bool} : OpD K mg (rIsNA neg) (isNon neg) := by
  intro m H st x y a b Q E t rx ry h
  unfold isNon at h
  split at h
  · cases ry with
    | d ry =>
      cases ry
      cases rx with
      | d rx =>
        refine ⟨rfl, ?_⟩
        have q := okbl t h
        cases rx <;> simpa using q
  · exact h.elim
/-! ### + -/
def rAddA (K : PySem.W.Frag) : R2 := fun x y H Q => rI0 (fun i j => .int (i + j)) x y H Q ∨ (∃ i j, x = .str i ∧ y = .str j ∧ i.length + j.length ≤ sizeLine ∧ Q (.str (i ++ j)) H) ∨ rCatA K x y H Q ∨ rCat x y H Q
theorem op_addA : OpR X (binaryOp .Add) (rAddA X.K) := op_add.or (op_add_str.or (op_catA.or op_cat))
theorem od_add : OpD K mg (rAddA K) addV := by
  intro m H st x y a b Q E t rx ry h
  have gen : ∀ {i j : List D}, listOf st a = some i → listOf st b = some j → Post K mg m H (if i.length + j.length ≤ sizeLine then .ok (.d (.lst (i ++ j))) st else .err) (AV K mg) Q E → rAddA K x y H Q := by
    intro i j ea eb h
    obtain ⟨p, us, rfl, h1, r1⟩ := listOf_at t rx ea
    obtain ⟨q, ws, rfl, h2, r2⟩ := listOf_at t ry eb
    by_cases c : i.length + j.length ≤ sizeLine
    · rw [if_pos c] at h
      exact .inr (.inr (.inr ⟨p, q, us, ws, rfl, rfl, h1, h2, by rw [r1.length, r2.length]; exact c, h.lstN t (r1.append r2)⟩))
    · rw [if_neg c] at h; exact h.elim
  unfold addV at h
  split at h
  · cases rx with
    | d rx => cases rx; cases ry with
      | d ry => cases ry; exact .inl ⟨_, _, rfl, rfl, h.ok_now t (.d (.int _))⟩
  · cases rx with
    | d rx => cases rx; cases ry with
      | d ry =>
        cases ry
        split at h
        · rename_i c
          exact .inr (.inl ⟨_, _, rfl, rfl, c, h.ok_now t (.d (.str _))⟩)
        · exact h.elim
  · cases rx with
    | d rx => cases rx with
      | tup h1 r1 => cases ry with
        | d ry => cases ry with
          | tup h2 r2 =>
            split at h
            · rename_i c
              refine .inr (.inr (.inl ⟨_, _, _, _, rfl, rfl, h1.sq, h2.sq, by rw [r1.length, r2.length]; exact c, fun e => ?_, fun _ e => ?_, fun _ _ => h.tupN t (r1.append r2)⟩))
              · subst e
                cases r1
                exact h.ok_now t (.d (.tup h2 r2))
              · subst e
                cases r2
                rw [List.append_nil] at h
                exact h.ok_now t (.d (.tup h1 r1))
            · exact h.elim
  · split at h
    · rename_i ea eb; exact gen ea eb h
    · exact h.elim
/-! ### ints -/
theorem od_int {g : Int → Int → Int} {gv : Val → Val → Store → R Val} {C : Int → Int → Prop} (hg : ∀ a b st, gv a b st = .err ∨ ∃ i j, a = .d (.int i) ∧ b = .d (.int j) ∧ C i j ∧ gv a b st = .ok (.d (.int (g i j))) st) : OpD K mg (rI C fun i j => .int (g i j)) gv := by
  intro m H st x y a b Q E t rx ry h
  rcases hg a b st with e | ⟨i, j, rfl, rfl, c, e⟩
  · rw [e] at h; exact h.elim
  · rw [e] at h
    cases rx with
    | d rx => cases rx; cases ry with
      | d ry => cases ry; exact ⟨i, j, rfl, rfl, c, h.ok_now t (.d (.int _))⟩
theorem od_sub : OpD K mg (rI (fun _ _ => True) fun i j => .int (i - j)) subV := od_int fun a b st => by
  unfold subV
  split
  · exact .inr ⟨_, _, rfl, rfl, trivial, rfl⟩
  · exact .inl rfl
theorem op_subA : OpR X (binaryOp .Sub) (rI (fun _ _ => True) fun i j => .int (i - j)) := fun pins s σ H x y v u Q I rx ry ⟨i, j, e1, e2, _, q⟩ => op_sub pins s σ H x y v u Q I rx ry ⟨i, j, e1, e2, q⟩
theorem od_fdiv : OpD K mg (rI CDiv fun i j => .int (i / j)) fdivV := od_int fun a b st => by
  unfold fdivV
  split
  · split
    · rename_i c; exact .inr ⟨_, _, rfl, rfl, c, rfl⟩
    · exact .inl rfl
  · exact .inl rfl
theorem od_mod : OpD K mg (rI (fun _ j => 0 < j) fun i j => .int (i % j)) modV := od_int fun a b st => by
  unfold modV
  split
  · split
    · rename_i c; exact .inr ⟨_, _, rfl, rfl, c, rfl⟩
    · exact .inl rfl
  · exact .inl rfl
theorem od_pow : OpD K mg (rI CPow fun i j => .int (i ^ j.toNat)) powV := od_int fun a b st => by
  unfold powV
  split
  · split
    · rename_i c; exact .inr ⟨_, _, rfl, rfl, c, rfl⟩
    · exact .inl rfl
  · exact .inl rfl
def rMulA : R2 := fun x y H Q => rI CMul (fun i j => .int (i * j)) x y H Q ∨ rRep x y H Q
theorem op_mulA : OpR X (binaryOp .Mult) rMulA := op_mul.or op_rep
theorem small64_iff {i : Int} (h : small64 i = true) : -(2 ^ 64) < i ∧ i < 2 ^ 64 := by
  unfold small64 at h
  simpa using h
theorem od_mul : OpD K mg rMulA mulV := by
  intro m H st x y a b Q E t rx ry h
  unfold mulV at h
  split at h
  · cases rx with
    | d rx => cases rx; cases ry with
      | d ry =>
        cases ry
        split at h
        · rename_i c
          refine .inl ⟨_, _, rfl, rfl, ?_, h.ok_now t (.d (.int _))⟩
          rcases Bool.or_eq_true_iff.mp c with c | c
          · exact .inl (small64_iff c)
          · exact .inr (small64_iff c)
        · exact h.elim
  · cases ry with
    | d ry =>
      cases ry
      split at h
      · rename_i xs ea
        obtain ⟨p, us, rfl, h1, r1⟩ := listOf_at t rx ea
        split at h
        · rename_i c
          refine .inr ⟨p, _, us, rfl, rfl, h1, c.1, c.2.1, by rw [r1.length]; exact c.2.2, h.lstN t ?_⟩
          generalize Int.toNat _ = n
          induction n with
          | zero => exact .nil
          | succ n ih => simp only [List.replicate_succ, List.flatten_cons]; exact r1.append ih
        · exact h.elim
      · exact h.elim
  · exact h.elim
/-! ### order -/
theorem od_ord {g : Int → Int → Bool} {z : Str → Str → Bool} {gv : Val → Val → Store → R Val} (hg : ∀ a b st, gv a b st = .err ∨ (∃ i j, a = .d (.int i) ∧ b = .d (.int j) ∧ gv a b st = .ok (.d (.bl (g i j))) st) ∨ (∃ i j, a = .d (.str i) ∧ b = .d (.str j) ∧ gv a b st = .ok (.d (.bl (z i j))) st)) :
    OpD K mg (fun x y H Q => rI0 (fun i j => .bl (g i j)) x y H Q ∨ (∃ i j, x = .str i ∧ y = .str j ∧ Q (.bl (z i j)) H)) gv := by
  intro m H st x y a b Q E t rx ry h
  rcases hg a b st with e | ⟨i, j, rfl, rfl, e⟩ | ⟨i, j, rfl, rfl, e⟩
  · rw [e] at h; exact h.elim
  · rw [e] at h
    cases rx with
    | d rx => cases rx; cases ry with
      | d ry => cases ry; exact .inl ⟨i, j, rfl, rfl, okbl t h⟩
  · rw [e] at h
    cases rx with
    | d rx => cases rx; cases ry with
      | d ry => cases ry; exact .inr ⟨i, j, rfl, rfl, okbl t h⟩
theorem op_ltA : OpR X (compareOp .Lt) (fun x y H Q => rI0 (fun i j => .bl (decide (i < j))) x y H Q ∨ (∃ i j, x = .str i ∧ y = .str j ∧ Q (.bl (decide (i.cps.toList < j.cps.toList))) H)) := op_lt.or op_lt_str
theorem op_leA : OpR X (compareOp .LtE) (fun x y H Q => rI0 (fun i j => .bl (decide (i ≤ j))) x y H Q ∨ (∃ i j, x = .str i ∧ y = .str j ∧ Q (.bl (!decide (j.cps.toList < i.cps.toList))) H)) := op_le.or op_le_str
theorem op_gtA : OpR X (compareOp .Gt) (fun x y H Q => rI0 (fun i j => .bl (decide (j < i))) x y H Q ∨ (∃ i j, x = .str i ∧ y = .str j ∧ Q (.bl (decide (j.cps.toList < i.cps.toList))) H)) := op_gt.or op_gt_str
theorem op_geA : OpR X (compareOp .GtE) (fun x y H Q => rI0 (fun i j => .bl (decide (j ≤ i))) x y H Q ∨ (∃ i j, x = .str i ∧ y = .str j ∧ Q (.bl (!decide (i.cps.toList < j.cps.toList))) H)) := op_ge.or op_ge_str
theorem od_lt : OpD K mg (fun x y H Q => rI0 (fun i j => .bl (decide (i < j))) x y H Q ∨ (∃ i j, x = .str i ∧ y = .str j ∧ Q (.bl (decide (i.cps.toList < j.cps.toList))) H)) ltV := od_ord (g := fun i j => decide (i < j)) (z := fun i j => decide (i.cps.toList < j.cps.toList)) fun a b st => by
  unfold ltV
  split
  · exact .inr (.inl ⟨_, _, rfl, rfl, rfl⟩)
  · exact .inr (.inr ⟨_, _, rfl, rfl, rfl⟩)
  · exact .inl rfl
theorem od_le : OpD K mg (fun x y H Q => rI0 (fun i j => .bl (decide (i ≤ j))) x y H Q ∨ (∃ i j, x = .str i ∧ y = .str j ∧ Q (.bl (!decide (j.cps.toList < i.cps.toList))) H)) leV := od_ord (g := fun i j => decide (i ≤ j)) (z := fun i j => !decide (j.cps.toList < i.cps.toList)) fun a b st => by
  unfold leV
  split
  · exact .inr (.inl ⟨_, _, rfl, rfl, rfl⟩)
  · exact .inr (.inr ⟨_, _, rfl, rfl, rfl⟩)
  · exact .inl rfl
theorem od_gt : OpD K mg (fun x y H Q => rI0 (fun i j => .bl (decide (j < i))) x y H Q ∨ (∃ i j, x = .str i ∧ y = .str j ∧ Q (.bl (decide (j.cps.toList < i.cps.toList))) H)) gtV := od_ord (g := fun i j => decide (j < i)) (z := fun i j => decide (j.cps.toList < i.cps.toList)) fun a b st => by
  unfold gtV
  split
  · exact .inr (.inl ⟨_, _, rfl, rfl, rfl⟩)
  · exact .inr (.inr ⟨_, _, rfl, rfl, rfl⟩)
  · exact .inl rfl
theorem od_ge : OpD K mg (fun x y H Q => rI0 (fun i j => .bl (decide (j ≤ i))) x y H Q ∨ (∃ i j, x = .str i ∧ y = .str j ∧ Q (.bl (!decide (i.cps.toList < j.cps.toList))) H)) geV := od_ord (g := fun i j => decide (j ≤ i)) (z := fun i j => !decide (i.cps.toList < j.cps.toList)) fun a b st => by
  unfold geV
  split
  · exact .inr (.inl ⟨_, _, rfl, rfl, rfl⟩)
  · exact .inr (.inr ⟨_, _, rfl, rfl, rfl⟩)
  · exact .inl rfl
/-! ### negative numbers, indices -/
def negE (f : SE) : SE := fun ρ st => bindR (f ρ st) fun a st => match a with
  | .d (.int i) => .ok (.d (.int (-i))) st
  | _ => .err
theorem de_neg {a : Expr} {pos : Pos} {f : SE} (h : DE X W a f) : DE X W (.UnaryOp .USub a pos) (negE f) := (pe_un un_neg h).imp fun σ H Q ⟨m, ρ, st, he, hs, hp⟩ => ⟨m, ρ, st, he, hs, (Post.bind hp).mono fun x H1 ⟨m1, a, st1, s1, t1, r1, p1⟩ => by
    cases r1 with
    | d r1 => cases r1 with
      | int i => exact ⟨i, rfl, p1.ok_now t1 (.d (.int _))⟩
      | _ => exact p1.elim
    | _ => exact p1.elim⟩
theorem RepVs.atI {vs : List V} {xs : List Val} {i : Int} {v : Val} (r : RepVs K mg m H vs xs) (e : atI xs i = some v) : ∃ x, L2.atI vs i = some x ∧ RepV K mg m H x v := by
  unfold L2.atI at e ⊢
  rw [r.length]
  cases h : ixN xs.length i with
  | none => rw [h] at e; cases e
  | some j => rw [h] at e; exact r.get e
theorem od_ix : OpD K mg (rIx K) ixV := by
  intro m H st x y a b Q E t rx ry h
  unfold ixV at h
  split at h
  · cases rx with
    | d rx => cases rx; cases ry with
      | d ry =>
        cases ry
        split at h
        · rename_i c
          split at h
          · rename_i k e
            exact .inr (.inr ⟨_, _, k, rfl, rfl, c, e, h.ok_now t (.d (.str _))⟩)
          · exact h.elim
        · exact h.elim
  · rename_i i _
    cases ry with
    | d ry =>
      cases ry
      split at h
      · rename_i xs ea
        obtain ⟨p, vs, rfl, hq, r⟩ := valsOf_at t rx ea
        split at h
        · rename_i v e
          obtain ⟨z, hz, rz⟩ := r.atI e
          rcases hq with hq | hq
          · exact .inl ⟨p, vs, i, z, rfl, rfl, hq, hz, h.ok_now t rz⟩
          · exact .inr (.inl ⟨p, vs, i, z, rfl, rfl, hq, hz, h.ok_now t rz⟩)
        · exact h.elim
      · exact h.elim
  · exact h.elim
theorem ix_any : IxR X (rIx X.K) := ix_list.or (ix_tup.or ix_str)
theorem de_ix {a b : Expr} {pos : Pos} {fa fb : SE} (ha : DE X W a fa) (hb : DE X W b fb) (hs : PlainIx b := by exact fun _ _ => rfl) : DE X W (.Subscript a b pos) (op2 ixV fa fb) := (pe_ix ix_any ha hb hs).imp fun σ H Q h => tOp_of od_ix σ H Q h
/-! ### slices -/
def cutD (xs : List D) (lo hi : Option Int) : List D := (xs.drop (HT.sIx xs.length 0 lo)).take (HT.sIx xs.length xs.length hi - HT.sIx xs.length 0 lo)
abbrev SO := Env → Store → R (Option Int)
def noO : SO := fun _ st => .ok none st
def someO (f : SE) : SO := fun ρ st => bindR (f ρ st) fun a st => match a with
  | .d (.int i) => .ok (some i) st
  | _ => .err
def tO (K : PySem.W.Frag) (mg : Str → Option Value) (W : WX) (f : SO) : TO := fun σ H Q => ∃ m ρ st, RepEnv K mg m H σ ρ ∧ RepSt K mg m H st ∧ Post K mg m H (f ρ st) (fun _ _ x v => x = v) Q fun c d H' => W c d σ H'
abbrev DO (X : Cx) (W : WX) (e : Option Expr) (f : SO) : Prop := PO X e (tO X.K X.mg W f)
theorem do_none : DO X W none noO := po_none.imp fun σ H Q ⟨m, ρ, st, he, hs, hp⟩ => hp.ok_now hs rfl
theorem do_some {e : Expr} {f : SE} (h : DE X W e f) : DO X W (some e) (someO f) := (po_some h).imp fun σ H Q ⟨m, ρ, st, he, hs, hp⟩ => ⟨m, ρ, st, he, hs, (Post.bind hp).mono fun x H1 ⟨m1, a, st1, s1, t1, r1, p1⟩ => by
    cases r1 with
    | d r1 => cases r1 with
      | int i => exact ⟨i, rfl, p1.ok_now t1 rfl⟩
      | _ => exact p1.elim
    | _ => exact p1.elim⟩
def listOrScr (st : Store) : Val → Option (List D)
  | .scr xs => some xs
  | v => listOf st v
theorem listOrScr_at {v : Val} {x : V} {xs : List D} (t : RepSt K mg m H st) (r : RepV K mg m H x v) (e : listOrScr st v = some xs) : ∃ a vs, x = .ref a ∧ SqL K H a vs ∧ RepDs K mg m H vs xs := by
  cases v with
  | scr ys =>
    cases e
    cases r with
    | scr h r => exact ⟨_, _, rfl, h.sq, r⟩
  | d x =>
    obtain ⟨a, vs, e1, e2, r⟩ := listOf_at t r e
    exact ⟨a, vs, e1, .inl (.inl e2), r⟩
  | ref n =>
    obtain ⟨a, vs, e1, e2, r⟩ := listOf_at t r e
    exact ⟨a, vs, e1, .inl (.inl e2), r⟩
def slV (v : Val) (lo hi : Option Int) (st : Store) : R Val := match v with
  | .d (.str z) => if z.length ≤ sizeLine then .ok (.d (.str (cutS z lo hi))) st else .err
  | .d (.tup xs) => .ok (.d (.tup (cutD xs lo hi))) st
  | v => match listOrScr st v with
    | some xs => .ok (.d (.lst (cutD xs lo hi))) st
    | none => .err
def sliceE (f : SE) (lo hi : SO) : SE := fun ρ st => bindR (f ρ st) fun v st => bindR (lo ρ st) fun l st => bindR (hi ρ st) fun u st => slV v l u st
theorem RepDs.cut {vs : List V} {xs : List D} {lo hi : Option Int} (r : RepDs K mg m H vs xs) : RepDs K mg m H (cutV vs lo hi) (cutD xs lo hi) := by
  unfold cutV cutD
  rw [r.length]
  exact (r.drop _).take _
def rSlAll (K : PySem.W.Frag) : V → Option Int → Option Int → Hp → VK → Prop := fun x lo hi H Q => rSlS x lo hi H Q ∨ rSlA K x lo hi H Q ∨ rSlL K x lo hi H Q
theorem sl_all : SlR X (rSlAll X.K) := sl_str.or (sl_tupA.or sl_list)
theorem slV_of {v : Val} {x : V} {lo hi : Option Int} {Q : VK} {E : XK} (t : RepSt K mg m H st) (r : RepV K mg m H x v) (h : Post K mg m H (slV v lo hi st) (AV K mg) Q E) : rSlAll K x lo hi H Q := by
  unfold slV at h
  split at h
  · cases r with
    | d r =>
      cases r
      split at h
      · rename_i c; exact .inl ⟨_, rfl, c, h.ok_now t (.d (.str _))⟩
      · exact h.elim
  · rename_i xs
    cases r with
    | d r => cases r with
      | tup h1 r =>
        refine .inr (.inl ⟨_, _, rfl, h1.sq, fun e => ?_, fun _ => h.tupN t r.cut⟩)
        have e2 : cutD xs lo hi = xs := by
          unfold cutD
          rw [← r.length, e.1, e.2, List.drop_zero, Nat.sub_zero, r.length, List.take_length]
        rw [e2] at h
        exact h.ok_now t (.d (.tup h1 r))
  · split at h
    · rename_i xs ea
      obtain ⟨a, vs, rfl, hq, r⟩ := listOrScr_at t r ea
      exact .inr (.inr ⟨a, vs, rfl, hq, h.lstN t r.cut⟩)
    · exact h.elim
theorem de_slice {e : Expr} {lo hi : Option Expr} {pos p2 : Pos} {f : SE} {fl fh : SO} (he : DE X W e f) (hl : DO X W lo fl) (hh : DO X W hi fh) : DE X W (.Subscript e (.Slice lo hi none p2) pos) (sliceE f fl fh) :=
  (pe_slice sl_all he hl hh).imp fun σ H Q ⟨m, ρ, st, he, hs, hp⟩ => ⟨m, ρ, st, he, hs, (Post.bind hp).mono fun x H1 ⟨m1, a, st1, s1, t1, r1, p1⟩ => ⟨m1, ρ, st1, he.step s1, t1, (Post.bind p1).mono fun y H2 ⟨m2, b, st2, s2, t2, r2, p2⟩ => ⟨m2, ρ, st2, (he.step s1).step s2, t2, (Post.bind p2).mono fun z H3 ⟨m3, c, st3, s3, t3, r3, p3⟩ => by
    cases r2
    cases r3
    exact slV_of t3 ((r1.step s2).step s3) p3⟩⟩⟩
/-- xs[::-1] of a list -/
def revE (f : SE) : SE := fun ρ st => bindR (f ρ st) fun v st => match listOrScr st v with
  | some xs => .ok (.d (.lst xs.reverse)) st
  | none => .err
theorem de_rev {e : Expr} {k : Nat} {p1 p2 p3 pos : Pos} {f : SE} (he : DE X W e f) : DE X W (.Subscript e (.Slice none none (some (.UnaryOp .USub (.Constant (.int 1) k p1) p2)) p3) pos) (revE f) :=
  (pe_revL he).imp fun σ H Q ⟨m, ρ, st, he, hs, hp⟩ => ⟨m, ρ, st, he, hs, (Post.bind hp).mono fun x H1 ⟨m1, a, st1, s1, t1, r1, p1⟩ => by
    cases ea : listOrScr st1 a with
    | none => simp only [ea] at p1; exact p1.elim
    | some xs =>
      simp only [ea] at p1
      obtain ⟨a, vs, rfl, hq, r⟩ := listOrScr_at t1 r1 ea
      exact ⟨a, vs, rfl, hq, p1.lstN t1 r.reverse⟩⟩
end
end DL
end

section
set_option Elab.async false
set_option linter.all false
set_option autoImplicit false
set_option maxRecDepth 100000
/-! DL5: statements over data. -/
namespace DL
open PySem PySem.Spec PyProof.Rows L2
section
variable {X : Cx} {W : WX} {K : PySem.W.Frag} {mg : Str → Option Value} {m m' : Mp} {H H' : Hp} {st : Store} {σ σ' : L2.St} {ρ ρ' : Env}
theorem _root_.L2.PS.imp {s : Stmt} {t t' : TS} (h : PS X s t) (i : ∀ D σ H, t' D σ H → t D σ H) : PS X s t' := ⟨fun pins s σ H D I q => h.run pins s σ H D I (i D σ H q)⟩
theorem _root_.L2.PSs.imp {s : List Stmt} {t t' : TS} (h : PSs X s t) (i : ∀ D σ H, t' D σ H → t D σ H) : PSs X s t' := ⟨fun pins s σ H D I q => h.run pins s σ H D I (i D σ H q)⟩
theorem _root_.L2.PG.imp {e : Expr} {t t' : TG} (h : PG X e t) (i : ∀ v σ H Q, t' v σ H Q → t v σ H Q) : PG X e t' := ⟨fun pins s σ H v u Q I r q => h.run pins s σ H v u Q I r (i v σ H Q q)⟩
theorem _root_.L2.PGs.imp {e : List Expr} {t t' : TGs} (h : PGs X e t) (i : ∀ v σ H Q, t' v σ H Q → t v σ H Q) : PGs X e t' := ⟨fun pins s σ H v u Q I r q => h.run pins s σ H v u Q I r (i v σ H Q q)⟩
theorem _root_.L2.PI.imp {tg e : Expr} {t t' : TI} (h : PI X tg e t) (i : ∀ σ H R, t' σ H R → t σ H R) : PI X tg e t' := ⟨fun pins s σ H R I q => h.run pins s σ H R I (i σ H R q)⟩
theorem RepEnv.set (h : RepEnv K mg m H σ ρ) {i : Nat} {x : V} {v : Val} (r : RepV K mg m H x v) : RepEnv K mg m H (σ.set i (some x)) (ρ.set i (some v)) := ⟨by simp [h.len], fun j w e => by
  by_cases c : i = j
  · subst c
    have hi : i < ρ.length := by
      rcases Nat.lt_or_ge i ρ.length with q | q
      · exact q
      · rw [List.getElem?_eq_none_iff.mpr (by simpa using q)] at e; cases e
    rw [List.getElem?_set_self hi] at e
    cases e
    exact ⟨x, List.getElem?_set_self (h.len ▸ hi), r⟩
  · rw [List.getElem?_set_ne c] at e
    obtain ⟨y, e1, r1⟩ := h.val j w e
    exact ⟨y, by rw [List.getElem?_set_ne c]; exact e1, r1⟩⟩
theorem RepEnv.drop1 (h : RepEnv K mg m H σ ρ) {i : Nat} : RepEnv K mg m H σ (ρ.set i none) := ⟨by simp [h.len], fun j w e => by
  by_cases c : i = j
  · subst c
    rcases Nat.lt_or_ge i ρ.length with q | q
    · rw [List.getElem?_set_self q] at e; cases e
    · rw [List.getElem?_eq_none_iff.mpr (by simpa using q)] at e; cases e
  · rw [List.getElem?_set_ne c] at e
    exact h.val j w e⟩
/-- slots forgotten -/
def forget : List Nat → Env → Env
  | [], ρ => ρ
  | i :: is, ρ => forget is (ρ.set i none)
theorem RepEnv.forget : ∀ (is : List Nat) {ρ : Env}, RepEnv K mg m H σ ρ → RepEnv K mg m H σ (forget is ρ)
  | [], _, h => h
  | _ :: is, _, h => RepEnv.forget is h.drop1
def PostS (K : PySem.W.Frag) (mg : Str → Option Value) (m : Mp) (H : Hp) (r : RS) (D : Ends) (W : WX) : Prop := match r with
  | .nx ρ st => ∀ m' H' σ', Step m H m' H' → RepSt K mg m' H' st → RepEnv K mg m' H' σ' ρ → D.nx σ' H'
  | .brk ρ st => ∀ m' H' σ', Step m H m' H' → RepSt K mg m' H' st → RepEnv K mg m' H' σ' ρ → D.bk σ' H'
  | .cnt ρ st => ∀ m' H' σ', Step m H m' H' → RepSt K mg m' H' st → RepEnv K mg m' H' σ' ρ → D.ct σ' H'
  | .ret v st => ∀ m' H' x, Step m H m' H' → RepSt K mg m' H' st → RepV K mg m' H' x v → D.rt x H'
  | .exc ρ c ns vs st => ∀ m' H' σ' cls d, Step m H m' H' → RepSt K mg m' H' st → RepEnv K mg m' H' σ' ρ → ExcAt K mg m' H' cls d c ns vs → W cls d σ' H'
  | .err => False
theorem PostS.step {r : RS} {D : Ends} (s : Step m H m' H') (h : PostS K mg m H r D W) : PostS K mg m' H' r D W := by
  cases r with
  | nx ρ st => exact fun m2 H2 x s2 => h m2 H2 x (s.trans s2)
  | brk ρ st => exact fun m2 H2 x s2 => h m2 H2 x (s.trans s2)
  | cnt ρ st => exact fun m2 H2 x s2 => h m2 H2 x (s.trans s2)
  | ret v st => exact fun m2 H2 x s2 => h m2 H2 x (s.trans s2)
  | exc ρ c ns vs st => exact fun m2 H2 x c d s2 => h m2 H2 x c d (s.trans s2)
  | err => exact h
theorem PostS.bind {α β : Type} {r : R α} {k : α → Store → RS} {A : Mp → Hp → β → α → Prop} {D : Ends} (he : RepEnv K mg m H σ ρ) (h : PostS K mg m H (bindS ρ r k) D W) :
    Post K mg m H r A (fun x H1 => ∃ m1 a st1, Step m H m1 H1 ∧ RepSt K mg m1 H1 st1 ∧ A m1 H1 x a ∧ PostS K mg m1 H1 (k a st1) D W) (fun c d H' => W c d σ H') := by
  cases r with
  | ok a st => exact fun m1 H1 x s1 t1 a1 => ⟨m1, a, st, s1, t1, a1, PostS.step s1 h⟩
  | exc c ns vs st => exact fun m' H' cls d s t e => h m' H' σ cls d s t (he.step s) e
  | err => exact h
/-- other ends -/
def seqR (r : RS) (k : Env → Store → RS) : RS := match r with
  | .nx ρ st => k ρ st
  | r => r
theorem PostS.seq {r : RS} {k : Env → Store → RS} {D : Ends} (h : PostS K mg m H (seqR r k) D W) :
    PostS K mg m H r { D with nx := fun σ' H' => ∃ m' ρ' st', Step m H m' H' ∧ RepSt K mg m' H' st' ∧ RepEnv K mg m' H' σ' ρ' ∧ PostS K mg m' H' (k ρ' st') D W } W := by
  cases r with
  | nx ρ st => exact fun m2 H2 x s2 t2 e2 => ⟨m2, ρ, st, s2, t2, e2, PostS.step s2 h⟩
  | brk ρ st => exact h
  | cnt ρ st => exact h
  | ret v st => exact h
  | exc ρ c ns vs st => exact h
  | err => exact h
def tS (K : PySem.W.Frag) (mg : Str → Option Value) (W : WX) (g : SS) : TS := fun D σ H => ∃ m ρ st, RepEnv K mg m H σ ρ ∧ RepSt K mg m H st ∧ PostS K mg m H (g ρ st) D W
abbrev DS (X : Cx) (W : WX) (s : Stmt) (g : SS) : Prop := PS X s (tS X.K X.mg W g)
abbrev DSs (X : Cx) (W : WX) (s : List Stmt) (g : SS) : Prop := PSs X s (tS X.K X.mg W g)
/-! ### blocks -/
def nxS : SS := fun ρ st => .nx ρ st
def seqS (f g : SS) : SS := fun ρ st => seqR (f ρ st) g
def brkS : SS := fun ρ st => .brk ρ st
def cntS : SS := fun ρ st => .cnt ρ st
def errS : SS := fun _ _ => .err
theorem PostS.nx_now {D : Ends} (h : PostS K mg m H (.nx ρ st) D W) (t : RepSt K mg m H st) (r : RepEnv K mg m H σ ρ) : D.nx σ H := h m H σ (Step.refl _ _) t r
theorem dss_nil : DSs X W [] nxS := pss_nil.imp fun D σ H ⟨m, ρ, st, he, hs, hp⟩ => hp.nx_now hs he
theorem dss_cons {s : Stmt} {r : List Stmt} {f g : SS} (h1 : DS X W s f) (h2 : DSs X W r g) : DSs X W (s :: r) (seqS f g) := (pss_cons h1 h2).imp fun D σ H ⟨m, ρ, st, he, hs, hp⟩ => by
  refine ⟨m, ρ, st, he, hs, ?_⟩
  have q := PostS.seq hp
  revert q
  cases f ρ st with
  | nx ρ st =>
    intro q m2 H2 σ2 s2 t2 e2
    obtain ⟨m', ρ', st', _, a, b, c⟩ := q m2 H2 σ2 s2 t2 e2
    exact ⟨m', ρ', st', b, a, c⟩
  | brk ρ st => exact fun q => q
  | cnt ρ st => exact fun q => q
  | ret v st => exact fun q => q
  | exc ρ c ns vs st => exact fun q => q
  | err => exact fun q => q
theorem dss_one {s : Stmt} {f : SS} (h1 : DS X W s f) : DSs X W [s] f := pss_one h1
theorem ds_break {pos : Pos} : DS X W (.Break pos) brkS := ps_break.imp fun D σ H ⟨m, ρ, st, he, hs, hp⟩ => hp m H σ (Step.refl _ _) hs he
theorem ds_continue {pos : Pos} : DS X W (.Continue pos) cntS := ps_continue.imp fun D σ H ⟨m, ρ, st, he, hs, hp⟩ => hp m H σ (Step.refl _ _) hs he
theorem ds_pass {pos : Pos} : DS X W (.Pass pos) nxS := ps_pass.imp fun D σ H ⟨m, ρ, st, he, hs, hp⟩ => hp.nx_now hs he
/-- what is never come to -/
theorem ds_never {s : Stmt} : DS X W s errS := (ps_never (st := s)).imp fun D σ H ⟨m, ρ, st, he, hs, hp⟩ => hp.elim
theorem dss_never {s : List Stmt} : DSs X W s errS := (pss_never (sts := s)).imp fun D σ H ⟨m, ρ, st, he, hs, hp⟩ => hp.elim
/-! ### what happens in the proof alone -/
def Ghost (f : SS) : Prop := ∀ ρ st, f ρ st = .err ∨ ∃ ρ' st', f ρ st = .nx ρ' st' ∧ ∀ K mg m H σ, RepEnv K mg m H σ ρ → RepSt K mg m H st → ∃ m', Step m H m' H ∧ RepEnv K mg m' H σ ρ' ∧ RepSt K mg m' H st'
theorem tS_ghost {f g : SS} (hf : Ghost f) (D : Ends) (σ : L2.St) (H : Hp) (h : tS K mg W (seqS f g) D σ H) : tS K mg W g D σ H := by
  obtain ⟨m, ρ, st, he, hs, hp⟩ := h
  rcases hf ρ st with e | ⟨ρ', st', e, q⟩
  · unfold seqS at hp
    rw [e] at hp
    exact hp.elim
  · unfold seqS at hp
    rw [e] at hp
    obtain ⟨m', s', he', hs'⟩ := q K mg m H σ he hs
    exact ⟨m', ρ', st', he', hs', PostS.step s' hp⟩
theorem dss_ghost {s : List Stmt} {f g : SS} (hf : Ghost f) (h : DSs X W s g) : DSs X W s (seqS f g) := h.imp fun D σ H q => tS_ghost hf D σ H q
def fgS (is : List Nat) : SS := fun ρ st => .nx (forget is ρ) st
theorem ghost_fg (is : List Nat) : Ghost (fgS is) := fun ρ st => .inr ⟨_, _, rfl, fun K mg m H σ he hs => ⟨m, Step.refl _ _, he.forget is, hs⟩⟩
/-- the list at slot i is data from now on -/
def frzS (i : Nat) : SS := fun ρ st => match ρ[i]? with
  | some (some (.ref n)) => match st[n]? with
    | some (some (.lst xs)) => match asDs xs with
      | some ds => .nx (ρ.set i (some (.d (.lst ds)))) (st.set n none)
      | none => .err
    | _ => .err
  | some (some (.d _)) => .nx ρ st
  | _ => .err
theorem frz_rep {n : Nat} {xs : List Val} {ds : List D} {x : V} (hs : RepSt K mg m H st) (hn : st[n]? = some (some (.lst xs))) (hd : asDs xs = some ds) (r : RepV K mg m H x (.ref n)) : RepV K mg (m.kill n) H x (.d (.lst ds)) := by
  obtain ⟨a, vs, e1, e2, r1, _⟩ := hs.at hn
  cases r with
  | ref hl hr =>
    rw [hr a e1]
    refine .d (.lst e2 ?_ ((r1.ds hd).step Step.kill))
    have hl' : n < m.c.length := hl
    refine Mp.not_has (fun z => ?_) (hs.dis a (List.mem_of_getElem? e1))
    obtain ⟨j, hj⟩ := List.mem_iff_getElem?.mp z
    have hj' := kill_at hj
    have : j = n := hs.inj j n a hj' e1
    subst this
    have hj : (m.c.set j none)[j]? = _ := hj
    rw [List.getElem?_set_self hl'] at hj
    cases hj
theorem ghost_frz (i : Nat) : Ghost (frzS i) := fun ρ st => by
  unfold frzS
  split
  · rename_i n hi
    split
    · rename_i xs hn
      split
      · rename_i ds hd
        refine .inr ⟨_, _, rfl, fun K mg m H σ he hs => ⟨m.kill n, Step.kill, ?_, hs.kill n⟩⟩
        obtain ⟨x, hx, rx⟩ := he.val i _ hi
        have e1 := (he.step (Step.kill (n := n))).set (i := i) (frz_rep hs hn hd rx)
        have : σ.set i (some x) = σ := by
          apply List.ext_getElem?
          intro j
          by_cases c : i = j
          · subst c
            rw [List.getElem?_set_self (List.getElem?_eq_some_iff.mp hx).1, hx]
          · rw [List.getElem?_set_ne c]
        rw [this] at e1
        exact e1
      · exact .inl rfl
    · exact .inl rfl
  · exact .inr ⟨_, _, rfl, fun K mg m H σ he hs => ⟨m, Step.refl _ _, he, hs⟩⟩
  · exact .inl rfl
/-! ### return, expressions, if -/
def retS (f : SE) : SS := fun ρ st => bindS ρ (f ρ st) fun v st => .ret v st
def retN : SS := fun _ st => .ret (.d .non) st
def exprS (f : SE) : SS := fun ρ st => bindS ρ (f ρ st) fun _ st => .nx ρ st
def ifS (c : ST) (f g : SS) : SS := fun ρ st => bindS ρ (c ρ st) fun b st => if b then f ρ st else g ρ st
theorem ds_ret {e : Expr} {pos : Pos} {f : SE} (h : DE X W e f) : DS X W (.Return (some e) pos) (retS f) := (ps_ret h).imp fun D σ H ⟨m, ρ, st, he, hs, hp⟩ => ⟨m, ρ, st, he, hs, (PostS.bind he hp).mono fun x H1 ⟨m1, a, st1, s1, t1, r1, p1⟩ => p1 m1 H1 x (Step.refl _ _) t1 r1⟩
theorem ds_retN {pos : Pos} : DS X W (.Return none pos) retN := ps_retN.imp fun D σ H ⟨m, ρ, st, he, hs, hp⟩ => hp m H .non (Step.refl _ _) hs (.d .non)
theorem ds_expr {e : Expr} {pos : Pos} {f : SE} (h : DE X W e f) (hs : swapsWith e none pos.line X.env = pure false := by rfl) : DS X W (.Expr e pos) (exprS f) := (ps_expr h hs).imp fun D σ H ⟨m, ρ, st, he, hs, hp⟩ => ⟨m, ρ, st, he, hs, (PostS.bind he hp).mono fun x H1 ⟨m1, a, st1, s1, t1, r1, p1⟩ => p1.nx_now t1 (he.step s1)⟩
theorem ds_if {c : Expr} {a b : List Stmt} {pos : Pos} {fc : ST} {f g : SS} (hc : DT X W c fc) (ha : DSs X W a f) (hb : DSs X W b g) : DS X W (.If c a b pos) (ifS fc f g) := (ps_if hc ha hb).imp fun D σ H ⟨m, ρ, st, he, hs, hp⟩ => ⟨m, ρ, st, he, hs, (PostS.bind he hp).mono fun x H1 ⟨m1, a, st1, s1, t1, r1, p1⟩ => by
  cases r1
  cases x with
  | true => exact ⟨m1, ρ, st1, he.step s1, t1, p1⟩
  | false => exact ⟨m1, ρ, st1, he.step s1, t1, p1⟩⟩
/-! ### targets -/
abbrev SG := Val → Env → Option Env
def nameG (i : Nat) : SG := fun v ρ => some (ρ.set i (some v))
abbrev SGs := List D → Env → Option Env
def nilG : SGs := fun vs ρ => match vs with
  | [] => some ρ
  | _ => none
def consG (g : SG) (r : SGs) : SGs := fun vs ρ => match vs with
  | [] => none
  | v :: vs => (g (.d v) ρ).bind fun ρ => r vs ρ
def tupG (r : SGs) : SG := fun v ρ => match v with
  | .d (.tup xs) => r xs ρ
  | _ => none
theorem wipe_get (σ : L2.St) : ∀ (vs : List Nat) (j : Nat), (wipe σ vs)[j]? = if j ∈ vs ∧ j < σ.length then some none else σ[j]?
  | [], j => by simp [wipe]
  | v :: vs, j => by
    have ih := wipe_get σ vs j
    unfold wipe
    by_cases e : v = j
    · subst e
      by_cases h : v < σ.length
      · rw [List.getElem?_set_self (by rw [wipe_length]; exact h), if_pos ⟨List.mem_cons_self, h⟩]
      · rw [if_neg (fun z => h z.2), List.getElem?_eq_none_iff.mpr (by rw [List.length_set, wipe_length]; omega), List.getElem?_eq_none_iff.mpr (by omega)]
    · rw [List.getElem?_set_ne e, ih]
      by_cases c : j ∈ vs ∧ j < σ.length
      · rw [if_pos c, if_pos ⟨List.mem_cons_of_mem _ c.1, c.2⟩]
      · rw [if_neg c, if_neg fun z => c ⟨(List.mem_cons.mp z.1).elim (fun q => absurd q.symm e) id, z.2⟩]
/-- nothing but the slots 'is' is unlike -/
def Off (is : List Nat) (σ σ' : L2.St) : Prop := ∀ vs : List Nat, (∀ i ∈ is, i ∈ vs) → wipe σ' vs = wipe σ vs
theorem Off.refl (is : List Nat) (σ : L2.St) : Off is σ σ := fun _ _ => rfl
theorem Off.set {i : Nat} {σ : L2.St} {x : Option V} : Off [i] σ (σ.set i x) := fun vs h => by
  have hi := h i (List.mem_singleton.mpr rfl)
  apply List.ext_getElem?
  intro j
  rw [wipe_get, wipe_get, List.length_set]
  by_cases e : i = j
  · subst e
    by_cases c : i < σ.length
    · rw [if_pos ⟨hi, c⟩, if_pos ⟨hi, c⟩]
    · rw [List.set_eq_of_length_le (by omega)]
  · rw [List.getElem?_set_ne e]
theorem Off.trans {is js : List Nat} {σ σ1 σ2 : L2.St} (a : Off is σ σ1) (b : Off js σ1 σ2) : Off (is ++ js) σ σ2 := fun vs h => (b vs fun i hi => h i (List.mem_append_right _ hi)).trans (a vs fun i hi => h i (List.mem_append_left _ hi))
def tG (K : PySem.W.Frag) (mg : Str → Option Value) (g : SG) (is : List Nat) : TG := fun v σ H Q => ∃ m a ρ ρ', RepEnv K mg m H σ ρ ∧ RepV K mg m H v a ∧ g a ρ = some ρ' ∧ ∀ σ', RepEnv K mg m H σ' ρ' → Off is σ σ' → Q σ' H
def tGs (K : PySem.W.Frag) (mg : Str → Option Value) (g : SGs) (is : List Nat) : TGs := fun vs σ H Q => ∃ m as ρ ρ', RepEnv K mg m H σ ρ ∧ RepDs K mg m H vs as ∧ g as ρ = some ρ' ∧ ∀ σ', RepEnv K mg m H σ' ρ' → Off is σ σ' → Q σ' H
abbrev DG (X : Cx) (e : Expr) (g : SG) (is : List Nat) : Prop := PG X e (tG X.K X.mg g is)
abbrev DGs (X : Cx) (e : List Expr) (g : SGs) (is : List Nat) : Prop := PGs X e (tGs X.K X.mg g is)
theorem dg_name {i : Nat} {x : Str} {pos : Pos} (hN : X.N.Nodup) (hi : X.N[i]? = some x) (hx : Loc X.env.scope x) (hf : X.fn x = true ∨ X.env.scope.names.lookup x = some .local := by first | exact .inl rfl | exact .inr rfl | assumption) : DG X (.Name x pos) (nameG i) [i] := (pg_name hN hi hx hf).imp fun v σ H Q ⟨m, a, ρ, ρ', he, r, e, q⟩ => by
  cases e
  exact q _ (he.set r) Off.set
theorem dgs_nil : DGs X [] nilG [] := pgs_nil.imp fun v σ H Q ⟨m, a, ρ, ρ', he, r, e, q⟩ => by
  cases r with
  | nil => cases e; exact ⟨rfl, q _ he (Off.refl _ _)⟩
  | cons => cases e
theorem dgs_cons {e : Expr} {es : List Expr} {g : SG} {r : SGs} {is js : List Nat} (h1 : DG X e g is) (h2 : DGs X es r js) (hs : (assignEach (e :: es) X.env).map (·.2) = assign e X.env :: (assignEach es X.env).map (·.2) := by rfl) : DGs X (e :: es) (consG g r) (is ++ js) := (pgs_cons h1 h2 hs).imp fun vs σ H Q ⟨m, a, ρ, ρ', he, rr, e, q⟩ => by
  cases rr with
  | nil => cases e
  | cons r1 rr =>
    simp only [consG] at e
    obtain ⟨ρ1, e1, e2⟩ := Option.bind_eq_some_iff.mp e
    exact ⟨_, _, rfl, m, _, ρ, ρ1, he, .d r1, e1, fun σ' he' o1 => ⟨m, _, ρ1, ρ', he', rr, e2, fun σ2 he2 o2 => q σ2 he2 (o1.trans o2)⟩⟩
theorem dg_tup {es : List Expr} {k : Nat} {pos : Pos} {r : SGs} {is : List Nat} {n : Nat} (hc : X.calm = true) (h : DGs X es r is) (hl : ∀ as ρ ρ', r as ρ = some ρ' → as.length = n) (hn : (assignEach es X.env).length = n := by rfl) (hst : (assignEach es X.env).findIdx? (·.1) = none := by rfl) : DG X (.Tuple es k pos) (tupG r) is := (pg_tup hc h hn hst).imp fun v σ H Q ⟨m, a, ρ, ρ', he, rr, e, q⟩ => by
  unfold tupG at e
  split at e
  · cases rr with
    | d rr => cases rr with
      | tup h1 r1 => exact ⟨_, _, rfl, h1.sq, by rw [r1.length]; exact hl _ _ _ e, m, _, ρ, ρ', he, r1, e, q⟩
  · cases e
theorem len_nilG : ∀ as ρ ρ', nilG as ρ = some ρ' → as.length = 0 := fun as ρ ρ' e => by
  cases as with
  | nil => rfl
  | cons => cases e
theorem len_consG {g : SG} {r : SGs} {n : Nat} (h : ∀ as ρ ρ', r as ρ = some ρ' → as.length = n) : ∀ as ρ ρ', consG g r as ρ = some ρ' → as.length = n + 1 := fun as ρ ρ' e => by
  cases as with
  | nil => cases e
  | cons a as =>
    simp only [consG] at e
    obtain ⟨ρ1, e1, e2⟩ := Option.bind_eq_some_iff.mp e
    exact congrArg (· + 1) (h _ _ _ e2)
/-! ### assignments -/
def setS (i : Nat) (f : SE) : SS := fun ρ st => bindS ρ (f ρ st) fun v st => .nx (ρ.set i (some v)) st
theorem ds_set {i : Nat} {x : Str} {e : Expr} {pos pos' : Pos} {f : SE} (hN : X.N.Nodup) (hi : X.N[i]? = some x) (hx : Loc X.env.scope x) (he : DE X W e f) (hs : swapsWith e (some (.Name x pos')) pos.line X.env = pure false := by rfl) (hf : X.fn x = true ∨ X.env.scope.names.lookup x = some .local := by first | exact .inl rfl | exact .inr rfl | assumption) :
    DS X W (.Assign [.Name x pos'] e pos) (setS i f) := (ps_set hN hi hx he hs hf).imp fun D σ H ⟨m, ρ, st, he, hs, hp⟩ => ⟨m, ρ, st, he, hs, (PostS.bind he hp).mono fun x H1 ⟨m1, a, st1, s1, t1, r1, p1⟩ => p1.nx_now t1 ((he.step s1).set r1)⟩
def asgS (f : SE) (g : SG) : SS := fun ρ st => bindS ρ (f ρ st) fun v st => match g v ρ with
  | some ρ' => .nx ρ' st
  | none => .err
theorem ds_asg {tg e : Expr} {pos : Pos} {f : SE} {g : SG} {is : List Nat} (he : DE X W e f) (hg : DG X tg g is) (hs : swapsWithSole [tg] e pos.line X.env = pure false := by rfl) (hw : swappedStores [tg] e X.env = pure none := by rfl)
    (h1 : (assignEach [tg] X.env).map (·.2) = [assign tg X.env] := by rfl) : DS X W (.Assign [tg] e pos) (asgS f g) := (ps_asg he hg hs hw h1).imp fun D σ H ⟨m, ρ, st, he, hs, hp⟩ => ⟨m, ρ, st, he, hs, (PostS.bind he hp).mono fun x H1 ⟨m1, a, st1, s1, t1, r1, p1⟩ => by
    cases e : g a ρ with
    | none => simp only [e] at p1; exact p1.elim
    | some ρ' =>
      simp only [e] at p1
      exact ⟨m1, a, ρ, ρ', he.step s1, r1, e, fun σ' he' _ => p1.nx_now t1 he'⟩⟩
/-- a, b = x, y -/
def parS (i j : Nat) (f : SA) : SS := fun ρ st => bindS ρ (f ρ st) fun vs st => match vs with
  | [v, w] => .nx ((ρ.set i (some v)).set j (some w)) st
  | _ => .err
theorem ds_par {i j : Nat} {x y : Str} {a b : Expr} {f : SA} {px py pt pos : Pos} {kt k2 pt2} (hc : X.calm = true) (hN : X.N.Nodup) (hi : X.N[i]? = some x) (hj : X.N[j]? = some y) (hij : i ≠ j)
    (hx : X.env.scope.names.lookup x = some .local) (hy : X.env.scope.names.lookup y = some .local) (ha : DA X W [a, b] f)
    (hw : swappedStores [.Tuple [.Name x px, .Name y py] kt pt] (.Tuple [a, b] k2 pt2) X.env = pure (some [x, y]))
    (hs : swapsWithSole [.Tuple [.Name x px, .Name y py] kt pt] (.Tuple [a, b] k2 pt2) pos.line X.env = pure false := by rfl) :
    DS X W (.Assign [.Tuple [.Name x px, .Name y py] kt pt] (.Tuple [a, b] k2 pt2) pos) (parS i j f) := (ps_par hc hN hi hj hij hx hy ha hw hs).imp fun D σ H ⟨m, ρ, st, he, hs, hp⟩ => ⟨m, ρ, st, he, hs, (PostS.bind he hp).mono fun vs H1 ⟨m1, as, st1, s1, t1, r1, p1⟩ => by
    cases r1 with
    | nil => exact p1.elim
    | cons r1 r2 => cases r2 with
      | nil => exact p1.elim
      | cons r2 r3 => cases r3 with
        | nil => exact ⟨_, _, rfl, p1.nx_now t1 (((he.step s1).set r1).set r2)⟩
        | cons => exact p1.elim⟩
/-- o[k] = e, o a cell -/
def putIx (o i v : Val) (ρ : Env) (st : Store) : RS := match o, i with
  | .ref n, .d (.int k) => match st[n]? with
    | some (some (.lst xs)) => match ixN xs.length k with
      | some j => if refsBelow n [v] = true then .nx ρ (st.set n (some (.lst (xs.set j v)))) else .err
      | none => .err
    | _ => .err
  | _, _ => .err
def setIxS (fo fi f : SE) : SS := fun ρ st => bindS ρ (f ρ st) fun v st => bindS ρ (fo ρ st) fun o st => bindS ρ (fi ρ st) fun i st => putIx o i v ρ st
theorem refsBelow_set {n : Nat} {xs : List Val} {j : Nat} {v : Val} (hw : ∀ k, Val.ref k ∈ xs → k < n) (h : refsBelow n [v] = true) : ∀ k, Val.ref k ∈ xs.set j v → k < n := fun k hk => by
  rcases List.mem_or_eq_of_mem_set hk with z | z
  · exact hw k z
  · exact refsBelow_mem h k (by rw [z]; exact List.mem_singleton.mpr rfl)
theorem ds_setIx {o i e : Expr} {pos ps : Pos} {fo fi f : SE} (he : DE X W e f) (ho : DE X W o fo) (hi : DE X W i fi)
    (ha : ∀ v, assign (.Subscript o i ps) X.env v = (do
      let ov ← holding [v] (eval o X.env)
      let iv ← holding [v, ov] (eval i X.env)
      standAt ps
      holding [v, ov, iv] (setItem ov iv v)
      release [v, ov, iv] []) := by intro _; rfl)
    (hs : swapsWithSole [.Subscript o i ps] e pos.line X.env = pure false := by rfl) (hw : swappedStores [.Subscript o i ps] e X.env = pure none := by rfl) (h1 : (assignEach [.Subscript o i ps] X.env).map (·.2) = [assign (.Subscript o i ps) X.env] := by rfl) :
    DS X W (.Assign [.Subscript o i ps] e pos) (setIxS fo fi f) := by
  refine (ps_asg he (pg_sub (pos := ps) ho hi set_list ha) hs hw h1).imp fun D σ H ⟨m, ρ, st, he, hs, hp⟩ => ⟨m, ρ, st, he, hs, (PostS.bind he hp).mono fun x H1 ⟨m1, a, st1, s1, t1, r1, p1⟩ => ⟨m1, ρ, st1, he.step s1, t1, (PostS.bind (he.step s1) p1).mono fun y H2 ⟨m2, b, st2, s2, t2, r2, p2⟩ => ⟨m2, ρ, st2, (he.step s1).step s2, t2, (PostS.bind ((he.step s1).step s2) p2).mono fun z H3 ⟨m3, c, st3, s3, t3, r3, p3⟩ => ?_⟩⟩⟩
  unfold putIx at p3
  split at p3
  · split at p3
    · rename_i xs hn
      split at p3
      · rename_i j hj
        split at p3
        · rename_i hr
          obtain ⟨a', vs, e1, e2, rv, hw⟩ := t3.at hn
          have ro := r2.step s3
          have rx := (r1.step s2).step s3
          cases r3 with
          | d r3 =>
            cases r3
            cases ro with
            | ref hl hr' =>
              rw [hr' a' e1]
              refine ⟨a', vs, _, j, rfl, rfl, e2, by rw [rv.length]; exact hj, ?_⟩
              exact p3 m3 _ _ (Step.mut e1) (t3.put e1 (rv.set j rx) (refsBelow_set hw hr)) ((((he.step s1).step s2).step s3).step (Step.mut e1))
        · exact p3.elim
      · exact p3.elim
    · exact p3.elim
  · exact p3.elim
end
end DL
end

section
set_option Elab.async false
set_option linter.all false
set_option autoImplicit false
set_option maxRecDepth 100000
/-! DL6: loops and comprehensions over data. -/
namespace DL
open PySem PySem.Spec PyProof.Rows L2
section
variable {X : Cx} {W : WX} {K : PySem.W.Frag} {mg : Str → Option Value} {m m' : Mp} {H H' : Hp} {st : Store} {σ σ' : L2.St} {ρ ρ' : Env}
/-! ### while -/
def loopR (r : RS) (fg : List Nat) (k : Env → Store → RS) : RS := match r with
  | .nx ρ st => k (forget fg ρ) st
  | .cnt ρ st => k (forget fg ρ) st
  | .brk ρ st => .nx (forget fg ρ) st
  | .ret v st => .ret v st
  | .exc ρ c ns vs st => .exc ρ c ns vs st
  | .err => .err
/-- at most n turns -/
def whileL (c : ST) (b : SS) (fg : List Nat) : Nat → SS
  | 0 => fun _ _ => .err
  | n + 1 => fun ρ st => bindS ρ (c ρ st) fun k st => if k then loopR (b ρ st) fg (whileL c b fg n) else .nx ρ st
def whileS (n : Env → Store → Nat) (c : ST) (b : SS) (fg : List Nat) : SS := fun ρ st => whileL c b fg (n ρ st) ρ st
theorem PostS.loop {r : RS} {fg : List Nat} {k : Env → Store → RS} {D : Ends} (h : PostS K mg m H (loopR r fg k) D W) :
    PostS K mg m H r { D with nx := fun σ' H' => ∃ m' ρ' st', Step m H m' H' ∧ RepSt K mg m' H' st' ∧ RepEnv K mg m' H' σ' ρ' ∧ PostS K mg m' H' (k ρ' st') D W, ct := fun σ' H' => ∃ m' ρ' st', Step m H m' H' ∧ RepSt K mg m' H' st' ∧ RepEnv K mg m' H' σ' ρ' ∧ PostS K mg m' H' (k ρ' st') D W, bk := D.nx } W := by
  cases r with
  | nx ρ st => exact fun m2 H2 x s2 t2 e2 => ⟨m2, _, st, s2, t2, e2.forget fg, PostS.step s2 h⟩
  | brk ρ st => exact fun m2 H2 x s2 t2 e2 => h m2 H2 x s2 t2 (e2.forget fg)
  | cnt ρ st => exact fun m2 H2 x s2 t2 e2 => ⟨m2, _, st, s2, t2, e2.forget fg, PostS.step s2 h⟩
  | ret v st => exact h
  | exc ρ c ns vs st => exact h
  | err => exact h
/-- the ends weakened -/
theorem PostS.ends {r : RS} {D D' : Ends} (h : PostS K mg m H r D W) (h1 : ∀ σ H, D.nx σ H → D'.nx σ H) (h2 : ∀ v H, D.rt v H → D'.rt v H) (h3 : ∀ σ H, D.bk σ H → D'.bk σ H) (h4 : ∀ σ H, D.ct σ H → D'.ct σ H) : PostS K mg m H r D' W := by
  cases r with
  | nx ρ st => exact fun m2 H2 x s2 t2 e2 => h1 _ _ (h m2 H2 x s2 t2 e2)
  | brk ρ st => exact fun m2 H2 x s2 t2 e2 => h3 _ _ (h m2 H2 x s2 t2 e2)
  | cnt ρ st => exact fun m2 H2 x s2 t2 e2 => h4 _ _ (h m2 H2 x s2 t2 e2)
  | ret v st => exact fun m2 H2 x s2 t2 e2 => h2 _ _ (h m2 H2 x s2 t2 e2)
  | exc ρ c ns vs st => exact h
  | err => exact h
theorem ds_while {c : Expr} {body : List Stmt} {pos : Pos} {fc : ST} {b : SS} (n : Env → Store → Nat) (fg : List Nat) (hp : PassesOwn (model X.prog X.w) X.A X.env X.xe) (hc : DT X W c fc) (hb : DSs X W body b) : DS X W (.While c body [] pos) (whileS n fc b fg) :=
  (ps_while hp hc hb).imp fun D σ H ⟨m, ρ, st, he, hs, hp⟩ => by
    refine ⟨fun k σ2 H2 => ∃ m2 ρ2 st2, RepEnv X.K X.mg m2 H2 σ2 ρ2 ∧ RepSt X.K X.mg m2 H2 st2 ∧ PostS X.K X.mg m2 H2 (whileL fc b fg k ρ2 st2) D W, ⟨n ρ st, m, ρ, st, he, hs, hp⟩, fun k σ2 H2 ⟨m2, ρ2, st2, e2, t2, p2⟩ => ?_⟩
    cases k with
    | zero => exact p2.elim
    | succ k =>
      refine ⟨m2, ρ2, st2, e2, t2, (PostS.bind e2 p2).mono fun x H3 ⟨m3, a, st3, s3, t3, r3, p3⟩ => ?_⟩
      cases r3
      cases x with
      | false => exact p3.nx_now t3 (e2.step s3)
      | true =>
        refine ⟨fun σ' H' => ∃ m' ρ' st', RepEnv X.K X.mg m' H' σ' ρ' ∧ RepSt X.K X.mg m' H' st' ∧ PostS X.K X.mg m' H' (whileL fc b fg k ρ' st') D W, fun σ' H' q => ⟨k, Nat.lt_succ_self k, q⟩, m3, ρ2, st3, e2.step s3, t3, ?_⟩
        exact (PostS.loop p3).ends (fun _ _ ⟨m', ρ', st', _, a, b, c⟩ => ⟨m', ρ', st', b, a, c⟩) (fun _ _ h => h) (fun _ _ h => h) fun _ _ ⟨m', ρ', st', _, a, b, c⟩ => ⟨m', ρ', st', b, a, c⟩
/-! ### what is walked -/
structure Yields (K : PySem.W.Frag) (mg : Str → Option Value) (m : Mp) (H : Hp) (J : It) (xs : List Val) : Prop where
  go : ∀ m2 H2, Step m H m2 H2 → ∀ st2, RepSt K mg m2 H2 st2 → ∀ (i : Nat) (v : Val), xs[i]? = some v → J.go i H2 ∧ ∀ x H3, J.yld i H2 x H3 → Step m2 H2 m2 H3 ∧ RepSt K mg m2 H3 st2 ∧ RepV K mg m2 H3 x v
  stop : ∀ m2 H2, Step m H m2 H2 → ∀ st2, RepSt K mg m2 H2 st2 → J.stop xs.length H2
theorem Yields.step {J : It} {xs : List Val} (s : Step m H m' H') (y : Yields K mg m H J xs) : Yields K mg m' H' J xs := ⟨fun m2 H2 s2 => y.go m2 H2 (s.trans s2), fun m2 H2 s2 => y.stop m2 H2 (s.trans s2)⟩
abbrev SI := Env → Store → R (List Val)
def tI (K : PySem.W.Frag) (mg : Str → Option Value) (W : WX) (f : SI) : TI := fun σ H R => ∃ m ρ st, RepEnv K mg m H σ ρ ∧ RepSt K mg m H st ∧ Post K mg m H (f ρ st) (Yields K mg) R fun c d H' => W c d σ H'
abbrev DI (X : Cx) (W : WX) (tg e : Expr) (f : SI) : Prop := PI X tg e (tI X.K X.mg W f)
/-- a list, a tuple, the script, a text -/
def itemsOf : Val → Option (List Val)
  | .d (.lst xs) => some (xs.map .d)
  | .d (.tup xs) => some (xs.map .d)
  | .scr xs => some (xs.map .d)
  | .d (.str z) => some (z.cps.toList.map fun c => .d (.str ⟨#[c]⟩))
  | _ => none
def seqI (f : SE) : SI := fun ρ st => bindR (f ρ st) fun v st => match itemsOf v with
  | some xs => .ok xs st
  | none => .err
def iAny (K : PySem.W.Frag) (tl : TE) : TI := fun σ H R => tl σ H fun x H1 => (∃ a, x = .ref a ∧ (∃ xs, SqL K H1 a xs) ∧ R (Itl K a) H1) ∨ (∃ a, x = .ref a ∧ (∃ xs, SqT K H1 a xs) ∧ R (Itt K a) H1) ∨ (∃ z, x = .str z ∧ R (Its z) H1)
theorem pi_any {tg l : Expr} {tl : TE} (hl : PE X l tl) : PI X tg l (iAny X.K tl) := by
  refine ⟨fun pins s σ H R I h => ?_⟩
  refine thn (hl.run pins s σ H _ I h) fun v s1 ⟨x, H1, I1, r1, q1⟩ => ?_
  rcases q1 with ⟨a, e, ⟨xs, hq⟩, q⟩ | ⟨a, e, ⟨xs, hq⟩, q⟩ | ⟨z, e, q⟩
  · subst e
    cases r1
    obtain ⟨its, rv, p, hz⟩ := I1.list hq
    refine wpAny_pyIter_list p.isList ?_
    refine ⟨s1.heap.objs.size, [s1.heap.objs.size], _, _, H1, rfl, I1.kept (t' := s1.toks) fun b o e => Heap.get?_push_of_some _ e, turn_list a _, ⟨_, Heap.get?_push_size _ rfl, rfl, rfl⟩, fun b hb => ?_, q⟩
    have e : b = s1.heap.objs.size := by simpa using hb
    subst e
    exact I1.fpOk (Nat.le_refl _) (I1.hok.fresh (Nat.le_refl _))
  · subst e
    cases r1
    obtain ⟨its, rv, p, hz⟩ := I1.tuple hq
    refine wpAny_pyIter_tuple (show s1.heap.IsTuple a its.toArray from p) ?_
    refine ⟨s1.heap.objs.size, [s1.heap.objs.size], _, _, H1, rfl, I1.kept (t' := s1.toks) fun b o e => Heap.get?_push_of_some _ e, turn_tuple a _, ⟨_, Heap.get?_push_size _ rfl, rfl, rfl⟩, fun b hb => ?_, q⟩
    have e : b = s1.heap.objs.size := by simpa using hb
    subst e
    exact I1.fpOk (Nat.le_refl _) (I1.hok.fresh (Nat.le_refl _))
  · subst e
    obtain ⟨t, rfl⟩ := r1
    cases ha : z.cps.all (· < 128)
    · exact wpAny_pyIter_wide ha (pi_one (tk := s1.toks) I1 _ (turn_str _ z t "str_iterator" (.inr rfl)) ⟨_, Heap.get?_push_size _ rfl, rfl, rfl⟩ q)
    · exact wpAny_pyIter_ascii ha (pi_one (tk := s1.toks) I1 _ (turn_str _ z t "str_ascii_iterator" (.inl rfl)) ⟨_, Heap.get?_push_size _ rfl, rfl, rfl⟩ q)
theorem lst_len {H : Hp} {a : Addr} {xs ys : List V} (h1 : H a = some (.lst xs)) (h2 : Rd H a (.lst ys)) : xs = ys := by
  rcases h2 with h2 | ⟨o, h2⟩
  · rw [h1] at h2; cases h2; rfl
  · rw [h1] at h2; cases h2
/-- two readings of one list, through a state (any state of which the heap tells) -/
def OneL (K : PySem.W.Frag) (H : Hp) : Prop := ∀ (a : Addr) (xs ys : List V), SqL K H a xs → SqL K H a ys → xs = ys
def OneT (K : PySem.W.Frag) (H : Hp) : Prop := ∀ (a : Addr) (xs ys : List V), SqT K H a xs → SqT K H a ys → xs = ys
theorem ylds_list {a : Addr} {vs : List V} {xs : List D} (h : ∀ m2 H2, Step m H m2 H2 → SqL K H2 a vs) (r : RepDs K mg m H vs xs) : Yields K mg m H (Itl K a) (xs.map .d) := ⟨fun m2 H2 s2 st2 t2 i v hi => by
  rw [List.getElem?_map] at hi
  obtain ⟨d, hd, rfl⟩ := Option.map_eq_some_iff.mp hi
  obtain ⟨x, hx, rx⟩ := r.get hd
  refine ⟨⟨vs, x, h m2 H2 s2, hx⟩, fun y H3 ⟨e1, e2⟩ => ?_⟩
  subst e1
  have := e2 vs (h m2 H3 s2)
  rw [hx] at this
  cases this
  exact ⟨Step.refl _ _, t2, .d (rx.step s2)⟩, fun m2 H2 s2 st2 t2 => ⟨vs, h m2 H2 s2, by rw [List.length_map, r.length]; exact Nat.le_refl _⟩⟩
theorem ylds_tup {a : Addr} {vs : List V} {xs : List D} (h : ∀ m2 H2, Step m H m2 H2 → SqT K H2 a vs) (r : RepDs K mg m H vs xs) : Yields K mg m H (Itt K a) (xs.map .d) := ⟨fun m2 H2 s2 st2 t2 i v hi => by
  rw [List.getElem?_map] at hi
  obtain ⟨d, hd, rfl⟩ := Option.map_eq_some_iff.mp hi
  obtain ⟨x, hx, rx⟩ := r.get hd
  refine ⟨⟨vs, x, h m2 H2 s2, hx⟩, fun y H3 ⟨e1, e2⟩ => ?_⟩
  subst e1
  have := e2 vs (h m2 H3 s2)
  rw [hx] at this
  cases this
  exact ⟨Step.refl _ _, t2, .d (rx.step s2)⟩, fun m2 H2 s2 st2 t2 => ⟨vs, h m2 H2 s2, by rw [List.length_map, r.length]; exact Nat.le_refl _⟩⟩
theorem di_seq {tg l : Expr} {f : SE} (hl : DE X W l f) : DI X W tg l (seqI f) := (pi_any hl).imp fun σ H R ⟨m, ρ, st, he, hs, hp⟩ => ⟨m, ρ, st, he, hs, (Post.bind hp).mono fun x H1 ⟨m1, a, st1, s1, t1, r1, p1⟩ => by
    cases r1 with
    | d r1 => cases r1 with
      | lst h n r => exact .inl ⟨_, rfl, ⟨_, .inl (.inl h)⟩, p1.ok_now t1 (ylds_list (fun m2 H2 s2 => .inl (.inl (s2.data n h).1)) r)⟩
      | tup h r => exact .inr (.inl ⟨_, rfl, ⟨_, h.sq⟩, p1.ok_now t1 (ylds_tup (fun m2 H2 s2 => (TupAt.step s2 h).sq) r)⟩)
      | str z => exact .inr (.inr ⟨z, rfl, p1.ok_now t1 ⟨fun m2 H2 s2 st2 t2 i v hi => by
          rw [List.getElem?_map] at hi
          obtain ⟨c, hc, rfl⟩ := Option.map_eq_some_iff.mp hi
          have hc' : z.cps[i]? = some c := by rw [← hc]; simp
          refine ⟨?_, fun y H3 ⟨e1, c', e2, e3⟩ => ?_⟩
          · exact (Array.getElem?_eq_some_iff.mp hc').1
          · subst e1
            rw [hc'] at e2
            cases e2
            rw [e3]
            exact ⟨Step.refl _ _, t2, .d (.str _)⟩, fun m2 H2 s2 st2 t2 => by
          show z.cps.size ≤ _
          simp⟩⟩)
      | _ => exact p1.elim
    | scr h r => exact .inl ⟨_, rfl, ⟨_, h.sq⟩, p1.ok_now t1 (ylds_list (fun m2 H2 s2 => h.elim (fun ⟨o, z, n⟩ => .inl (.inr ⟨_, (s2.data n z).1⟩)) fun z => z H2) r)⟩
    | _ => exact p1.elim⟩
/-- range(n) -/
def rangeVals (lo : Int) (n : Nat) : List Val := (List.range n).map fun i => Val.d (.int (lo + (i : Nat)))
def inB62 (i : Int) : Bool := decide (-(2 ^ 62) ≤ i) && decide (i < 2 ^ 62)
def rng1I (f : SA) : SI := fun ρ st => bindR (f ρ st) fun vs st => match vs with
  | [.d (.int j)] => if inB62 j then .ok (rangeVals 0 j.toNat) st else .err
  | _ => .err
def rng2I (f : SA) : SI := fun ρ st => bindR (f ρ st) fun vs st => match vs with
  | [.d (.int i), .d (.int j)] => if inB62 i && inB62 j then .ok (rangeVals i (j - i).toNat) st else .err
  | _ => .err
theorem ylds_rng {lo : Int} {n : Nat} : Yields K mg m H (Itr lo n) (rangeVals lo n) := ⟨fun m2 H2 s2 st2 t2 i v hi => by
  unfold rangeVals at hi
  rw [List.getElem?_map] at hi
  obtain ⟨c, hc, rfl⟩ := Option.map_eq_some_iff.mp hi
  obtain ⟨h1, h2⟩ := List.getElem?_eq_some_iff.mp hc
  rw [List.getElem_range] at h2
  subst h2
  rw [List.length_range] at h1
  refine ⟨h1, fun y H3 ⟨e1, e2⟩ => ?_⟩
  subst e1
  rw [e2]
  exact ⟨Step.refl _ _, t2, .d (.int _)⟩, fun m2 H2 s2 st2 t2 => by
  show n ≤ _
  unfold rangeVals
  simp⟩
theorem inB62_iff {i : Int} (h : inB62 i = true) : -(2 ^ 62) ≤ i ∧ i < 2 ^ 62 := by
  unfold inB62 at h
  simpa using h
theorem di_rng1 {tg a : Expr} {f : SA} {p pos : Pos} (hg : Gl X "range") (hm : X.mg "range" = none) (ha : DA X W [a] f) (hs : starEach [a] X.env = [(false, eval a X.env)] := by rfl) : DI X W tg (.Call (.Name "range" p) [a] [] pos) (rng1I f) := (pi_range1 hg hm ha hs).imp fun σ H R ⟨m, ρ, st, he, hs, hp⟩ => ⟨m, ρ, st, he, hs, (Post.bind hp).mono fun vs H1 ⟨m1, as, st1, s1, t1, r1, p1⟩ => by
    split at p1
    · rename_i j
      split at p1
      · rename_i c
        cases r1 with
        | cons r1 r2 => cases r2; cases r1 with
          | d r1 => cases r1; exact ⟨j, rfl, (inB62_iff c).1, (inB62_iff c).2, p1.ok_now t1 ylds_rng⟩
      · exact p1.elim
    · exact p1.elim⟩
theorem di_rng2 {tg a b : Expr} {f : SA} {p pos : Pos} (hg : Gl X "range") (hm : X.mg "range" = none) (ha : DA X W [a, b] f) (hs : starEach [a, b] X.env = [(false, eval a X.env), (false, eval b X.env)] := by rfl) (hs2 : starEach [b] X.env = [(false, eval b X.env)] := by rfl) : DI X W tg (.Call (.Name "range" p) [a, b] [] pos) (rng2I f) := (pi_range2 hg hm ha hs hs2).imp fun σ H R ⟨m, ρ, st, he, hs, hp⟩ => ⟨m, ρ, st, he, hs, (Post.bind hp).mono fun vs H1 ⟨m1, as, st1, s1, t1, r1, p1⟩ => by
    split at p1
    · rename_i i j
      split at p1
      · rename_i c
        obtain ⟨c1, c2⟩ := Bool.and_eq_true_iff.mp c
        cases r1 with
        | cons r1 r2 => cases r2 with
          | cons r2 r3 => cases r3; cases r1 with
            | d r1 => cases r1; cases r2 with
              | d r2 => cases r2; exact ⟨i, j, rfl, ⟨(inB62_iff c1).1, (inB62_iff c1).2, (inB62_iff c2).1, (inB62_iff c2).2⟩, p1.ok_now t1 ylds_rng⟩
      · exact p1.elim
    · exact p1.elim⟩
/-! ### for -/
def forL (g : SG) (b : SS) (fg : List Nat) : List Val → SS
  | [] => fun ρ st => .nx ρ st
  | x :: xs => fun ρ st => match g x ρ with
    | some ρ' => loopR (b ρ' st) fg (forL g b fg xs)
    | none => .err
def forS (it : SI) (g : SG) (b : SS) (fg : List Nat) : SS := fun ρ st => bindS ρ (it ρ st) fun xs st => forL g b fg xs ρ st
theorem ds_for {tg iter : Expr} {body : List Stmt} {pos : Pos} {it : SI} {g : SG} {is : List Nat} {b : SS} (fg : List Nat) (hp : PassesOwn (model X.prog X.w) X.A X.env X.xe) (hc : X.calm = true) (hi : DI X W tg iter it) (hg : DG X tg g is) (hb : DSs X W body b)
    (hs : ∀ x, foldedSetIterable iter X.env x = pure x := by intro _; rfl) : DS X W (.For tg iter body [] pos) (forS it g b fg) :=
  (ps_for hp hc hi hg hb hs).imp fun D σ H ⟨m, ρ, st, he, hs, hp⟩ => ⟨m, ρ, st, he, hs, (PostS.bind he hp).mono fun J H1 ⟨m1, xs, st1, s1, t1, y1, p1⟩ => by
    refine ⟨fun i n σ2 H2 => n = xs.length - i ∧ i ≤ xs.length ∧ ∃ m2 ρ2 st2, Step m1 H1 m2 H2 ∧ RepEnv X.K X.mg m2 H2 σ2 ρ2 ∧ RepSt X.K X.mg m2 H2 st2 ∧ PostS X.K X.mg m2 H2 (forL g b fg (xs.drop i) ρ2 st2) D W, ⟨xs.length, rfl, Nat.zero_le _, m1, ρ, st1, Step.refl _ _, he.step s1, t1, p1⟩, fun i n σ2 H2 ⟨en, hi, m2, ρ2, st2, s2, e2, t2, p2⟩ => ?_⟩
    by_cases hlt : i < xs.length
    · have hx : xs[i]? = some xs[i] := List.getElem?_eq_getElem hlt
      obtain ⟨h1, h2⟩ := y1.go m2 H2 s2 st2 t2 i _ hx
      rw [List.drop_eq_getElem_cons hlt] at p2
      refine .inr ⟨h1, fun σ' H' => ∃ m' ρ' st', Step m1 H1 m' H' ∧ RepEnv X.K X.mg m' H' σ' ρ' ∧ RepSt X.K X.mg m' H' st' ∧ PostS X.K X.mg m' H' (forL g b fg (xs.drop (i + 1)) ρ' st') D W, fun σ' H' q => ⟨xs.length - (i + 1), by omega, rfl, hlt, q⟩, fun x H3 hy => ?_⟩
      obtain ⟨s3, t3, r3⟩ := h2 x H3 hy
      simp only [forL] at p2
      cases eg : g xs[i] ρ2 with
      | none => rw [eg] at p2; exact p2.elim
      | some ρ3 =>
        rw [eg] at p2
        refine ⟨m2, xs[i], ρ2, ρ3, e2.step s3, r3, eg, fun σ' he' _ => ⟨m2, ρ3, st2, he', t3, ?_⟩⟩
        have p3 := PostS.loop (PostS.step s3 p2)
        exact p3.ends (fun _ _ ⟨m', ρ', st', s, a, b, c⟩ => ⟨m', ρ', st', (s2.trans s3).trans s, b, a, c⟩) (fun _ _ h => h) (fun _ _ h => h) fun _ _ ⟨m', ρ', st', s, a, b, c⟩ => ⟨m', ρ', st', (s2.trans s3).trans s, b, a, c⟩
    · have e : i = xs.length := by omega
      subst e
      rw [List.drop_length] at p2
      exact .inl ⟨y1.stop m2 H2 s2 st2 t2, p2.nx_now t2 e2⟩⟩
/-! ### comprehensions -/
/-- a list under way changes, or comes to its end -/
structure Loose (m : Mp) (H : Hp) (m' : Mp) (H' : Hp) : Prop where
  c : m'.c = m.c
  h : ∀ a, a ∈ m'.h → a ∈ m.h
  eq : ∀ a, a ∉ m.h → H' a = H a
  ex : ∀ a, a ∈ m'.h → ∀ o, H a = some o → ∃ u, H' a = some u
theorem Loose.data (l : Loose m H m' H') {a : Addr} (n : ¬ m.has a) : ¬ m'.has a ∧ H' a = H a := ⟨fun z => z.elim (fun z => n (.inl (l.c ▸ z))) fun z => n (.inr (l.h a z)), l.eq a fun z => n (.inr z)⟩
mutual
theorem RepD.loose (l : Loose m H m' H') : ∀ {v : V} {x : D}, RepD K mg m H v x → RepD K mg m' H' v x
  | _, _, .non => .non
  | _, _, .bl b => .bl b
  | _, _, .int i => .int i
  | _, _, .str x => .str x
  | _, _, .lst e n r => .lst ((l.data n).2.trans e) (l.data n).1 (RepDs.loose l r)
  | _, _, .tup e r => .tup (e.elim (fun z => .inl ⟨z.1.elim (fun q => .inl ((l.data z.2).2.trans q)) fun ⟨u, q⟩ => .inr ⟨u, (l.data z.2).2.trans q⟩, (l.data z.2).1⟩) .inr) (RepDs.loose l r)
  | _, _, .ins e n cc e1 e2 r => .ins ((l.data n).2.trans e) (l.data n).1 cc e1 e2 (RepDs.loose l r)
theorem RepDs.loose (l : Loose m H m' H') : ∀ {v : List V} {x : List D}, RepDs K mg m H v x → RepDs K mg m' H' v x
  | _, _, .nil => .nil
  | _, _, .cons r t => .cons (RepD.loose l r) (RepDs.loose l t)
end
theorem RepV.loose (l : Loose m H m' H') {v : V} {x : Val} (r : RepV K mg m H v x) : RepV K mg m' H' v x := by
  cases r with
  | d r => exact .d (r.loose l)
  | ref h e => exact .ref (by rw [l.c]; exact h) (by rw [l.c]; exact e)
  | scr h r => exact .scr (h.elim (fun ⟨o, e, n⟩ => .inl ⟨o, (l.data n).2.trans e, (l.data n).1⟩) .inr) (r.loose l)
theorem RepVs.loose (l : Loose m H m' H') : ∀ {v : List V} {x : List Val}, RepVs K mg m H v x → RepVs K mg m' H' v x
  | _, _, .nil => .nil
  | _, _, .cons r t => .cons (r.loose l) (RepVs.loose l t)
theorem RepSt.loose (l : Loose m H m' H') (t : RepSt K mg m H st) : RepSt K mg m' H' st := by
  refine ⟨fun n => ?_, by rw [l.c]; exact t.inj, fun a ha z => t.dis a (l.c ▸ ha) (l.h a z), fun a ha => ?_⟩
  · rw [l.c]
    have q := t.cell n
    cases e : m.c[n]? with
    | none =>
      rw [e] at q
      cases e2 : st[n]? with
      | none => trivial
      | some o => rw [e2] at q; exact q.elim
    | some o =>
      rw [e] at q
      cases o with
      | none =>
        cases e2 : st[n]? with
        | none => rw [e2] at q; exact q.elim
        | some o => rw [e2] at q; cases o with
                    | none => trivial
                    | some c => exact q.elim
      | some a =>
        cases e2 : st[n]? with
        | none => rw [e2] at q; exact q.elim
        | some o =>
          rw [e2] at q
          rcases o with _ | ⟨xs⟩
          · exact q.elim
          · obtain ⟨⟨vs, h1, r⟩, w⟩ := q
            exact ⟨⟨vs, (l.eq a (t.dis a (List.mem_of_getElem? e))).trans h1, r.loose l⟩, w⟩
  · obtain ⟨o, e⟩ := t.hid a (l.h a ha)
    exact l.ex a ha o e
theorem loose_upd {p : Addr} {o : HO} (hp : p ∈ m.h) : Loose m H m (upd H p o) := ⟨rfl, fun _ h => h, fun a n => upd_ne fun e => n (by rw [e]; exact hp), fun a _ u e => by
  by_cases c : a = p
  · rw [c]; exact ⟨_, upd_same⟩
  · exact ⟨u, by rw [upd_ne c]; exact e⟩⟩
theorem loose_open {h : List Addr} (hh : ∀ a, a ∈ h → a ∈ m.h) : Loose m H ⟨m.c, h⟩ H := ⟨rfl, hh, fun _ _ => rfl, fun _ _ o e => ⟨o, e⟩⟩
theorem Step.updHid {m1 : Mp} {H1 : Hp} {p : Addr} {o : HO} (s : Step m1 H1 m H) (h1 : H1 p = none) : Step m1 H1 m (upd H p o) := ⟨fun a u n e => ⟨by rw [upd_ne (ne_of_none e h1)]; exact (s.kept a u n e).1, (s.kept a u n e).2⟩, s.open_, s.hid, s.le, s.cells⟩
theorem Step.opened {m1 : Mp} {H1 : Hp} (s : Step m1 H1 m H) : Step m1 H1 ⟨m.c, m1.h⟩ H := ⟨s.kept, fun a o n _ z => n (.inr z), fun _ h => h, s.le, s.cells⟩
theorem RepEnv.wipe (h : RepEnv K mg m H σ ρ) (vs : List Nat) : RepEnv K mg m H (wipe σ vs) (DL.forget vs ρ) := by
  have len : (DL.forget vs ρ).length = ρ.length := by
    induction vs generalizing ρ σ with
    | nil => rfl
    | cons v vs ih => unfold DL.forget; rw [ih (h.drop1 (i := v)), List.length_set]
  refine ⟨by rw [wipe_length, len]; exact h.len, fun j v e => ?_⟩
  have key : ∀ (vs : List Nat) (ρ : Env), (DL.forget vs ρ)[j]? = some (some v) → j ∉ vs ∧ ρ[j]? = some (some v) := by
    intro vs
    induction vs with
    | nil => intro ρ e; exact ⟨List.not_mem_nil, e⟩
    | cons w vs ih =>
      intro ρ e
      unfold DL.forget at e
      obtain ⟨h1, h2⟩ := ih _ e
      by_cases c : w = j
      · subst c
        rcases Nat.lt_or_ge w ρ.length with q | q
        · rw [List.getElem?_set_self q] at h2; cases h2
        · rw [List.getElem?_eq_none_iff.mpr (by simpa using q)] at h2; cases h2
      · rw [List.getElem?_set_ne c] at h2
        exact ⟨fun z => (List.mem_cons.mp z).elim (fun z => c z.symm) h1, h2⟩
  obtain ⟨h1, h2⟩ := key vs ρ e
  obtain ⟨x, hx, r⟩ := h.val j v h2
  exact ⟨x, by rw [wipe_get, if_neg (fun z => h1 z.1)]; exact hx, r⟩
def noX {α : Type} (r : R α) : R α := match r with
  | .ok a st => .ok a st
  | _ => .err
@[simp] theorem noX_ok {α : Type} {a : α} {st : Store} : noX (.ok a st) = .ok a st := rfl
def lcL (g : SG) (c : ST) (f : SE) (ρ0 : Env) : List Val → List D → Store → R (List D)
  | [], acc, st => .ok acc st
  | x :: xs, acc, st => match g x ρ0 with
    | some ρ1 => bindR (noX (c ρ1 st)) fun b st => if b then bindR (noX (f ρ1 st)) fun v st => match v with
        | .d y => if acc.length < sizeLine then lcL g c f ρ0 xs (acc ++ [y]) st else .err
        | _ => .err
      else lcL g c f ρ0 xs acc st
    | none => .err
def lcK (ys : List D) (st : Store) : R Val := .ok (.d (.lst ys)) st
def lcE (it : SI) (g : SG) (c : ST) (f : SE) (vs : List Nat) : SE := fun ρ st => bindR (it ρ st) fun xs st => bindR (lcL g c f (DL.forget vs ρ) xs [] st) lcK
def yesT : ST := fun _ st => .ok true st
abbrev WF : WX := fun _ _ _ _ => False
theorem dts_nil : PTs X [] (tT X.K X.mg W yesT) := ⟨fun pins s σ H Q I ⟨m, ρ, st, he, hs, hp⟩ => (pts_nil (X := X)).run pins s σ H Q I (hp.ok_now hs rfl)⟩
theorem dts_one {c : Expr} {f : ST} (h : DT X W c f) : PTs X [c] (tT X.K X.mg W f) := pts_one h
theorem tLc_of {it : SI} {g : SG} {is : List Nat} {c : ST} {f : SE} {vs : List Nat} (hv : ∀ i ∈ is, i ∈ vs) (σ : L2.St) (H : Hp) (Q : VK) (h : tE K mg W (lcE it g c f vs) σ H Q) :
    tLc (tI K mg W it) (tG K mg g is) (tT K mg WF c) (tE K mg WF f) vs σ H Q := by
  obtain ⟨m, ρ, st, he, hs, hp⟩ := h
  refine ⟨m, ρ, st, he, hs, (Post.bind hp).mono fun J H1 ⟨m1, xs, st1, s1, t1, y1, p1⟩ D hD => ?_⟩
  refine ⟨fun i n H2 => n = xs.length - i ∧ i ≤ xs.length ∧ ∃ m2 st2 acc va, Step m1 H1 m2 H2 ∧ D ∈ m2.h ∧ some D ∉ m2.c ∧ RepSt K mg m2 H2 st2 ∧ H2 D = some (.lst va) ∧ RepDs K mg m2 H2 va acc ∧
      Post K mg m1 H1 (bindR (lcL g c f (DL.forget vs ρ) (xs.drop i) acc st2) lcK) (AV K mg) Q fun c d H' => W c d σ H',
    ⟨xs.length, rfl, Nat.zero_le _, m1.hide D, st1, [], [], Step.hide hD, List.mem_cons_self, t1.freshC hD, t1.hide hD, upd_same, .nil, p1⟩, fun i n H2 ⟨en, hi, m2, st2, acc, va, s2, hd, hc, t2, ed, ra, p2⟩ => ?_⟩
  by_cases hlt : i < xs.length
  · have hx : xs[i]? = some xs[i] := List.getElem?_eq_getElem hlt
    obtain ⟨h1, h2⟩ := y1.go m2 H2 s2 st2 t2 i _ hx
    rw [List.drop_eq_getElem_cons hlt] at p2
    refine .inr ⟨h1, fun H' => ∃ m2 st2 acc va, Step m1 H1 m2 H' ∧ D ∈ m2.h ∧ some D ∉ m2.c ∧ RepSt K mg m2 H' st2 ∧ H' D = some (.lst va) ∧ RepDs K mg m2 H' va acc ∧
      Post K mg m1 H1 (bindR (lcL g c f (DL.forget vs ρ) (xs.drop (i + 1)) acc st2) lcK) (AV K mg) Q fun c d H' => W c d σ H', fun H' q => ⟨xs.length - (i + 1), by omega, rfl, hlt, q⟩, fun x H3 hy => ?_⟩
    obtain ⟨s3, t3, r3⟩ := h2 x H3 hy
    simp only [lcL] at p2
    cases eg : g xs[i] (DL.forget vs ρ) with
    | none => simp only [eg] at p2; exact p2.elim
    | some ρ3 =>
      simp only [eg] at p2
      refine ⟨m2, xs[i], DL.forget vs ρ, ρ3, (((he.step s1).step s2).step s3).wipe vs, r3, eg, fun σ2 he2 off => ⟨by rw [off vs hv]; apply List.ext_getElem?; intro j; rw [wipe_get, wipe_get, wipe_length]; split <;> rfl, ?_⟩⟩
      refine ⟨m2, ρ3, st2, he2, t3, ?_⟩
      cases ec : c ρ3 st2 with
      | err => rw [ec] at p2; exact p2.elim
      | exc _ _ _ _ => rw [ec] at p2; exact p2.elim
      | ok b st3 =>
        rw [ec] at p2
        simp only [noX, bindR] at p2
        intro m4 H4 b' s4 t4 eb
        have eb : b' = b := eb
        subst eb
        have s24 := s3.trans s4
        have e4 := s24.kept D _ hc ed
        cases b' with
        | false =>
          rw [if_neg (by decide)] at p2
          rw [if_neg (by decide)]
          exact ⟨m4, st3, acc, va, s2.trans s24, s24.hid D hd, e4.2, t4, e4.1, ra.step s24, p2⟩
        | true =>
          rw [if_pos rfl] at p2
          rw [if_pos rfl]
          refine ⟨m4, ρ3, st3, he2.step s4, t4, ?_⟩
          cases ef : f ρ3 st3 with
          | err => rw [ef] at p2; exact p2.elim
          | exc _ _ _ _ => rw [ef] at p2; exact p2.elim
          | ok v st4 =>
            rw [ef] at p2
            simp only [noX] at p2
            intro m5 H5 y s5 t5 ry
            cases v with
            | d y' =>
              simp only at p2
              have s25 := s24.trans s5
              have e5 := s25.kept D _ hc ed
              by_cases hz : acc.length < sizeLine
              · rw [if_pos hz] at p2
                have hd5 := s25.hid D hd
                cases ry with
                | d ry =>
                  have ra5 := ra.step s25
                  refine ⟨va, e5.1, by rw [ra5.length]; exact hz, m5, st4, acc ++ [y'], va ++ [y], (s2.trans s25).updHid hD, hd5, e5.2, t5.loose (loose_upd hd5), upd_same, (ra5.append (.cons ry .nil)).loose (loose_upd hd5), p2⟩
              · rw [if_neg hz] at p2; exact p2.elim
            | ref n => exact p2.elim
            | scr xs => exact p2.elim
  · have e : i = xs.length := by omega
    subst e
    rw [List.drop_length] at p2
    refine .inl ⟨y1.stop m2 H2 s2 st2 t2, ?_⟩
    have lo : Loose m2 H2 ⟨m2.c, m1.h⟩ H2 := loose_open s2.hid
    exact p2 ⟨m2.c, m1.h⟩ H2 (.ref D) s2.opened (t2.loose lo) (.d (.lst ed (Mp.not_has hc (t1.freshH hD)) (ra.loose lo)))
theorem de_lc {elt tg iter : Expr} {ifs : List Expr} {scope : Scope} {own : List (Str × Nat)} {pos : Pos} {it : SI} {g : SG} {is : List Nat} {c : ST} {f : SE} (hc : X.calm = true) (hN : X.N.Nodup) (hi : DI X W tg iter it) (ok : BlkOk X.N X.env.scope scope own)
    (hg : ∀ (s : Shared) (H : Hp) (C : Addr) (cl : List (Str × Addr)) (fp : List Addr), DG (X.blk s H scope (compEnvC scope cl C X.env) fp) tg g is) (ht : ∀ (s : Shared) (H : Hp) (C : Addr) (cl : List (Str × Addr)) (fp : List Addr), PTs (X.blk s H scope (compEnvC scope cl C X.env) fp) ifs (tT X.K X.mg WF c))
    (he : ∀ (s : Shared) (H : Hp) (C : Addr) (cl : List (Str × Addr)) (fp : List Addr), DE (X.blk s H scope (compEnvC scope cl C X.env) fp) WF elt f) (hv : ∀ i ∈ is, i ∈ own.map (·.2) := by decide) (hs : ∀ x, foldedSetIterable iter X.env x = pure x := by intro _; rfl) :
    DE X W (.ListComp elt [⟨tg, iter, ifs, 0⟩] scope pos) (lcE it g c f (own.map (·.2))) := (pe_lc hc hN hi ok hg ht he hs).imp fun σ H Q h => tLc_of hv σ H Q h
/-- name = [..] -/
theorem ds_setLc {i : Nat} {y : Str} {py : Pos} {elt tg iter : Expr} {ifs : List Expr} {scope : Scope} {own : List (Str × Nat)} {pos spos : Pos} {it : SI} {g : SG} {is : List Nat} {c : ST} {f : SE} (hc : X.calm = true) (hN : X.N.Nodup) (hy : X.N[i]? = some y) (hyl : X.env.scope.names.lookup y = some .local)
    (hsw : swapsWith (.ListComp elt [⟨tg, iter, ifs, 0⟩] scope pos) (some (.Name y py)) spos.line X.env = pure true) (hi : DI X W tg iter it) (ok : BlkOk X.N X.env.scope scope own)
    (hg : ∀ (s : Shared) (H : Hp) (C : Addr) (cl : List (Str × Addr)) (fp : List Addr), DG (X.blk s H scope (compEnvC scope cl C X.env) fp) tg g is) (ht : ∀ (s : Shared) (H : Hp) (C : Addr) (cl : List (Str × Addr)) (fp : List Addr), PTs (X.blk s H scope (compEnvC scope cl C X.env) fp) ifs (tT X.K X.mg WF c))
    (he : ∀ (s : Shared) (H : Hp) (C : Addr) (cl : List (Str × Addr)) (fp : List Addr), DE (X.blk s H scope (compEnvC scope cl C X.env) fp) WF elt f) (hv : ∀ i ∈ is, i ∈ own.map (·.2) := by decide) (hs : ∀ x, foldedSetIterable iter X.env x = pure x := by intro _; rfl) :
    DS X W (.Assign [.Name y py] (.ListComp elt [⟨tg, iter, ifs, 0⟩] scope pos) spos) (setS i (lcE it g c f (own.map (·.2)))) := (ps_setLc hc hN hy hyl hsw hi ok hg ht he hs).imp fun D σ H ⟨m, ρ, st, he, hs, hp⟩ =>
      tLc_of hv σ H _ ⟨m, ρ, st, he, hs, (PostS.bind he hp).mono fun x H1 ⟨m1, a, st1, s1, t1, r1, p1⟩ => p1.nx_now t1 ((he.step s1).set r1)⟩
end
end DL
end

section
set_option Elab.async false
set_option linter.all false
set_option autoImplicit false
set_option maxRecDepth 100000
/-! DL7: defs, calls, built-ins over data. -/
namespace DL
open PySem PySem.Spec PyProof.Rows L2
section
variable {X : Cx} {W : WX} {K : PySem.W.Frag} {mg : Str → Option Value} {m m' : Mp} {H H' : Hp} {st : Store} {σ σ' : L2.St} {ρ ρ' : Env}
/-! ### the end of a def: what it has laid is forgotten -/
structure Sub (m m' : Mp) : Prop where
  has : ∀ a, m'.has a → m.has a
mutual
theorem RepD.sub (l : Sub m m') : ∀ {v : V} {x : D}, RepD K mg m H v x → RepD K mg m' H v x
  | _, _, .non => .non
  | _, _, .bl b => .bl b
  | _, _, .int i => .int i
  | _, _, .str x => .str x
  | _, _, .lst e n r => .lst e (fun z => n (l.has _ z)) (RepDs.sub l r)
  | _, _, .tup e r => .tup (e.elim (fun z => .inl ⟨z.1, fun q => z.2 (l.has _ q)⟩) .inr) (RepDs.sub l r)
  | _, _, .ins e n cc e1 e2 r => .ins e (fun z => n (l.has _ z)) cc e1 e2 (RepDs.sub l r)
theorem RepDs.sub (l : Sub m m') : ∀ {v : List V} {x : List D}, RepDs K mg m H v x → RepDs K mg m' H v x
  | _, _, .nil => .nil
  | _, _, .cons r t => .cons (RepD.sub l r) (RepDs.sub l t)
end
theorem sub_cut {n : Nat} : Sub m (m.cut n) := ⟨fun a z => z.elim (fun z => .inl (List.mem_of_mem_take z)) .inr⟩
theorem cut_at {n i : Nat} {a : Addr} (h : (m.cut n).c[i]? = some (some a)) : i < n ∧ m.c[i]? = some (some a) := by
  have h : (m.c.take n)[i]? = _ := h
  rw [List.getElem?_take] at h
  split at h
  · rename_i c; exact ⟨c, h⟩
  · cases h
theorem RepV.cut {n : Nat} {x : V} {v : Val} (hn : n ≤ m.c.length) (r : RepV K mg m H x v) (hv : ∀ k, v = .ref k → k < n) : RepV K mg (m.cut n) H x v := by
  cases r with
  | d r => exact .d (r.sub sub_cut)
  | scr h r => exact .scr (h.elim (fun ⟨o, e, nn⟩ => .inl ⟨o, e, fun z => nn (sub_cut.has _ z)⟩) .inr) (r.sub sub_cut)
  | ref hl hr =>
    refine .ref (by show _ < (m.c.take n).length; rw [List.length_take]; have := hv _ rfl; omega) fun b e => hr b (cut_at e).2
theorem RepVs.cut {n : Nat} (hn : n ≤ m.c.length) : ∀ {xs : List V} {vs : List Val}, RepVs K mg m H xs vs → (∀ k, Val.ref k ∈ vs → k < n) → RepVs K mg (m.cut n) H xs vs
  | _, _, .nil, _ => .nil
  | _, _, .cons r t, hv => .cons (r.cut hn fun k e => hv k (by rw [e]; exact List.mem_cons_self)) (RepVs.cut hn t fun k e => hv k (List.mem_cons_of_mem _ e))
theorem RepSt.cut {n : Nat} (t : RepSt K mg m H st) (hn : n ≤ st.length) : RepSt K mg (m.cut n) H (st.take n) := by
  have hm : n ≤ m.c.length := by rw [t.len]; exact hn
  refine ⟨fun k => ?_, fun i j a hi hj => t.inj i j a (cut_at hi).2 (cut_at hj).2, fun a ha => t.dis a (List.mem_of_mem_take ha), t.hid⟩
  show CellOk K mg (m.cut n) H k (m.c.take n)[k]? _
  rw [List.getElem?_take, List.getElem?_take]
  by_cases c : k < n
  · rw [if_pos c, if_pos c]
    have q := t.cell k
    generalize m.c[k]? = z1 at q
    generalize st[k]? = z2 at q
    rcases z1 with _ | _ | a <;> rcases z2 with _ | _ | ⟨xs⟩ <;> try exact q
    obtain ⟨⟨vs, e, r⟩, w⟩ := q
    exact ⟨⟨vs, e, r.cut hm fun k' e' => Nat.lt_trans (w k' e') c⟩, w⟩
  · rw [if_neg c, if_neg c]
    trivial
theorem Step.cut {n : Nat} (s : Step m H m' H') (hn : m.c.length = n) : Step m H (m'.cut n) H' := ⟨fun a o c e => ⟨(s.kept a o c e).1, fun z => (s.kept a o c e).2 (List.mem_of_mem_take z)⟩, s.open_, s.hid, by
  show _ ≤ (m'.c.take n).length
  rw [List.length_take]
  have := s.le
  omega, fun k hk b e => s.cells k hk b (cut_at e).2⟩
def retV (n : Nat) (v : Val) (st : Store) : R Val := match v with
  | .ref k => if k < n then .ok (.ref k) (st.take n) else match st[k]? with
    | some (some (.lst xs)) => match asDs xs with
      | some ds => .ok (.d (.lst ds)) (st.take n)
      | none => .err
    | _ => .err
  | .d x => .ok (.d x) (st.take n)
  | .scr xs => .ok (.scr xs) (st.take n)
def fin (n : Nat) (r : RS) : R Val := match r with
  | .nx _ st => .ok (.d .non) (st.take n)
  | .ret v st => retV n v st
  | .exc _ c ns vs st => .exc c ns vs (st.take n)
  | _ => .err
def env0 (n : Nat) (as : List Val) : Env := as.map some ++ List.replicate (n - as.length) none
def funD (n : Nat) (g : SS) (as : List Val) (st : Store) : R Val := noX (fin st.length (g (env0 n as) st))
def funX (n : Nat) (g : SS) (as : List Val) (st : Store) : R Val := fin st.length (g (env0 n as) st)
/-- what it has laid is kept -/
def funK (n : Nat) (g : SS) (as : List Val) (st : Store) : R Val := match g (env0 n as) st with
  | .nx _ st => .ok (.d .non) st
  | .ret v st => .ok v st
  | _ => .err
theorem env0_rep {N : List Str} {vs : List V} {as : List Val} (r : RepVs K mg m H vs as) : RepEnv K mg m H (L2.start N vs) (env0 N.length as) := by
  refine ⟨by unfold L2.start env0; simp [r.length], fun i v e => ?_⟩
  unfold env0 at e
  rcases Nat.lt_or_ge i as.length with q | q
  · rw [List.getElem?_append_left (by simpa using q), List.getElem?_map] at e
    obtain ⟨w, hw, e⟩ := Option.map_eq_some_iff.mp e
    cases e
    obtain ⟨x, hx, rx⟩ := r.get hw
    refine ⟨x, ?_, rx⟩
    unfold L2.start
    rw [List.getElem?_append_left (by rw [List.length_map, r.length]; exact q), List.getElem?_map, hx]
    rfl
  · rw [List.getElem?_append_right (by simpa using q)] at e
    have := List.mem_of_getElem? e
    have := List.eq_of_mem_replicate this
    cases this
theorem fin_of {r : RS} {Q : VK} {E : XK} (t0 : RepSt K mg m H st) (h : Post K mg m H (fin st.length r) (AV K mg) Q E) : PostS K mg m H r { nx := fun _ H' => Q .non H', rt := Q } (fun c d _ H' => E c d H') := by
  have l0 := t0.len
  have hn : ∀ {m' H' st'}, Step m H m' H' → RepSt K mg m' H' st' → st.length ≤ st'.length := fun s t => by rw [← t.len, ← l0]; exact s.le
  cases r with
  | nx ρ st' => exact fun m' H' σ' s t e => h (m'.cut st.length) H' .non (s.cut l0) (t.cut (hn s t)) (.d .non)
  | brk => exact h.elim
  | cnt => exact h.elim
  | err => exact h.elim
  | exc ρ c ns vs st' => exact fun m' H' σ' cls d s t e ⟨x1, dd, fs, ws, x2, x3, x4, x5, x6, x7⟩ => h (m'.cut st.length) H' cls d (s.cut l0) (t.cut (hn s t)) ⟨x1, dd, fs, ws, x2, x3, fun z => x4 (sub_cut.has _ z), x5, x6, x7.sub sub_cut⟩
  | ret v st' =>
    intro m' H' x s t r
    unfold fin retV at h
    cases v with
    | d y => exact h (m'.cut st.length) H' x (s.cut l0) (t.cut (hn s t)) (r.cut (by rw [t.len]; exact hn s t) fun k e => by cases e)
    | scr y => exact h (m'.cut st.length) H' x (s.cut l0) (t.cut (hn s t)) (r.cut (by rw [t.len]; exact hn s t) fun k e => by cases e)
    | ref k =>
      simp only at h
      by_cases c : k < st.length
      · rw [if_pos c] at h
        exact h (m'.cut st.length) H' x (s.cut l0) (t.cut (hn s t)) (r.cut (by rw [t.len]; exact hn s t) fun k e => by cases e; exact c)
      · rw [if_neg c] at h
        split at h
        · rename_i xs hk
          split at h
          · rename_i ds hd
            refine h (m'.cut st.length) H' x (s.cut l0) (t.cut (hn s t)) ?_
            obtain ⟨a, vs, e1, e2, r1, _⟩ := t.at hk
            cases r with
            | ref hl hr =>
              rw [hr a e1]
              refine .d (.lst e2 ?_ ((r1.ds hd).sub sub_cut))
              refine Mp.not_has (fun z => ?_) (t.dis a (List.mem_of_getElem? e1))
              obtain ⟨j, hj⟩ := List.mem_iff_getElem?.mp z
              have q := cut_at hj
              have := t.inj j k a q.2 e1
              omega
          · exact h.elim
        · exact h.elim
theorem noX_of {α β : Type} {r : R α} {A : Mp → Hp → β → α → Prop} {Q : β → Hp → Prop} {E E' : XK} (h : Post K mg m H (noX r) A Q E) : Post K mg m H r A Q E' := by
  cases r with
  | ok a st => exact h
  | exc _ _ _ _ => exact h.elim
  | err => exact h
theorem funK_of {r : RS} {Q : VK} {E : XK} (h : Post K mg m H (match r with
  | .nx _ st => R.ok (.d .non) st
  | .ret v st => .ok v st
  | _ => .err) (AV K mg) Q E) : PostS K mg m H r { nx := fun _ H' => Q .non H', rt := Q } WF := by
  cases r with
  | nx ρ st' => exact fun m' H' σ' s t e => h m' H' .non s t (.d .non)
  | ret v st' => exact fun m' H' x s t e => h m' H' x s t e
  | _ => exact h.elim
end
/-! ### promises, where no repr is under way -/
structure FnG (P : Program) (w : World) (K : PySem.W.Frag) (mg : Str → Option Value) (base : Heap) (CX : CXT) (k : Nat) (f : Addr) (fd : FuncData) (ps : List Str) (sp : Sp) : Prop where
  len : ∀ vs H Q E, sp vs H Q E → vs.length = ps.length
  run : ∀ (A : Around), Room k A → A.guards = some [] → ∀ (outer : List PySem.Env) (s : Shared) (H : Hp) (args : Args) (us : List Value) (vs : List V) (Q : VK) (E : XK), Env0 P w K mg base A outer s H → BindsTo s fd args (ps.zip us) → Vals vs us → sp vs H Q E →
    codeAny (model P w) A (.call (.ref f) args) (CR CX outer P w H s Q E) s
section
variable {P : Program} {w : World} {K : PySem.W.Frag} {mg : Str → Option Value} {base : Heap} {CX : CXT}
theorem FnG.mono {j k : Nat} {f : Addr} {fd : FuncData} {ps : List Str} {sp : Sp} (F : FnG P w K mg base CX j f fd ps sp) (h : j ≤ k) : FnG P w K mg base CX k f fd ps sp :=
  ⟨F.len, fun A hr hg => F.run A (hr.mono h) hg⟩
theorem FnG.of {k : Nat} {f : Addr} {fd : FuncData} {ps : List Str} {sp : Sp} (F : FnOk P w K mg base CX k f fd ps sp) : FnG P w K mg base CX k f fd ps sp :=
  ⟨F.len, fun A hr _ outer s H args us vs Q E => F.run A outer s H args us vs Q E hr⟩
/-- a def by its body (as the hand layer has it, with the guards told) -/
theorem fn_g {k : Nat} {f : Addr} {fd : FuncData} {x qual : Str} {st : Stmt} {N ps : List Str} {sp : Sp} (F : Fun K x qual st f fd) (S : FnScope N ps (defScope st)) (len : ∀ vs H Q E, sp vs H Q E → vs.length = ps.length)
    (body : ∀ (cdv : Value) (A : Around) (outer : List PySem.Env) (s : Shared) (H : Hp) (vs : List V) (Q : VK) (E : XK), Room k (A.deeper (envOfC qual (defScope st) s.heap.objs.size f cdv)) → A.guards = some [] → sp vs H Q E →
      ∃ t, PSs (cxOf CX P w K mg base N qual (defScope st) f cdv A outer s H E) (defBody st) t ∧ t { nx := fun _ H' => Q .non H', rt := Q } (L2.start N vs) H) : FnG P w K mg base CX (k + 1) f fd ps sp := by
  obtain ⟨oc, od, kV, doc, pm, an, cdv, ct, osl, rfl, lk, hcd⟩ := F.ex
  refine ⟨len, fun A room guards outer s H args us vs Q E start binds rel wish => ?_⟩
  have stays : ∀ b o, base.get? b = some o → s.heap.get? b = some o := fun b o e => (start.bs b o e).1
  have there : K.In s.heap := start.mod.kin.keeps stays
  have free : s.heap.NoLimit := start.mod.nolimit.keeps stays
  have places : ∀ y ∈ ps.zip us, (defScope st).names.lookup y.1 = some .local ∨ ((defScope st).names.lookup y.1 = some .cell ∧ ((cellsFrom (s.heap.objs.size + 1) (defScope st).names []).lookup y.1).isSome = true) :=
    fun y hy => (S.par y.1 (List.of_mem_zip (show (y.1, y.2) ∈ ps.zip us from hy)).1).imp id fun q => ⟨q, PySem.W.cellsFrom_some _ _ _ (.inl q)⟩
  have count := len _ _ _ _ wish
  refine codeAny_call_function room.depth (there _ _ lk) rfl S.co S.gen rfl (PySem.W.codeRec_of there hcd) (binds _ _ _ _ ?_)
  refine wpAny_newFunctionEnv_cells S.kind places fun env isEnv s1 laid => ?_
  subst isEnv
  have inv := inv_start (CX := CX) (P := P) (w := w) (K := K) (mg := mg) (base := base) (E := E) S room.hd start count rel laid
  obtain ⟨t, derives, reads⟩ := body cdv A outer s H vs Q E (room.deeper _) guards wish
  refine ⟨free.keeps laid.toInCall.keep, codeAny_func (wpAny_mono (derives.run [] s1 _ H _ inv reads) (fun way s' ends => ?_) fun _ _ raised => raised)⟩
  cases way with
  | next =>
    obtain ⟨σ', H', J, q⟩ := ends
    exact ⟨V.non, H', J.os, J.bare, J.base, J.hok, rfl, q⟩
  | ret u =>
    obtain ⟨v, σ', H', J, rv, q⟩ := ends
    exact ⟨v, H', J.os, J.bare, J.base, J.hok, rv, q⟩
  | brk => exact ends.elim fun _ z => z.elim fun _ z => z.2.elim
  | cont => exact ends.elim fun _ z => z.elim fun _ z => z.2.elim
end
section
variable {X : Cx} {CX : CXT} {E : XK}
theorem _root_.L2.Inv.env0G {X : Cx} {pins : List (Addr × Obj)} {σ : L2.St} {H : Hp} {s : Shared} (I : Inv X pins σ H s) : Env0 X.prog X.w X.K X.mg X.base X.A X.stack s H := I.env0
/-- a call of a def's object, by values -/
theorem run_g {k : Nat} {f : Addr} {fd : FuncData} {ps : List Str} {sp : Sp} {pins : List (Addr × Obj)} {σ : L2.St} {H : Hp} {s : Shared} {Q : VK} {args : Args} {us : List Value} {vs : List V} (F : FnG X.prog X.w X.K X.mg X.base CX k f fd ps sp) (hr : Room k X.A) (hg : X.A.guards = some []) (hb : BindsTo s fd args (ps.zip us)) (hx : Passes CX X E)
    (I : Inv X pins σ H s) (r : Vals vs us) (h : sp vs H Q E) : codeAny (model X.prog X.w) X.A (.call (.ref f) args) (fun res s' => match res with
      | .ok (.ret u) => EP X pins σ Q u s'
      | .ok _ => False
      | .error e => X.xe e s') s :=
  codeAny_mono (F.run X.A hr hg X.stack s H args us vs Q E I.env0 hb r h) fun res s' ends => by
    cases res with
    | error e => exact hx pins σ H s e s' I ends
    | ok way => cases way with
      | ret u => exact I.after ends
      | next => exact ends.elim
      | brk => exact ends.elim
      | cont => exact ends.elim
/-- f(e, ..) -/
theorem pe_callG {k : Nat} {f : Addr} {fd : FuncData} {ps : List Str} {sp : Sp} {x : Str} {p pos : Pos} {e : Expr} {es : List Expr} {t : TA} (F : FnG X.prog X.w X.K X.mg X.base CX k f fd ps sp) (hr : Room k X.A) (hgd : X.A.guards = some []) (hg : Gl X x) (hm : X.mg x = some (.ref f)) (hk : PySem.W.keepIn X.K (.ref f) = true) (hb : Binds X.K fd ps []) (hx : Passes CX X E)
    (ha : PA X (e :: es) t) (hdb : (x == ("__debug__" : Str)) = false := by decide) (he : starEach (e :: es) X.env = (false, eval e X.env) :: starEach es X.env := by rfl) (hpl : (backTo pos (starEach es X.env)).any (·.1) = false := by rfl) :
    PE X (.Call (.Name x p) (e :: es) [] pos) (tCall sp [] E t) := ⟨fun pins s σ H Q I h => by
  refine wpAny_Call_Name_kw (ld_glob I hg hm (PySem.W.callWith_K (h₀ := X.base) I.ok.mod.kin hk (thn (ha.run pos pins s σ H _ I h) fun us s1 got => ?_) he hpl) hdb)
  obtain ⟨vs, H1, I1, r, q⟩ := got
  rw [List.append_nil] at q
  refine ⟨I1.kIn, wpAny_call (codeAny_mono (run_g F hr hgd (us := us) ?_ hx I1 r q) fun res s' z => z)⟩
  have l := F.len _ _ _ _ q
  have b := hb s1 us I1.kIn (by rw [List.append_nil, ← r.length]; exact l)
  rw [List.append_nil] at b
  exact b⟩
end
def spD (K : PySem.W.Frag) (mg : Str → Option Value) (n : Nat) (F : List Val → Store → R Val) : Sp := fun vs H Q E => vs.length = n ∧ ∃ m st as, RepSt K mg m H st ∧ RepVs K mg m H vs as ∧ Post K mg m H (F as st) (AV K mg) Q E
section
variable {P : Program} {w : World} {K : PySem.W.Frag} {mg : Str → Option Value} {base : Heap} {x qual : Str} {s : Stmt} {f : Addr} {fd : FuncData} {N ps : List Str} {k : Nat} {g : SS}
abbrev FnD (P : Program) (w : World) (K : PySem.W.Frag) (mg : Str → Option Value) (base : Heap) (k : Nat) (f : Addr) (fd : FuncData) (ps : List Str) (F : List Val → Store → R Val) : Prop := FnG P w K mg base CX0 k f fd ps (spD K mg ps.length F)
abbrev BodyOk (P : Program) (w : World) (K : PySem.W.Frag) (mg : Str → Option Value) (base : Heap) (qual : Str) (s : Stmt) (f : Addr) (N : List Str) (k : Nat) (g : SS) : Prop := ∀ (cdv : Value) (A : Around) (outer : List PySem.Env) (sh : Shared) (H : Hp) (E : XK), Room k (A.deeper (envOfC qual (defScope s) sh.heap.objs.size f cdv)) → A.guards = some [] → DSs (cxOf CX0 P w K mg base N qual (defScope s) f cdv A outer sh H E).nox WF (defBody s) g
theorem fn_d (F : Fun K x qual s f fd) (S : FnScope N ps (defScope s)) (hb : BodyOk P w K mg base qual s f N k g) : FnD P w K mg base (k + 1) f fd ps (funD N.length g) := by
  refine fn_g F S (fun vs H Q E h => h.1) (fun cdv A outer sh H vs Q E hr hg h => ?_)
  obtain ⟨_, m, st, as, t, r, p⟩ := h
  exact ⟨_, (hb cdv A outer sh H E hr hg).nox, m, _, st, env0_rep r, t, fin_of (E := fun _ _ _ => False) t (noX_of p)⟩
theorem fn_k (F : Fun K x qual s f fd) (S : FnScope N ps (defScope s)) (hb : BodyOk P w K mg base qual s f N k g) : FnD P w K mg base (k + 1) f fd ps (funK N.length g) := by
  refine fn_g F S (fun vs H Q E h => h.1) (fun cdv A outer sh H vs Q E hr hg h => ?_)
  obtain ⟨_, m, st, as, t, r, p⟩ := h
  exact ⟨_, (hb cdv A outer sh H E hr hg).nox, m, _, st, env0_rep r, t, funK_of p⟩
/-- what is never called so -/
theorem fn_none {f : Addr} {fd : FuncData} : FnD P w K mg base 0 f fd ps (fun _ _ => .err) := by
  have no : ∀ vs H Q E, ¬ spD K mg ps.length (fun _ _ => .err) vs H Q E := fun vs H Q E ⟨_, m, st, as, t, r, p⟩ => p
  exact ⟨fun vs H Q E h => absurd h (no vs H Q E), fun A _ _ outer s H args us vs Q E _ _ _ h => absurd h (no vs H Q E)⟩
end
section
variable {X : Cx} {W : WX} {K : PySem.W.Frag} {mg : Str → Option Value} {m m' : Mp} {H H' : Hp} {st : Store} {σ σ' : L2.St} {ρ ρ' : Env}
/-! ### calls -/
def callE (F : List Val → Store → R Val) (fs : SA) : SE := fun ρ st => bindR (fs ρ st) fun as st => noX (F as st)
theorem de_call {F : List Val → Store → R Val} {fs : SA} {k : Nat} {f : Addr} {fd : FuncData} {ps : List Str} {x : Str} {p pos : Pos} {e : Expr} {es : List Expr} (F0 : FnD X.prog X.w X.K X.mg X.base k f fd ps F) (hr : Room k X.A) (hgd : X.A.guards = some []) (hg : Gl X x) (hm : X.mg x = some (.ref f)) (hk : PySem.W.keepIn X.K (.ref f) = true) (hb : Binds X.K fd ps []) (ha : DA X W (e :: es) fs) (hl : ∀ ρ st as st', fs ρ st = .ok as st' → as.length = ps.length)
    (hdb : (x == ("__debug__" : Str)) = false := by decide) (he : starEach (e :: es) X.env = (false, eval e X.env) :: starEach es X.env := by rfl) (hpl : (backTo pos (starEach es X.env)).any (·.1) = false := by rfl) :
    DE X W (.Call (.Name x p) (e :: es) [] pos) (callE F fs) := (pe_callG (E := E0) F0 hr hgd hg hm hk hb pass0 ha hdb he hpl).imp fun σ H Q ⟨m, ρ, st, he, hs, hp⟩ => by
  refine ⟨m, ρ, st, he, hs, ?_⟩
  cases ea : fs ρ st with
  | err => simp only [callE, ea] at hp; exact hp.elim
  | exc c ns vs st' => simp only [callE, ea] at hp; exact hp
  | ok as st' =>
    simp only [callE, ea, bindR] at hp
    intro m1 H1 vs s1 t1 r1
    rw [List.append_nil]
    exact ⟨by rw [r1.length]; exact hl _ _ _ _ ea, m1, st', as, t1, r1, noX_of (Post.step s1 hp)⟩
theorem len_nilA : ∀ ρ st as st', nilA ρ st = .ok as st' → as.length = 0 := fun ρ st as st' e => by cases e; rfl
theorem len_consA {f : SE} {g : SA} {n : Nat} (h : ∀ ρ st as st', g ρ st = .ok as st' → as.length = n) : ∀ ρ st as st', consA f g ρ st = .ok as st' → as.length = n + 1 := fun ρ st as st' e => by
  unfold consA at e
  cases e1 : f ρ st with
  | err => rw [e1] at e; cases e
  | exc _ _ _ _ => rw [e1] at e; cases e
  | ok a st1 =>
    rw [e1] at e
    simp only [bindR] at e
    cases e2 : g ρ st1 with
    | err => rw [e2] at e; cases e
    | exc _ _ _ _ => rw [e2] at e; cases e
    | ok as st2 =>
      rw [e2] at e
      cases e
      exact congrArg (· + 1) (h _ _ _ _ e2)
/-- f(k = v, ..) -/
abbrev DK (X : Cx) (W : WX) (es : List Keyword) (f : SA) : Prop := PK X es (tA X.K X.mg W f)
theorem _root_.L2.PK.imp {e : List Keyword} {t t' : TA} (h : PK X e t) (i : ∀ σ H Q, t' σ H Q → t σ H Q) : PK X e t' := ⟨fun p pins s σ H Q I q => h.run p pins s σ H Q I (i σ H Q q)⟩
theorem dk_nil : DK X W [] nilA := pk_nil.imp fun σ H Q ⟨m, ρ, st, he, hs, hp⟩ => hp.ok_now hs .nil
theorem dk_cons {e : Expr} {nm : Option Str} {kpos : Pos} {es : List Keyword} {f : SE} {g : SA} (he : DE X W e f) (hr : DK X W es g) : DK X W (⟨nm, e, kpos⟩ :: es) (consA f g) :=
  (pk_cons he hr).imp fun σ H Q ⟨m, ρ, st, he, hs, hp⟩ => ⟨m, ρ, st, he, hs, (Post.bind hp).mono fun x H1 ⟨m1, a, st1, s1, t1, r1, p1⟩ => ⟨m1, ρ, st1, he.step s1, t1, (Post.bind p1).mono fun xs H2 ⟨m2, as, st2, s2, t2, r2, p2⟩ => p2.ok_now t2 (.cons (r1.step s2) r2)⟩⟩
structure KB (K : PySem.W.Frag) (fd : FuncData) (ps ks : List Str) (g : {α : Type} → List α → List α) : Prop where
  to : ∀ (s : Shared) (ws : List Value), ws.length = ks.length → BindsTo s fd ⟨[], ks.zip ws⟩ (ps.zip (g ws))
  rel : ∀ {zs : List V} {ws : List Value}, zs.length = ks.length → Vals zs ws → Vals (g zs) (g ws)
  len : ∀ {α : Type} (ws : List α), ws.length = ks.length → (g ws).length = ps.length
  rep : ∀ {K : PySem.W.Frag} {mg : Str → Option Value} {m : Mp} {H : Hp} {zs : List V} {ws : List Val}, zs.length = ks.length → RepVs K mg m H zs ws → RepVs K mg m H (g zs) (g ws)
def callK (g : {α : Type} → List α → List α) (F : List Val → Store → R Val) (fs : SA) : SE := fun ρ st => bindR (fs ρ st) fun as st => noX (F (g as) st)
def tCallK0 (n : Nat) (sp : Sp) (gV : List V → List V) (E : XK) (tk : TA) : TE := fun σ H Q => tk σ H fun zs H2 => zs.length = n ∧ sp (gV zs) H2 Q E
theorem pe_callK0 {CX : CXT} {k : Nat} {f : Addr} {fd : FuncData} {ps ks : List Str} {sp : Sp} {E : XK} {x : Str} {p pos : Pos} {kws : List Keyword} {tk : TA} {g : {α : Type} → List α → List α} (F : FnG X.prog X.w X.K X.mg X.base CX k f fd ps sp) (hr : Room k X.A) (hgd : X.A.guards = some []) (hg : Gl X x) (hm : X.mg x = some (.ref f)) (hk : PySem.W.keepIn X.K (.ref f) = true) (hb : KB X.K fd ps ks g) (hx : Passes CX X E)
    (hkw : PK X kws tk) (hall : (backToKw pos (keywordEach kws X.env)).all (·.1.isSome) = true := by rfl) (hks : (backToKw pos (keywordEach kws X.env)).filterMap (·.1) = ks := by rfl)
    (hdb : (x == ("__debug__" : Str)) = false := by decide)
    (hpl : ((backTo pos (starEach [] X.env)).any (·.1) || (backToKw pos (keywordEach kws X.env)).any (·.1.isNone)) = false := by rfl) :
    PE X (.Call (.Name x p) [] kws pos) (tCallK0 ks.length sp g E tk) := by
  refine ⟨fun pins s σ H Q I h => ?_⟩
  refine wpAny_Call_Name_kw (ld_glob I hg hm ?_ hdb)
  refine PySem.W.callWith_KW0 (h₀ := X.base) I.ok.mod.kin hk hall ?_ hpl
  refine thn (hkw.run pos pins s σ H _ I h) fun ws s2 ⟨zs, H2, I2, rz, l2, q2⟩ => ⟨I2.kIn, ?_⟩
  rw [hks]
  have lw : ws.length = ks.length := rz.length.symm.trans l2
  exact wpAny_call (codeAny_mono (run_g F hr hgd (us := g ws) (hb.to s2 ws lw) hx I2 (hb.rel l2 rz) q2) fun res s' z => z)
theorem de_callK {F : List Val → Store → R Val} {fs : SA} {k : Nat} {f : Addr} {fd : FuncData} {ps ks : List Str} {x : Str} {p pos : Pos} {kws : List Keyword} {g : {α : Type} → List α → List α} (F0 : FnD X.prog X.w X.K X.mg X.base k f fd ps F) (hr : Room k X.A) (hgd : X.A.guards = some []) (hg : Gl X x) (hm : X.mg x = some (.ref f)) (hk : PySem.W.keepIn X.K (.ref f) = true) (hb : KB X.K fd ps ks g) (ha : DK X W kws fs) (hl : ∀ ρ st as st', fs ρ st = .ok as st' → as.length = ks.length)
    (hall : (backToKw pos (keywordEach kws X.env)).all (·.1.isSome) = true := by rfl) (hks : (backToKw pos (keywordEach kws X.env)).filterMap (·.1) = ks := by rfl)
    (hdb : (x == ("__debug__" : Str)) = false := by decide)
    (hpl : ((backTo pos (starEach [] X.env)).any (·.1) || (backToKw pos (keywordEach kws X.env)).any (·.1.isNone)) = false := by rfl) :
    DE X W (.Call (.Name x p) [] kws pos) (callK g F fs) := (pe_callK0 (E := E0) F0 hr hgd hg hm hk hb pass0 ha hall hks hdb hpl).imp fun σ H Q ⟨m, ρ, st, he, hs, hp⟩ => by
  refine ⟨m, ρ, st, he, hs, ?_⟩
  cases ea : fs ρ st with
  | err => simp only [callK, ea] at hp; exact hp.elim
  | exc c ns vs st' => simp only [callK, ea] at hp; exact hp
  | ok as st' =>
    simp only [callK, ea, bindR] at hp
    intro m1 H1 vs s1 t1 r1
    have l1 : vs.length = ks.length := by rw [r1.length]; exact hl _ _ _ _ ea
    have r2 := hb.rep l1 r1
    refine ⟨l1, ?_, m1, st', g as, t1, r2, noX_of (Post.step s1 hp)⟩
    exact hb.len vs l1
end
end DL
end

section
set_option Elab.async false
set_option linter.all false
set_option autoImplicit false
set_option maxRecDepth 100000
set_option maxHeartbeats 2000000
/-! EX1: exceptions of the program's own, below Exception, whose __init__ says super().__init__(f) and self.f = f: what the call makes. -/
namespace EX
open PySem PySem.ESX PySem.Calls PyProof.Rows
/-- classes of the program's own, then Exception's line -/
def ownEx : List Value → Bool
  | .ref _ :: r => ownEx r
  | [.type "Exception", .type "BaseException", .type "object"] => true
  | _ => false
theorem ownEx_cases : ∀ l : List Value, ownEx l = true → (∃ c r, l = .ref c :: r ∧ ownEx r = true) ∨ l = exTail := fun l h => by
  unfold ownEx at h
  split at h
  · exact .inl ⟨_, _, rfl, h⟩
  · exact .inr rfl
  · cases h
theorem ownEx_ind {P : List Value → Prop} (h0 : P exTail) (h1 : ∀ c r, ownEx r = true → P r → P (.ref c :: r)) : ∀ l : List Value, ownEx l = true → P l
  | [], h => by cases h
  | v :: r, h => by
    rcases ownEx_cases _ h with ⟨c, r', e, hr⟩ | e
    · cases e
      exact h1 c r hr (ownEx_ind h0 h1 r hr)
    · rw [e]
      exact h0
theorem ownEx_pass (self : Value) (l : List Value) (h : ownEx l = true) : refuseLoop self "__setattr__" l = pure () :=
  ownEx_ind (P := fun l => refuseLoop self "__setattr__" l = pure ()) (F.store_Exception.passes _) (fun c r _ ih => (refuseLoop_ref self _ c r).trans ih) l h
theorem ownEx_contains (X : String) (l : List Value) (h : ownEx l = true) : l.contains (.type X) = exTail.contains (.type X) :=
  ownEx_ind (P := fun l => l.contains (.type X) = exTail.contains (.type X)) rfl (fun c r _ ih => by
    rw [List.contains_cons, ih]
    show (false || _) = _
    rw [Bool.false_or]) l h
theorem ownEx_ne {l : List Value} (h : ownEx l = true) : l.isEmpty = false :=
  ownEx_ind (P := fun l => l.isEmpty = false) rfl (fun c r _ ih => rfl) l h
section
variable {prog : Program} {w : World} {A : Around} {E : Value → Shared → Prop} {R : Result → Shared → Prop} {hp : Heap} {g : Array GenState} {d : Drawn} {t : Nat} {os : OsState}
/-- self.f = v on an exception without a dict -/
theorem osa_first {K : W.Frag} {name : Str} {tk : Tok} {v : Value} {x C : Addr} {fv : Array Value} {cd : ClassData}
    (X : K.In hp) (hx : hp.get? x = some { cls := .ref C, data := .fields fv }) (hcd : W.clsIn K C = some cd) (hm : ownEx cd.mro = true) (hh : cd.hasDict = true) (ha : W.findIn K (.ref C) name = some none)
    (hq : ∀ h' tk' dx, (∀ b o, b ≠ x → hp.get? b = some o → h'.get? b = some o) → hp.objs.size ≤ dx → dx ≠ x → h'.get? x = some { cls := .ref C, dict := some dx, data := .fields fv } →
      h'.Ns1 dx (fun y => if y = name then some v else none) → R (.ok (.ret .none)) ⟨h', g, d, tk', os⟩) :
    codeAny (model prog w) A (.call (.builtin "object.__setattr__") ⟨[.ref x, .str name tk, v], []⟩) R ⟨hp, g, d, t, os⟩ := by
  have inst : W.InstAt hp x { cls := .ref C, data := .fields fv } C none := ⟨hx, rfl, rfl, trivial⟩
  have store := F.store_object
  have apart : x ≠ hp.objs.size := Nat.ne_of_lt (Heap.lt_size hx)
  have isObj : W.mroIn K C (.type "object") = some true := by
    unfold W.mroIn
    rw [hcd, Option.bind_some, if_neg (by rw [ownEx_ne hm]; decide), ownEx_contains "object" _ hm]
    decide +kernel
  have sub : W.Looks (model prog w) hp (isInstance (.ref x) (.type "object")) true := inst.type.andThen (W.looks_mroIn X isObj)
  refine codeAny_call_builtin store.slot.plain store.entry (@W.check_slot (model prog w) _ _ ⟨hp, g, d, t, os⟩ "object.__setattr__" "object" "__setattr__" (.ref x) [.str name tk, v] [] _ store.kind store.split sub (store.args (.ref x) (.str name tk) v) ?_)
  have line : W.Looks (model prog w) hp (mroOf (.ref C)) cd.mro := (W.looks_clsIn X hcd).andThen .now
  have taker : W.Looks (model prog w) hp (Builtin.ObjectAttr.storeTaker? none) none := .now
  have data : W.Looks (model prog w) hp (classData C) cd := W.looks_clsIn X hcd
  rw [W.osa_eq, refuse_eq]
  refine wpAny_bind (wpAny_bind (inst.type.at (wpAny_bind (line.at ?_))))
  rw [ownEx_pass _ _ hm]
  refine wpAny_pure (wpAny_bind (inst.type.at (wpAny_bind ((W.looks_findIn X ha).at (wpAny_bind (taker.at ?_))))))
  show wpAny _ _ (Builtin.ObjectAttr.storeInOwnDict (.ref x) (.ref C) (.str name tk) name v false) _ _ _
  obtain ⟨nm, bs, mro, ns, qn, hd, sn, sb, ab, col, del⟩ := cd
  dsimp only at hh
  subst hh
  unfold Builtin.ObjectAttr.storeInOwnDict Builtin.ObjectAttr.ownDictForStores
  repeat (first | with_reducible refine HandSPX.store_in_new ?_ ?_ | with_reducible refine wpAny_loadPart_at hx ?_ | with_reducible refine data.at ?_ | wp_step)
  · exact ⟨_, #[], _, (Heap.get?_update_ne _ _ _ _ apart.symm).trans (Heap.get?_push_at rfl rfl), rfl, fun e he => absurd he (by simp), fun _ => rfl⟩
  · intro h' tk' space same
    have pushed : (hp.push { cls := .type "dict", data := .dict #[] }).get? x = some { cls := .ref C, data := .fields fv } := Heap.get?_push_of_some _ hx
    refine hq h' tk' hp.objs.size (fun b o hb ho => ?_) (Nat.le_refl _) apart.symm ?_ space
    · exact (same.2 b (Nat.ne_of_lt (Heap.lt_size ho))).trans ((Heap.get?_update_ne _ _ _ _ hb).trans (Heap.get?_push_of_some _ ho))
    · exact (same.2 x apart).trans (Heap.get?_update_self _ pushed rfl)
end
end EX
end

section
set_option Elab.async false
set_option linter.all false
set_option autoImplicit false
set_option maxRecDepth 100000
set_option maxHeartbeats 2000000
/-! EX2: such an __init__, run. -/
namespace EX
open PySem PySem.ESX PySem.Calls PyProof.Rows PySem.W
/-- what the text says of the class and its __init__ -/
structure SupC (prog : Program) (K : Frag) (C fI : Addr) (scope : Scope) (body : List Stmt) : Prop where
  cls : ∃ nm q N bs bm sn sub ab col dd k0 k1 k2 k3 k5, K.lookup C = some (excClassObj nm q C N bs bm true sn sub ab col dd k0 k1 k2 k3 k5 "Exception.__new__") ∧ ownEx bm = true
  sa : findIn K (.ref C) "__setattr__" = some (some (.builtin "object.__setattr__"))
  exC : subIn K (.ref C) (.type "BaseException") = some true
  exE : subIn K (.ref C) (.type "Exception") = some true
  tyC : typeIn K (.ref C) = some (.type "type")
  kC : keepIn K (.ref C) = true
  ini : findIn K (.ref C) "__init__" = some (some (.ref fI))
  tI : typeIn K (.ref fI) = some (.type "function")
  fn : ∃ qual params dV kV doc pm an cda ct cc oc od osl, K.lookup fI = some ⟨oc, od, .func (ksFn "__init__" qual params body scope dV kV doc pm an (.ref cda) ct cc), osl⟩ ∧ codeIn K (.ref cda) qual = true ∧
    (∃ ccl cdd vs ccs file tf, K.lookup cda = some ⟨ccl, cdd, .fields vs, ccs⟩ ∧ vs[2]? = some (.str file tf) ∧ ((prog.main.file : Str) == file) = true) ∧ (∃ cl cld csl, K.lookup cc = some ⟨cl, cld, .cell (some (.ref C)), csl⟩) ∧
    (params.posonlyargs ++ params.args).head?.map (·.arg) = some "self" ∧
    ∀ (u v : Value) (s : Shared), BindsTo s (ksFn "__init__" qual params body scope dV kV doc pm an (.ref cda) ct cc) ⟨[u, v], []⟩ [("self", u), ("at", v)]
  sup : ks_superIn K C C "__init__" = some (some (.builtin "Exception.__init__"))
  any : nsIn K cStatics "thirdparty.any" = some none
  sub : mroIn K C (.ref C) = some true
  at_ : findIn K (.ref C) "at" = some none
  top : (prog.main.scope.names.lookup ("super" : Str)).isSome = false
/-- def __init__(self, at): super().__init__(at); self.at = at -/
structure SupBody (scope : Scope) (body : List Stmt) : Prop where
  body : ∃ p0 p1 p2 p3 p4 p5 p6 p7 p8 p9, body = [.Expr (.Call (.Attribute (.Call (.Name "super" p0) [] [] p1) "__init__" p2) [.Name "at" p3] [] p4) p5, .Assign [.Attribute (.Name "self" p6) "at" p7] (.Name "at" p8) p9] ∧
    (∀ env : Env, ∃ pl : Sem Bool, eval (.Call (.Attribute (.Call (.Name "super" p0) [] [] p1) "__init__" p2) [.Name "at" p3] [] p4) env = (do
      let ov ← attributeBase (.Call (.Name "super" p0) [] [] p1) "__init__" env (eval (.Call (.Name "super" p0) [] [] p1) env)
      standAt p2.atName
      let (f, first) ← holding [ov] (getMethod ov "__init__" pl)
      callWith p4 f first (backTo p4 (starEach [.Name "at" p3] env)) [])) ∧
    (∀ env : Env, swapsWith (.Call (.Attribute (.Call (.Name "super" p0) [] [] p1) "__init__" p2) [.Name "at" p3] [] p4) none p5.line env = pure false) ∧
    (∀ env : Env, swapsWith (.Name "at" p8) (some (.Attribute (.Name "self" p6) "at" p7)) p9.line env = pure false)
  kind : scope.kind = .function
  co : scope.isCoroutine = false
  gen : scope.isGenerator = false
  nocell : ∀ x ∈ scope.names, x.2 ≠ .cell
  self_ : scope.names.lookup ("self" : Str) = some .local
  at_ : scope.names.lookup ("at" : Str) = some .local
  sup : scope.names.lookup ("super" : Str) = some .globalImplicit
  cls : scope.names.lookup ("__class__" : Str) = some .free
section
variable {prog : Program} {w : World} {A : Around} {E : Value → Shared → Prop} {R : Result → Shared → Prop} {hp : Heap} {g : Array GenState} {d : Drawn} {t : Nat} {os : OsState} {K : Frag} {mg : Str → Option Value} {C fI e t0 : Addr} {scope : Scope} {body : List Stmt} {u : Value}
theorem init_sup (S : SupC prog K C fI scope body) (B : SupBody scope body) (X : K.In hp) (hmg : hp.Ns mainGlobals mg) (hsup : mg "super" = none) (hb : ∃ mb, hp.Ns builtinsNs mb ∧ ∀ x : Str, x ≠ "__name__" → mb x = bootBuiltins x) (hlim : hp.NoLimit) (hroom : A.depth < recursionLimit)
    (he : hp.get? e = some (HandSPX.excO C t0)) (heK : ∀ o, K.lookup e ≠ some o)
    (hq : ∀ h' tk' dx t1, (∀ b o, b ≠ e → hp.get? b = some o → h'.get? b = some o) → hp.objs.size ≤ dx → dx ≠ e → h'.get? e = some ({ cls := .ref C, dict := some dx, data := .fields #[.ref t1, .none, .none, .none, .bool false, .none] } : Obj) →
      h'.Ns1 dx (fun z => if z = ("at" : Str) then some u else none) → R (.ok (.ret .none)) ⟨h', g, d, tk', os⟩) :
    codeAny (model prog w) A (.call (.ref fI) ⟨[.ref e, u], []⟩) R ⟨hp, g, d, t, os⟩ := by
  obtain ⟨qual, params, dV, kV, doc, pm, an, cda, ct, cc, oc, od, osl, lk, hcd, ⟨ccl, cdd, vs, ccs, file, tf, lcode, hvs, hfile⟩, ⟨cl, cld, csl, lcell⟩, hself, hbind⟩ := S.fn
  obtain ⟨nm, qn, N, bs, bm, sn, sub, ab, col, dd, k0, k1, k2, k3, k5, hC, hbm⟩ := S.cls
  obtain ⟨p0, p1, p2, p3, p4, p5, p6, p7, p8, p9, rfl, heval, hsw1, hsw2⟩ := B.body
  obtain ⟨mb, hbn, hbb⟩ := hb
  have clsK : clsIn K C = some { name := nm, bases := bs, mro := .ref C :: bm, ns := N, qualname := qn, hasDict := true, slotNames := sn, subclasses := sub, abstract := ab, collection := col, hasDel := false } := by unfold clsIn; rw [hC] <;> rfl
  obtain ⟨ar, har, earn⟩ : ∃ ar, (params.posonlyargs ++ params.args).head? = some ar ∧ ar.arg = "self" := by
    cases q : (params.posonlyargs ++ params.args).head? with
    | none => rw [q] at hself; cases hself
    | some ar => rw [q] at hself; exact ⟨ar, rfl, Option.some.inj hself⟩
  refine ks_codeAny_call_defAt (fd := ksFn "__init__" qual params _ scope dV kV doc pm an (.ref cda) ct cc) (binds := [("self", .ref e), ("at", u)]) hroom (X _ _ lk) rfl hlim (codeRec_of X hcd) rfl (hbind _ _ _) B.nocell (fun y hy => ?_) (fun h₁ hns hk => ?_) B.co B.gen B.kind
  · rcases List.mem_cons.mp hy with e1 | hy
    · rw [e1]; exact B.self_
    · rw [List.mem_singleton.mp hy]; exact B.at_
  have X1 : K.In h₁ := X.keeps hk
  have fresh : ∀ {b : Addr} {o : Obj}, hp.get? b = some o → b ≠ hp.objs.size := fun {b o} z => Nat.ne_of_lt (Heap.lt_size z)
  generalize henv : callEnv (ksFn "__init__" qual params _ scope dV kV doc pm an (.ref cda) ct cc) hp.objs.size fI = env
  have esc : env.scope = scope := by rw [← henv]; rfl
  have elo : env.locals = hp.objs.size := by rw [← henv]; rfl
  have hns' : h₁.Ns env.locals (fun x => [(("self" : Str), Value.ref e), ("at", u)].reverse.lookup x) := by rw [elo]; exact hns
  have kself : env.kindOf "self" = some .local := by show env.scope.names.lookup _ = _; rw [esc]; exact B.self_
  have kat : env.kindOf "at" = some .local := by show env.scope.names.lookup _ = _; rw [esc]; exact B.at_
  have ksup : env.kindOf "super" = some .globalImplicit := by show env.scope.names.lookup _ = _; rw [esc]; exact B.sup
  have kcls : env.kindOf "__class__" = some .free := by show env.scope.names.lookup _ = _; rw [esc]; exact B.cls
  have kk : env.scope.kind = .function := by rw [esc]; exact B.kind
  have ecell : env.cells.lookup ("__class__" : Str) = some cc := by rw [← henv]; rfl
  have eglob : env.globals = mainGlobals := by rw [← henv]; rfl
  have eblt : env.builtins = builtinsNs := by rw [← henv]; rfl
  have eint : interactive env = false := by simp [interactive, kk]
  have he1 : h₁.get? e = some (HandSPX.excO C t0) := hk _ _ he
  have hC1 := X1 _ _ hC
  have xC : e ≠ C := fun z => by
    rw [z, hC1] at he1
    cases he1
  obtain ⟨pl, hpl⟩ := heval env
  refine ks_wpAt_execs_cons (ks_wpAt_Expr_any (ks_wpAt_MethodCall (pl := pl) ?call hpl) eint (hsw1 env))
  refine ks_wpAt_super_base (f := fI) ksup kcls rfl (by rw [← henv]; rfl) (X1 _ _ lk) rfl har (by rw [← henv]; rfl) (X1 _ _ lcode) rfl hvs hfile S.top ?_
  refine ks_loadName_global kk ksup (loadGlobal_builtin (by rw [eglob]; exact hmg.keeps hk) hsup (by rw [eblt]; exact hbn.keeps hk) ((hbb _ (by decide +kernel)).trans (show bootBuiltins "super" = some (.type "super") by decide +kernel)) ⟨rfl, ?_⟩)
  refine wpAny_loadName_free kk kcls ecell ⟨_, X1 _ _ lcell, rfl⟩ ?_
  rw [earn]
  refine wpAny_loadName_local kk kself hns' rfl ?_
  refine ks_wpAny_isType_cls hC1 rfl ⟨rfl, ?_⟩
  refine ks_wpAny_call_super hC1 rfl he1 rfl (fun c => nofun) (looks_mroIn X1 S.sub) (fun h2 hso k2 => ?_)
  have X2 : K.In h2 := X1.keeps k2
  have he2 := k2 _ _ he1
  have inst2 : InstAt h2 e (HandSPX.excO C t0) C none := ⟨he2, rfl, rfl, trivial⟩
  have sup := S.sup
  unfold ks_superIn at sup
  rw [clsK, Option.bind_some] at sup
  refine kxs_getMethod kxs_Exception hso (looks_opaque X2 S.any) (l₀ := .ref C :: bm) (fun A Q E s k q => wpAny_bind ((looks_clsIn X2 clsK) A _ E s k (wpAny_pure q))) rfl X2 sup (inst2.type.andThen (looks_subIn X2 S.exE)) xC rfl ?_
  have he3 : (h2.push (kxs_mw "Exception.__init__" e)).get? e = some (HandSPX.excO C t0) := Heap.get?_push_of_some _ he2
  have hC3 : (h2.push (kxs_mw "Exception.__init__" e)).get? C = some _ := Heap.get?_push_of_some _ (X2 _ _ hC)
  refine kxs_callWith (i := "Exception.__init__") (x := e) rfl (evalArgs_plain (spliced_cons ?_))
  have hns3 : (h2.push (kxs_mw "Exception.__init__" e)).Ns env.locals (fun x => [(("self" : Str), Value.ref e), ("at", u)].reverse.lookup x) := (hns'.keeps k2).keeps fun b o z => Heap.get?_push_of_some _ z
  refine ldL (env := env) hns3 rfl ?_ kk kat
  show wpAny _ _ (spliced []) _ _ _
  refine spliced_nil ⟨Heap.get?_push_at rfl rfl, ?_⟩
  refine call_bw hC3 he3 (Heap.get?_push_at rfl rfl) (by show 1 ≤ sizeLine; decide) fun h4 t1 k4 he4 => ?_
  show PySem.wpAt _ _ _ (execs _ env) _ _ _
  have k14 : ∀ b o, b ≠ e → h₁.get? b = some o → h4.get? b = some o := fun b o n z => k4 b o n (Heap.get?_push_of_some _ (k2 _ _ z))
  have X4 : K.In h4 := fun b o z => k14 b o (fun y => heK o (by rw [← y]; exact z)) (X1 _ _ z)
  have eL : env.locals ≠ e := fun z => by
    obtain ⟨oL, es, ep, e1, e2, _⟩ := hns'
    rw [z, he1] at e1
    cases e1
    cases e2
  have hns4 : h4.Ns env.locals (fun x => [(("self" : Str), Value.ref e), ("at", u)].reverse.lookup x) := hns'.at fun o z => k14 _ o eL z
  refine ks_wpAt_execs_cons (wpAt_of_wpAny (plainObj_wpAny_Assign_Attribute ?_ (hsw2 env)))
  refine ldL (env := env) hns4 rfl ?_ kk kat
  refine ldL (env := env) hns4 rfl ?_ kk kself
  refine set_plain X4 (ox := HandSPX.excO C t1) (od := none) ⟨he4, rfl, rfl, trivial⟩ S.sa ?_
  refine osa_first X4 he4 clsK (show ownEx (.ref C :: bm) = true from hbm) rfl S.at_ fun h5 tk' dx k5' dle dne he5 hdx => ?_
  show PySem.wpAt _ _ _ (execs [] env) _ _ _
  refine wpAt_of_wpAny (wpAny_execs_nil ?_)
  refine hq h5 tk' dx t1 (fun b o n z => k5' b o n (k14 b o n (hk _ _ z))) ?_ dne he5 hdx
  obtain ⟨oL, es, ep, eL4, _⟩ := hns4
  have := Heap.lt_size eL4
  rw [elo] at this
  exact Nat.le_trans (Nat.le_of_lt this) dle
end
end EX
end

section
set_option Elab.async false
set_option linter.all false
set_option autoImplicit false
set_option maxRecDepth 100000
set_option maxHeartbeats 2000000
/-! EX3: C(e), C such a class, as what a raise raises. -/
namespace EX
open PySem PySem.Spec PyProof.Rows L2
section
variable {X : Cx} {pins : List (Addr × Obj)} {σ : L2.St} {H : Hp} {s : Shared} {a C dx : Addr} {f : Str} {y : V} {u : Value}
/-- the exception has got its dict -/
theorem exo_full {h' : Heap} {t1 : Addr} (I : Inv X pins σ H s) (e : H a = some (exo a C none)) (ry : RelV y u) (k : ∀ b o, b ≠ a → s.heap.get? b = some o → h'.get? b = some o) (dn : s.heap.objs.size ≤ dx) (dne : dx ≠ a)
    (hx : h'.get? a = some ({ cls := .ref C, dict := some dx, data := .fields #[.ref t1, .none, .none, .none, .bool false, .none] } : Obj)) (hn : h'.Ns1 dx (fun z => if z = f then some u else none)) (fs : List Addr) :
    Un fs [] H (upd (upd H dx (exd dx [(f, y)])) a (exo a C (some dx))) s.heap h' ∧ HOk X.prog X.w (upd (upd H dx (exd dx [(f, y)])) a (exo a C (some dx))) h' := by
  have hnd : H dx = none := I.hok.fresh dn
  have nd : ∀ {b : Addr} {o : Obj}, s.heap.get? b = some o → b ≠ dx := fun {b o} q => Nat.ne_of_lt (Nat.lt_of_lt_of_le (Heap.lt_size q) dn)
  have na : ∀ {b : Addr}, H b = none → b ≠ a := fun {b} n z => by
    rw [z, e] at n
    cases n
  have other : ∀ {b : Addr} {o : HO}, H b = some o → b ≠ a → upd (upd H dx (exd dx [(f, y)])) a (exo a C (some dx)) b = some o := fun {b o} q n => by rw [upd_ne n, upd_ne (ne_of_none q hnd)]; exact q
  refine ⟨?_, fun b o q => ?_⟩
  · exact {
      keep := fun b o q n _ _ => k b o (na n) q
      slot := fun b o q n _ _ => ⟨o.slots, k b o (na n) q⟩
      free := fun b o q n _ => by rw [upd_ne (na n), upd_ne (nd q)]; exact n
      there := fun b o q _ => by
        by_cases hb : b = a
        · exact ⟨_, by rw [hb]; exact hx⟩
        · exact ⟨o, k b o hb q⟩
      tups := fun b xs q => other q (at_ne e q exo_tup)
      frzs := fun b o v q => other q (at_ne e q exo_frz)
      tbls := fun b ps q => ⟨#[], by rw [other q (at_ne e q exo_tbl)]; simp⟩ }
  · by_cases hb : b = a
    · subst hb
      rw [upd_same] at q
      cases q
      exact exo_ok hx
    · rw [upd_ne hb] at q
      by_cases hd : b = dx
      · subst hd
        rw [upd_same] at q
        cases q
        exact exd_ok hn (relO_put (fs := []) ry fun g => True.intro)
      · rw [upd_ne hd] at q
        refine (I.hok b o q).stay (fun c v hc z => k c v ?_ z) (fun c hc => other hc (at_ne e hc exo_own)) fun c xs hc => other hc (at_ne e hc exo_tup)
        rcases hc with hc | hc
        · rw [hc]; exact hb
        · exact at_ne e hc exo_own
end
/-- C(e): a new exception; its dict holds the one field -/
def tMkS (C : Addr) (ta : TA) : L2.St → Hp → XK → Prop := fun σ H Q => ta σ H fun vs H1 => ∃ v, vs = [v] ∧ ∀ d, H1 d = none → Q (.ref C) (some d) (upd H1 d (.xd [(("at" : Str), v)]))
section
variable {X : Cx} {e : Expr} {ta : TA} {p pos : Pos} {x : Str} {C fI : Addr} {scope : Scope} {body : List Stmt}
theorem pmk_sup {k : Nat} (S : SupC X.prog X.K C fI scope body) (B : SupBody scope body) (hsup : X.mg "super" = none) (hr : Room (k + 1) X.A) (hg : Gl X x) (hm : X.mg x = some (.ref C)) (ha : PA X [e] ta)
    (hdb : (x == ("__debug__" : Str)) = false := by decide) (he : starEach [e] X.env = (false, eval e X.env) :: starEach [] X.env := by rfl) (hpl : (backTo pos (starEach [] X.env)).any (·.1) = false := by rfl) :
    PMk X (.Call (.Name x p) [e] [] pos) (tMkS C ta) := by
  intro pins s σ H Q I h
  obtain ⟨nm, q, N, bs, bm, sn, sub, ab, col, dd, k0, k1, k2, k3, k5, hC, hbm⟩ := S.cls
  refine wpAny_Call_Name_kw (ld_glob I hg hm (PySem.W.callWith_K (h₀ := X.base) I.ok.mod.kin S.kC (thn (ha.run pos pins s σ H _ I h) fun us s1 got => ?_) he hpl) hdb)
  obtain ⟨vs, H1, I1, r1, v, rfl, q1⟩ := got
  refine ⟨I1.kIn, ?_⟩
  cases r1 with
  | @cons _ u _ us ru rest =>
    cases rest
    show wpAny _ _ (call (.ref C) [u]) _ _ _
    obtain ⟨hp, g, dr, tk, os⟩ := s1
    have kk : ∀ b o, hp.get? b = some o → ((hp.push (PySem.W.kdv_tup [u])).push (PySem.HandSPX.excO C hp.objs.size)).get? b = some o := fun b o z => Heap.get?_push_of_some _ (Heap.get?_push_of_some _ z)
    have hget : ((hp.push (PySem.W.kdv_tup [u])).push (PySem.HandSPX.excO C hp.objs.size)).get? (hp.objs.size + 1) = some (PySem.HandSPX.excO C hp.objs.size) := by heap_get
    have above : hp.objs.size ≤ hp.objs.size + 1 := Nat.le_succ _
    have I2 : Inv X pins σ (upd H1 (hp.objs.size + 1) (exo (hp.objs.size + 1) C none)) ⟨(hp.push (PySem.W.kdv_tup [u])).push (PySem.HandSPX.excO C hp.objs.size), g, dr, tk, os⟩ :=
      I1.laid (t' := tk) (a := hp.objs.size + 1) (o := exo (hp.objs.size + 1) C none) (h' := (hp.push (PySem.W.kdv_tup [u])).push (PySem.HandSPX.excO C hp.objs.size)) kk above (exo_ok hget)
    have X2 := I2.kIn
    have base2 : ∀ b o, X.base.get? b = some o → ((hp.push (PySem.W.kdv_tup [u])).push (PySem.HandSPX.excO C hp.objs.size)).get? b = some o := fun b o z => (I2.env0.bs b o z).1
    have nK : ∀ o, X.K.lookup (hp.objs.size + 1) ≠ some o := fun o z => absurd (Heap.lt_size (I1.kIn _ _ z)) (by show ¬ hp.objs.size + 1 < hp.objs.size; omega)
    obtain ⟨mb, hb1, hb2⟩ := I.ok.mod.blt
    refine wpAny_call (PySem.HandSPX.call_own F.excBase_Exception (fun Y => ownEx_contains Y bm hbm) (I1.kIn _ _ hC) (PySem.W.looks_findIn I1.kIn S.ini) (fun self => PySem.W.bind_fn I1.kIn self S.tI) (by show 1 ≤ sizeLine; decide)
      (init_sup (t0 := hp.objs.size) S B X2 (I.ok.mod.glob.keeps base2) hsup ⟨mb, hb1.keeps base2, hb2⟩ (I.ok.mod.nolimit.keeps base2) (hr.make C [u] []).depth hget nK fun h' tk' dx t1 k' dle dne hx hns => ?_))
    obtain ⟨un, hok⟩ := exo_full (a := hp.objs.size + 1) I2 upd_same ru k' dle dne hx hns (frs X.stack)
    have h1 : H1 dx = none := I1.hok.fresh (Nat.le_trans (by show hp.objs.size ≤ ((hp.push _).push _).objs.size; simp [Heap.push]; omega) dle)
    refine ⟨rfl, mk_end (d2 := dr) (t2 := tk') (Q := Q) (raises_own S.exC S.tyC) I1 above kk un hok (os2 := os) rfl I1.bare upd_same (by rw [upd_ne dne, upd_same]) h1 ?_⟩
    · have : upd (del (upd (upd (upd H1 (hp.objs.size + 1) (exo (hp.objs.size + 1) C none)) dx (exd dx [(("at" : Str), v)])) (hp.objs.size + 1) (exo (hp.objs.size + 1) C (some dx))) (hp.objs.size + 1)) dx (.xd [(("at" : Str), v)]) = upd H1 dx (.xd [(("at" : Str), v)]) := by
        funext b
        by_cases hd : b = dx
        · rw [hd, upd_same, upd_same]
        · rw [upd_ne hd, upd_ne hd]
          by_cases hb : b = hp.objs.size + 1
          · rw [hb, del_same]
            exact (I1.hok.fresh above).symm
          · rw [del_ne hb, upd_ne hb, upd_ne hd, upd_ne hb]
      rw [this]
      exact q1 dx h1
end
end EX
end

section
set_option Elab.async false
set_option linter.all false
set_option autoImplicit false
set_option maxRecDepth 100000
set_option maxHeartbeats 2000000
/-! DL8: exceptions over data. -/
namespace DL
open PySem PySem.Spec PyProof.Rows L2
section
variable {X : Cx} {W : WX} {K : PySem.W.Frag} {mg : Str → Option Value} {m m' : Mp} {H H' : Hp} {st : Store} {σ σ' : L2.St} {ρ ρ' : Env}
/-! ### raise -/
def raiseS (c : Str) (f : SE) : SS := fun ρ st => bindS ρ (f ρ st) fun v st => match v with
  | .d x => .exc ρ c [("at" : Str)] [x] st
  | _ => .err
theorem ds_raise {e : Expr} {p pos rpos : Pos} {x : Str} {C fI : Addr} {scope : Scope} {body : List Stmt} {k : Nat} {f : SE} (hc : X.calm = true) (tk : Takes X W) (S : EX.SupC X.prog X.K C fI scope body) (B : EX.SupBody scope body) (hsup : X.mg "super" = none) (hr : Room (k + 1) X.A) (hg : Gl X x) (hm : X.mg x = some (.ref C)) (he : DE X W e f)
    (hdb : (x == ("__debug__" : Str)) = false := by decide) (hs : starEach [e] X.env = (false, eval e X.env) :: starEach [] X.env := by rfl) (hpl : (backTo pos (starEach [] X.env)).any (·.1) = false := by rfl) :
    DS X W (.Raise (some (.Call (.Name x p) [e] [] pos)) none rpos) (raiseS x f) := by
  have arg : DA X W [e] (consA f nilA) := da_cons he da_nil hs
  refine (ps_raise hc tk (EX.pmk_sup S B hsup hr hg hm arg hdb hs hpl)).imp fun D σ H ⟨m, ρ, st, he, hs, hp⟩ => ⟨m, ρ, st, he, hs, ?_⟩
  have hp' : PostS X.K X.mg m H (bindS ρ (consA f nilA ρ st) fun vs st => match vs with
    | [.d x'] => .exc ρ x [("at" : Str)] [x'] st
    | _ => .err) D W := by
    unfold raiseS at hp
    unfold consA nilA
    cases q : f ρ st with
    | ok a st' =>
      rw [q] at hp
      cases a <;> exact hp
    | exc _ _ _ _ => rw [q] at hp; exact hp
    | err => rw [q] at hp; exact hp
  refine (PostS.bind he hp').mono fun vs H1 ⟨m1, as, st1, s1, t1, r1, p1⟩ => ?_
  cases r1 with
  | nil => exact p1.elim
  | cons r1 r2 => cases r2 with
    | cons => cases r1 <;> exact p1.elim
    | nil => cases r1 with
      | ref => exact p1.elim
      | scr => exact p1.elim
      | d r1 => exact ⟨_, rfl, fun d hd => p1 m1 _ σ (.ref C) (some d) (Step.new hd) (t1.new hd) ((he.step s1).step (Step.new hd)) ⟨hm, d, _, _, rfl, upd_same, t1.fresh hd, rfl, rfl, .cons (r1.step (Step.new hd)) .nil⟩⟩
end
/-! ### defs that raise -/
section
variable {P : Program} {w : World} {K : PySem.W.Frag} {mg : Str → Option Value} {base : Heap} {x qual : Str} {s : Stmt} {f : Addr} {fd : FuncData} {N ps : List Str} {k : Nat} {g : SS}
abbrev FnX (P : Program) (w : World) (K : PySem.W.Frag) (mg : Str → Option Value) (base : Heap) (k : Nat) (f : Addr) (fd : FuncData) (ps : List Str) (F : List Val → Store → R Val) : Prop := FnG P w K mg base (L2.CX P w) k f fd ps (spD K mg ps.length F)
abbrev BodyX (P : Program) (w : World) (K : PySem.W.Frag) (mg : Str → Option Value) (base : Heap) (qual : Str) (s : Stmt) (f : Addr) (N : List Str) (k : Nat) (g : SS) : Prop := ∀ (cdv : Value) (A : Around) (outer : List PySem.Env) (sh : Shared) (H : Hp) (E : XK), Room k (A.deeper (envOfC qual (defScope s) sh.heap.objs.size f cdv)) → A.guards = some [] →
  Takes (cxOf (L2.CX P w) P w K mg base N qual (defScope s) f cdv A outer sh H E) (fun c d _ H => E c d H) → DSs (cxOf (L2.CX P w) P w K mg base N qual (defScope s) f cdv A outer sh H E) (fun c d _ H => E c d H) (defBody s) g
theorem fn_x (F : Fun K x qual s f fd) (S : FnScope N ps (defScope s)) (hb : BodyX P w K mg base qual s f N k g) : FnX P w K mg base (k + 1) f fd ps (funX N.length g) := by
  refine fn_g F S (fun vs H Q E h => h.1) (fun cdv A outer sh H vs Q E hr hg h => ?_)
  obtain ⟨_, m, st, as, t, r, p⟩ := h
  exact ⟨_, hb cdv A outer sh H E hr hg (takes_of rfl rfl rfl rfl), m, _, st, env0_rep r, t, fin_of t p⟩
theorem fn_noneX {f : Addr} {fd : FuncData} : FnX P w K mg base 0 f fd ps (fun _ _ => .err) := by
  have no : ∀ vs H Q E, ¬ spD K mg ps.length (fun _ _ => .err) vs H Q E := fun vs H Q E ⟨_, m, st, as, t, r, p⟩ => p
  exact ⟨fun vs H Q E h => absurd h (no vs H Q E), fun A _ _ outer s H args us vs Q E _ _ _ h => absurd h (no vs H Q E)⟩
end
section
variable {X : Cx} {W : WX} {K : PySem.W.Frag} {mg : Str → Option Value} {m m' : Mp} {H H' : Hp} {st : Store} {σ σ' : L2.St} {ρ ρ' : Env}
theorem run_gS {CX : CXT} {E : XK} {k : Nat} {f : Addr} {fd : FuncData} {ps : List Str} {sp : Sp} {pins : List (Addr × Obj)} {σ : L2.St} {H : Hp} {s : Shared} {Q : VK} {args : Args} {us : List Value} {vs : List V} (F : FnG X.prog X.w X.K X.mg X.base CX k f fd ps sp) (hr : Room k X.A) (hg : X.A.guards = some []) (hb : BindsTo s fd args (ps.zip us)) (hx : PassesAt CX X σ E)
    (I : Inv X pins σ H s) (r : Vals vs us) (h : sp vs H Q E) : codeAny (model X.prog X.w) X.A (.call (.ref f) args) (fun res s' => match res with
      | .ok (.ret u) => EP X pins σ Q u s'
      | .ok _ => False
      | .error e => X.xe e s') s :=
  codeAny_mono (F.run X.A hr hg X.stack s H args us vs Q E I.env0 hb r h) fun res s' ends => by
    cases res with
    | error e => exact hx pins H s e s' I ends
    | ok way => cases way with
      | ret u => exact I.after ends
      | next => exact ends.elim
      | brk => exact ends.elim
      | cont => exact ends.elim
theorem pe_callGS {CX : CXT} {E : L2.St → XK} {k : Nat} {f : Addr} {fd : FuncData} {ps : List Str} {sp : Sp} {x : Str} {p pos : Pos} {e : Expr} {es : List Expr} {t : TA} (F : FnG X.prog X.w X.K X.mg X.base CX k f fd ps sp) (hr : Room k X.A) (hgd : X.A.guards = some []) (hg : Gl X x) (hm : X.mg x = some (.ref f)) (hk : PySem.W.keepIn X.K (.ref f) = true) (hb : Binds X.K fd ps []) (hx : ∀ σ, PassesAt CX X σ (E σ))
    (ha : PA X (e :: es) t) (hdb : (x == ("__debug__" : Str)) = false := by decide) (he : starEach (e :: es) X.env = (false, eval e X.env) :: starEach es X.env := by rfl) (hpl : (backTo pos (starEach es X.env)).any (·.1) = false := by rfl) :
    PE X (.Call (.Name x p) (e :: es) [] pos) (tCallS sp E t) := ⟨fun pins s σ H Q I h => by
  refine wpAny_Call_Name_kw (ld_glob I hg hm (PySem.W.callWith_K (h₀ := X.base) I.ok.mod.kin hk (thn (ha.run pos pins s σ H _ I h) fun us s1 got => ?_) he hpl) hdb)
  obtain ⟨vs, H1, I1, r, q⟩ := got
  refine ⟨I1.kIn, wpAny_call (codeAny_mono (run_gS F hr hgd (us := us) ?_ (hx σ) I1 r q) fun res s' z => z)⟩
  have l := F.len _ _ _ _ q
  have b := hb s1 us I1.kIn (by rw [List.append_nil, ← r.length]; exact l)
  rw [List.append_nil] at b
  exact b⟩
def callX (F : List Val → Store → R Val) (fs : SA) : SE := fun ρ st => bindR (fs ρ st) fun as st => F as st
theorem de_callX {F : List Val → Store → R Val} {fs : SA} {k : Nat} {f : Addr} {fd : FuncData} {ps : List Str} {x : Str} {p pos : Pos} {e : Expr} {es : List Expr} (F0 : FnX X.prog X.w X.K X.mg X.base k f fd ps F) (tk : Takes X W) (hr : Room k X.A) (hgd : X.A.guards = some []) (hg : Gl X x) (hm : X.mg x = some (.ref f)) (hk : PySem.W.keepIn X.K (.ref f) = true) (hb : Binds X.K fd ps []) (ha : DA X W (e :: es) fs) (hl : ∀ ρ st as st', fs ρ st = .ok as st' → as.length = ps.length)
    (hdb : (x == ("__debug__" : Str)) = false := by decide) (he : starEach (e :: es) X.env = (false, eval e X.env) :: starEach es X.env := by rfl) (hpl : (backTo pos (starEach es X.env)).any (·.1) = false := by rfl) :
    DE X W (.Call (.Name x p) (e :: es) [] pos) (callX F fs) := (pe_callGS (E := WE W) F0 hr hgd hg hm hk hb (fun σ => passAt tk σ) ha hdb he hpl).imp fun σ H Q ⟨m, ρ, st, he, hs, hp⟩ => by
  refine ⟨m, ρ, st, he, hs, ?_⟩
  cases ea : fs ρ st with
  | err => simp only [callX, ea] at hp; exact hp.elim
  | exc c ns vs st' => simp only [callX, ea] at hp; exact hp
  | ok as st' =>
    simp only [callX, ea, bindR] at hp
    intro m1 H1 vs s1 t1 r1
    exact ⟨by rw [r1.length]; exact hl _ _ _ _ ea, m1, st', as, t1, r1, Post.step s1 hp⟩
/-- f(k = v, ..), f may raise -/
theorem de_callKX {F : List Val → Store → R Val} {fs : SA} {k : Nat} {f : Addr} {fd : FuncData} {ps ks : List Str} {x : Str} {p pos : Pos} {kws : List Keyword} {g : {α : Type} → List α → List α} (F0 : FnX X.prog X.w X.K X.mg X.base k f fd ps F) (tk : Takes X W) (hr : Room k X.A) (hgd : X.A.guards = some []) (hg : Gl X x) (hm : X.mg x = some (.ref f)) (hk : PySem.W.keepIn X.K (.ref f) = true) (hb : KB X.K fd ps ks g) (ha : DK X W kws fs) (hl : ∀ ρ st as st', fs ρ st = .ok as st' → as.length = ks.length)
    (hall : (backToKw pos (keywordEach kws X.env)).all (·.1.isSome) = true := by rfl) (hks : (backToKw pos (keywordEach kws X.env)).filterMap (·.1) = ks := by rfl)
    (hdb : (x == ("__debug__" : Str)) = false := by decide)
    (hpl : ((backTo pos (starEach [] X.env)).any (·.1) || (backToKw pos (keywordEach kws X.env)).any (·.1.isNone)) = false := by rfl) :
    DE X W (.Call (.Name x p) [] kws pos) (fun ρ st => bindR (fs ρ st) fun as st => F (g as) st) := ⟨fun pins s σ H Q I h => by
  obtain ⟨m, ρ, st, he, hs, hp⟩ := h
  refine wpAny_Call_Name_kw (ld_glob I hg hm (PySem.W.callWith_KW0 (h₀ := X.base) I.ok.mod.kin hk hall ?_ hpl) hdb)
  refine thn (ha.run pos pins s σ H (fun zs H2 => zs.length = ks.length ∧ spD X.K X.mg ps.length F (g zs) H2 Q (WE W σ)) I ⟨m, ρ, st, he, hs, ?_⟩) fun ws s2 got => ?_
  · cases ea : fs ρ st with
    | err => simp only [ea] at hp; exact hp.elim
    | exc c ns vs st' => simp only [ea] at hp; exact hp
    | ok as st' =>
      simp only [ea, bindR] at hp
      intro m1 H1 vs s1 t1 r1
      have l1 : vs.length = ks.length := by rw [r1.length]; exact hl _ _ _ _ ea
      exact ⟨l1, hb.len vs l1, m1, st', g as, t1, hb.rep l1 r1, Post.step s1 hp⟩
  · obtain ⟨zs, H2, I2, rz, l2, q2⟩ := got
    refine ⟨I2.kIn, ?_⟩
    rw [hks]
    exact wpAny_call (codeAny_mono (run_gS F0 hr hgd (us := g ws) (hb.to s2 ws (rz.length.symm.trans l2)) (passAt tk σ) I2 (hb.rel l2 rz) q2) fun res s' z => z)⟩
/-! ### try: .. except X: .. -/
def noXS (r : RS) : RS := match r with
  | .exc _ _ _ _ _ => .err
  | r => r
theorem noXS_of {r : RS} {D : Ends} (h : PostS K mg m H (noXS r) D W) : PostS K mg m H r D WF := by
  cases r with
  | exc => exact h.elim
  | err => exact h.elim
  | nx ρ st => exact h
  | brk ρ st => exact h
  | cnt ρ st => exact h
  | ret v st => exact h
def tryS (sub : Str → Option Bool) (b : SS) (s : Str → List Str → List D → SS) : SS := fun ρ st => match b ρ st with
  | .exc ρ' c ns vs st' => match sub c with
    | some true => noXS (s c ns vs ρ' st')
    | some false => .exc ρ' c ns vs st'
    | none => .err
  | r => r
def tSX (K : PySem.W.Frag) (mg : Str → Option Value) (cls : Value) (d : Option Addr) (s : Str → List Str → List D → SS) : TS := fun D σ H => ∃ m ρ st c ns vs, RepEnv K mg m H σ ρ ∧ RepSt K mg m H st ∧ ExcAt K mg m H cls d c ns vs ∧ PostS K mg m H (s c ns vs ρ st) D WF
theorem ds_tryOnly {x : Str} {c : Value} {body suite : List Stmt} {b₀ : Stmt} {np pos pos' : Pos} {b : SS} {s : SS} {sub : Str → Option Bool} (hs : X.stack = X.env :: X.outer) (hf : X.env.frame = some X.env.locals) (hc : Names X x c) (tk : Takes X W)
    (hsub : ∀ c' cls v, X.mg c' = some cls → sub c' = some v → PySem.W.exmOne X.K cls c = some v)
    (hb : ∀ (W : WX) (pn : List (Addr × Obj)) (xe : Value → Shared → Prop), Takes (X.tr pn xe) W → PassesOwn (model X.prog X.w) X.A X.env xe → DSs (X.tr pn xe) W body b)
    (hsu : ∀ (a : Addr) (oe : Obj) (cls : Value) (d : Option Addr) (pn : List (Addr × Obj)), Zc cls d oe → (∃ vs, oe.data = .fields vs) → DSs (X.suite a ((a, oe) :: pn)) WF (b₀ :: suite) s) :
    DS X W (.Try body [.ExceptHandler (some (.Name x np)) none (b₀ :: suite) pos'] [] [] pos) (tryS sub b fun _ _ _ => s) :=
  (ps_try_only (tb := fun W => tS X.K X.mg W b) (ts := fun _ _ _ => tS X.K X.mg WF s) hs hf hc tk hb hsu).imp fun D σ H ⟨m, ρ, st, he, ht, hp⟩ => by
    refine ⟨m, ρ, st, he, ht, ?_⟩
    unfold tryS at hp
    cases e : b ρ st with
    | nx ρ st => rw [e] at hp; exact hp
    | brk ρ st => rw [e] at hp; exact hp
    | cnt ρ st => rw [e] at hp; exact hp
    | ret v st => rw [e] at hp; exact hp
    | err => rw [e] at hp; exact hp.elim
    | exc ρ' c' ns vs st' =>
      rw [e] at hp
      intro m1 H1 σ1 cls d s1 t1 e1 x1
      simp only at hp
      cases q : sub c' with
      | none => rw [q] at hp; exact hp.elim
      | some v =>
        refine ⟨v, hsub _ _ _ x1.1 q, fun hv a ha => ?_, fun hv => ?_⟩
        · rw [q, hv] at hp
          exact ⟨m1, ρ', st', e1, t1, noXS_of (PostS.step s1 hp)⟩
        · rw [q, hv] at hp
          exact hp m1 H1 σ1 cls d s1 t1 e1 x1
end
end DL
end

section
set_option Elab.async false
set_option linter.all false
set_option autoImplicit false
set_option maxRecDepth 100000
set_option maxHeartbeats 2000000
/-! DL9: instances, built-ins, methods over data. -/
namespace DL
open PySem PySem.Spec PyProof.Rows L2
section
variable {X : Cx} {W : WX} {K : PySem.W.Frag} {mg : Str → Option Value} {m m' : Mp} {H H' : Hp} {st : Store} {σ σ' : L2.St} {ρ ρ' : Env}
/-! ### built-ins by values -/
def bltE (g : List Val → Store → R Val) (fs : SA) : SE := fun ρ st => bindR (fs ρ st) fun as st => g as st
def CallD (K : PySem.W.Frag) (mg : Str → Option Value) (r : List V → Hp → VK → Prop) (g : List Val → Store → R Val) : Prop := ∀ (m : Mp) (H : Hp) (st : Store) (vs : List V) (as : List Val) (Q : VK) (E : XK), RepSt K mg m H st → RepVs K mg m H vs as → Post K mg m H (g as st) (AV K mg) Q E → r vs H Q
theorem tCB_of {r : List V → Hp → VK → Prop} {g : List Val → Store → R Val} {fs : SA} (hd : CallD K mg r g) (σ : L2.St) (H : Hp) (Q : VK) (h : tE K mg W (bltE g fs) σ H Q) : tCB r (tA K mg W fs) σ H Q := by
  obtain ⟨m, ρ, st, he, hs, hp⟩ := h
  exact ⟨m, ρ, st, he, hs, (Post.bind hp).mono fun vs H1 ⟨m1, as, st1, s1, t1, r1, p1⟩ => hd m1 H1 st1 vs as Q _ t1 r1 p1⟩
theorem de_blt {x : Str} {p pos : Pos} {e : Expr} {es : List Expr} {id : String} {r : List V → Hp → VK → Prop} {g : List Val → Store → R Val} {fs : SA} (hc : CallR X (.builtin id) r) (hd : CallD X.K X.mg r g) (hg : Gl X x) (hm : X.mg x = none) (hv : bootBuiltins x = some (.builtin id)) (ha : DA X W (e :: es) fs) (hn : x ≠ "__name__" := by decide) (hdb : (x == ("__debug__" : Str)) = false := by decide)
    (he : starEach (e :: es) X.env = (false, eval e X.env) :: starEach es X.env := by rfl) (hpl : (backTo pos (starEach es X.env)).any (·.1) = false := by rfl) : DE X W (.Call (.Name x p) (e :: es) [] pos) (bltE g fs) := (pe_callB hc hg hm hv ha hn hdb he hpl).imp fun σ H Q h => tCB_of hd σ H Q h
theorem de_ty {x : Str} {p pos : Pos} {e : Expr} {es : List Expr} {T : String} {r : List V → Hp → VK → Prop} {g : List Val → Store → R Val} {fs : SA} (hc : CallR X (.type T) r) (hd : CallD X.K X.mg r g) (hg : Gl X x) (hm : X.mg x = none) (hv : bootBuiltins x = some (.type T)) (ha : DA X W (e :: es) fs) (hn : x ≠ "__name__" := by decide) (hdb : (x == ("__debug__" : Str)) = false := by decide)
    (he : starEach (e :: es) X.env = (false, eval e X.env) :: starEach es X.env := by rfl) (hpl : (backTo pos (starEach es X.env)).any (·.1) = false := by rfl) : DE X W (.Call (.Name x p) (e :: es) [] pos) (bltE g fs) := (pe_callTy hc hg hm hv ha hn hdb he hpl).imp fun σ H Q h => tCB_of hd σ H Q h
/-- one argument -/
def one (g : Val → Store → R Val) : List Val → Store → R Val := fun as st => match as with
  | [a] => g a st
  | _ => .err
theorem CallD.one {r : List V → Hp → VK → Prop} {g : Val → Store → R Val} (h : ∀ (m : Mp) (H : Hp) (st : Store) (x : V) (a : Val) (Q : VK) (E : XK), RepSt K mg m H st → RepV K mg m H x a → Post K mg m H (g a st) (AV K mg) Q E → r [x] H Q) : CallD K mg r (DL.one g) := by
  intro m H st vs as Q E t rs hp
  cases rs with
  | nil => exact hp.elim
  | cons r1 r2 => cases r2 with
    | nil => exact h m H st _ _ Q E t r1 hp
    | cons => exact hp.elim
def lenV (a : Val) (st : Store) : R Val := match a with
  | .d (.str z) => if z.length ≤ sizeLine then .ok (.d (.int z.length)) st else .err
  | a => match valsOf st a with
    | some xs => .ok (.d (.int xs.length)) st
    | none => .err
theorem cd_len : CallD K mg (fun xs H Q => ∃ x n, xs = [x] ∧ LenV K x H n ∧ Q (.int n) H) (one lenV) := CallD.one fun m H st x a Q E t r hp => by
  unfold lenV at hp
  split at hp
  · cases r with
    | d r =>
      cases r
      split at hp
      · rename_i c; exact ⟨_, _, rfl, ⟨c, rfl⟩, hp.ok_now t (.d (.int _))⟩
      · exact hp.elim
  · split at hp
    · rename_i xs e
      obtain ⟨p, vs, rfl, hq, rv⟩ := valsOf_at t r e
      have q := hp.ok_now t (.d (.int _))
      rw [← rv.length] at q
      rcases hq with hq | hq
      · exact ⟨_, _, rfl, .inl ⟨vs, hq, rfl⟩, q⟩
      · exact ⟨_, _, rfl, .inr ⟨vs, hq, rfl⟩, q⟩
    · exact hp.elim
def absV (a : Val) (st : Store) : R Val := match a with
  | .d (.int i) => .ok (.d (.int (if i < 0 then -i else i))) st
  | _ => .err
theorem cd_abs : CallD K mg (fun xs H Q => ∃ i, xs = [.int i] ∧ Q (.int (if i < 0 then -i else i)) H) (one absV) := CallD.one fun m H st x a Q E t r hp => by
  unfold absV at hp
  split at hp
  · cases r with
    | d r => cases r; exact ⟨_, rfl, hp.ok_now t (.d (.int _))⟩
  · exact hp.elim
def intV (a : Val) (st : Store) : R Val := match a with
  | .d (.int i) => .ok (.d (.int i)) st
  | _ => .err
theorem cd_int : CallD K mg (fun xs H Q => (∃ i, xs = [.int i] ∧ Q (.int i) H) ∨ ∃ k, xs = [.bl k] ∧ Q (.int (if k then 1 else 0)) H) (one intV) := CallD.one fun m H st x a Q E t r hp => by
  unfold intV at hp
  split at hp
  · cases r with
    | d r => cases r; exact .inl ⟨_, rfl, hp.ok_now t (.d (.int _))⟩
  · exact hp.elim
def listV (a : Val) (st : Store) : R Val := match seqOf st a with
  | some xs => .ok (.d (.lst xs)) st
  | none => .err
theorem cd_list : CallD K mg (fun xs H Q => ∃ p ys, xs = [.ref p] ∧ (SqL K H p ys ∨ SqT K H p ys) ∧ ∀ l, H l = none → Q (.ref l) (upd H l (.lst ys))) (one listV) := CallD.one fun m H st x a Q E t r hp => by
  unfold listV at hp
  split at hp
  · rename_i xs e
    obtain ⟨p, vs, rfl, hq, rv⟩ := seqOf_at t r e
    exact ⟨p, vs, rfl, hq, hp.lstN t rv⟩
  · exact hp.elim
def tupleV (a : Val) (st : Store) : R Val := match a with
  | .d (.tup xs) => .ok (.d (.tup xs)) st
  | a => match listOrScr st a with
    | some xs => .ok (.d (.tup xs)) st
    | none => .err
theorem cd_tuple : CallD K mg (fun xs H Q => ∃ p ys, xs = [.ref p] ∧ ((SqL K H p ys ∧ ∀ l, H l = none → Q (.ref l) (upd H l (.tup ys))) ∨ (SqT K H p ys ∧ Q (.ref p) H))) (one tupleV) := CallD.one fun m H st x a Q E t r hp => by
  unfold tupleV at hp
  split at hp
  · cases r with
    | d r => cases r with
      | tup h r => exact ⟨_, _, rfl, .inr ⟨h.sq, hp.ok_now t (.d (.tup h r))⟩⟩
  · split at hp
    · rename_i xs e
      obtain ⟨p, vs, rfl, hq, rv⟩ := listOrScr_at t r e
      exact ⟨p, vs, rfl, .inl ⟨hq, hp.tupN t rv⟩⟩
    · exact hp.elim
/-- all, any of a list of bools -/
def boolsOf : List D → Option (List Bool)
  | [] => some []
  | .bl b :: r => (boolsOf r).map (b :: ·)
  | _ :: _ => none
theorem RepDs.bools : ∀ {vs : List V} {xs : List D} {bs : List Bool}, RepDs K mg m H vs xs → boolsOf xs = some bs → vs = bs.map V.bl
  | _, _, _, .nil, e => by cases e; rfl
  | _, _, _, .cons (.bl b) t, e => by
    unfold boolsOf at e
    obtain ⟨l, h, rfl⟩ := Option.map_eq_some_iff.mp e
    rw [RepDs.bools t h]
    rfl
  | _, _, _, .cons .non t, e => by cases e
  | _, _, _, .cons (.int _) t, e => by cases e
  | _, _, _, .cons (.str _) t, e => by cases e
  | _, _, _, .cons (.lst _ _ _) t, e => by cases e
  | _, _, _, .cons (.tup _ _) t, e => by cases e
  | _, _, _, .cons (.ins _ _ _ _ _ _) t, e => by cases e
def allV (isAll : Bool) (a : Val) (st : Store) : R Val := match listOrScr st a with
  | some xs => match boolsOf xs with
    | some bs => .ok (.d (.bl (if isAll then bs.all id else bs.any id))) st
    | none => .err
  | none => .err
theorem cd_all : CallD K mg (rAll K) (one (allV true)) := CallD.one fun m H st x a Q E t r hp => by
  unfold allV at hp
  split at hp
  · rename_i xs e
    split at hp
    · rename_i bs eb
      obtain ⟨p, vs, rfl, hq, rv⟩ := listOrScr_at t r e
      have := rv.bools eb
      subst this
      exact ⟨p, bs, rfl, hq, by simpa using okbl t hp⟩
    · exact hp.elim
  · exact hp.elim
theorem cd_any : CallD K mg (rAny K) (one (allV false)) := CallD.one fun m H st x a Q E t r hp => by
  unfold allV at hp
  split at hp
  · rename_i xs e
    split at hp
    · rename_i bs eb
      obtain ⟨p, vs, rfl, hq, rv⟩ := listOrScr_at t r e
      have := rv.bools eb
      subst this
      exact ⟨p, bs, rfl, hq, by simpa using okbl t hp⟩
    · exact hp.elim
  · exact hp.elim
/-! ### repr of data -/
def reprD (d : PyData) : Bool := SeqAt.shaped d && d.showable && decide (d.shown.length ≤ sizeLine)
def reprV (a : Val) (st : Store) : R Val := match valD st a with
  | some x => match toPy x with
    | some d => if reprD d then .ok (.d (.str d.shown)) st else .err
    | none => .err
  | none => .err
theorem reprD_no {d : PyData} (h : SeqAt.shaped d = true) : d.hasDict = false := PyData.hasDict_of_canLay d (SeqAt.canLay_of_shaped h)
def rRepr (K : PySem.W.Frag) : List V → Hp → VK → Prop := fun xs H Q => ∃ x d, xs = [x] ∧ Dp K H x d ∧ reprD d = true ∧ Q (.str d.shown) H
theorem cd_repr : CallD K mg (rRepr K) (one reprV) := CallD.one fun m H st x a Q E t r hp => by
  unfold reprV at hp
  cases e1 : valD st a with
  | none => rw [e1] at hp; exact hp.elim
  | some c =>
    rw [e1] at hp
    simp only at hp
    cases e2 : toPy c with
    | none => rw [e2] at hp; exact hp.elim
    | some d =>
      rw [e2] at hp
      simp only at hp
      cases e3 : reprD d with
      | false => rw [e3] at hp; exact hp.elim
      | true =>
        rw [e3] at hp
        exact ⟨x, d, rfl, valD_dp t r e1 e2, e3, hp.ok_now t (.d (.str _))⟩
/-! ### methods -/
def mt0E (g : Val → Store → R Val) (fo : SE) : SE := fun ρ st => bindR (fo ρ st) fun o st => g o st
def mt1E (g : Val → List Val → Store → R Val) (fo : SE) (fs : SA) : SE := fun ρ st => bindR (fo ρ st) fun o st => bindR (fs ρ st) fun as st => g o as st
/-- xs.append(e): a cell -/
def isCell (st : Store) (o : Val) : Bool := match o with
  | .ref n => match st[n]? with
    | some (some (.lst _)) => true
    | _ => false
  | _ => false
def appendE (fo f : SE) : SE := fun ρ st => bindR (fo ρ st) fun o st => if isCell st o then bindR (f ρ st) fun v st => match o with
    | .ref n => match st[n]? with
      | some (some (.lst xs)) => if xs.length < sizeLine ∧ refsBelow n [v] = true then .ok (.d .non) (st.set n (some (.lst (xs ++ [v])))) else .err
      | _ => .err
    | _ => .err
  else .err
theorem isCell_at {o : Val} {x : V} (t : RepSt K mg m H st) (r : RepV K mg m H x o) (h : isCell st o = true) : ∃ a vs, x = .ref a ∧ H a = some (.lst vs) := by
  unfold isCell at h
  split at h
  · split at h
    · rename_i n xs e
      obtain ⟨a, vs, e1, e2, _, _⟩ := t.at e
      cases r with
      | ref hl hr => exact ⟨a, vs, hr a e1, e2⟩
    · cases h
  · cases h
theorem de_append {o e : Expr} {apos cpos : Pos} {fo f : SE} (ho : DE X W o fo) (he : DE X W e f)
    (hbase : attributeBase o "append" X.env (eval o X.env) = eval o X.env := by rfl)
    (hfew : ((backTo cpos (starEach [e] X.env)).all (fun x => !x.1) && (backToKw cpos (keywordEach [] X.env)).all (fun x => x.1.isSome)
      && decide (([e] : List Expr).length + ([] : List Keyword).length + (if ([] : List Keyword).isEmpty then 0 else 1) < 30)) = true := by rfl)
    (hline : (apos.endLine == cpos.line) = true := by rfl) (hs : starEach [e] X.env = (false, eval e X.env) :: starEach [] X.env := by rfl) (hplain : (backTo cpos (starEach [] X.env)).any (·.1) = false := by rfl) :
    DE X W (.Call (.Attribute o "append" apos) [e] [] cpos) (appendE fo f) :=
  (pe_bm PySem.F.plainAttrs_list PySem.F.slot_list_append PySem.F.type_list_append mt_append ho (da_cons he da_nil hs) hbase hfew hline hs hplain).imp fun σ H Q ⟨m, ρ, st, he, ht, hp⟩ => ⟨m, ρ, st, he, ht, (Post.bind hp).mono fun x H1 ⟨m1, o1, st1, s1, t1, r1, p1⟩ => by
    cases hc : isCell st1 o1 with
    | false => rw [hc] at p1; exact p1.elim
    | true =>
      rw [hc] at p1
      simp only [if_true] at p1
      obtain ⟨a, vs, rfl, ha⟩ := isCell_at t1 r1 hc
      refine ⟨.inl ⟨rfl, vs, .inl (.inl ha)⟩, m1, ρ, st1, he.step s1, t1, ?_⟩
      unfold consA nilA
      cases ef : f ρ st1 with
      | err => rw [ef] at p1; exact p1.elim
      | exc c ns vs st' => rw [ef] at p1; exact p1
      | ok v st2 =>
        rw [ef] at p1
        simp only [bindR] at p1 ⊢
        intro m3 H3 ws s3 t3 r3
        cases r3 with
        | cons rv rn =>
          cases rn
          have ro := r1.step s3
          cases o1 with
          | d => cases hc
          | scr => cases hc
          | ref n =>
            simp only at p1
            cases e1 : st2[n]? with
            | none => rw [e1] at p1; exact p1.elim
            | some c =>
              rw [e1] at p1
              rcases c with _ | ⟨xs⟩
              · exact p1.elim
              · simp only at p1
                split at p1
                · rename_i cc
                  obtain ⟨a', us, e2, e3, rr, hw⟩ := t3.at e1
                  cases ro with
                  | ref hl hr =>
                    have := hr a' e2
                    cases this
                    refine ⟨a, us, _, rfl, rfl, e3, by rw [rr.length]; exact cc.1, ?_⟩
                    refine p1 m3 _ .non (s3.trans (Step.mut e2)) (t3.put e2 (rr.append (.cons rv .nil)) fun k hk => ?_) (.d .non)
                    rcases List.mem_append.mp hk with z | z
                    · exact hw k z
                    · exact refsBelow_mem cc.2 k z
                · exact p1.elim⟩
/-- xs.pop(): a cell -/
def popV (o : Val) (st : Store) : R Val := match o with
  | .ref n => match st[n]? with
    | some (some (.lst xs)) => match xs[xs.length - 1]? with
      | some v => .ok v (st.set n (some (.lst xs.dropLast)))
      | none => .err
    | _ => .err
  | _ => .err
theorem de_pop {o : Expr} {apos cpos : Pos} {fo : SE} (ho : DE X W o fo) (hbase : attributeBase o "pop" X.env (eval o X.env) = eval o X.env := by rfl) (hline : (apos.endLine == cpos.line) = true := by rfl) : DE X W (.Call (.Attribute o "pop" apos) [] [] cpos) (mt0E popV fo) :=
  (pe_bm0 PySem.F.plainAttrs_list PySem.F.slot_list_pop PySem.F.type_list_pop mt_pop ho hbase hline).imp fun σ H Q ⟨m, ρ, st, he, ht, hp⟩ => ⟨m, ρ, st, he, ht, (Post.bind hp).mono fun x H1 ⟨m1, o1, st1, s1, t1, r1, p1⟩ => by
    unfold popV at p1
    split at p1
    · rename_i n
      split at p1
      · rename_i xs e
        split at p1
        · rename_i v ev
          obtain ⟨a, vs, e1, e2, rr, hw⟩ := t1.at e
          cases r1 with
          | ref hl hr =>
            rw [hr a e1]
            obtain ⟨y, hy, ry⟩ := rr.get ev
            refine ⟨.inl ⟨rfl, vs, .inl (.inl e2)⟩, a, vs, y, rfl, rfl, e2, by rw [rr.length]; exact hy, p1 m1 _ y (Step.mut e1) (t1.put e1 rr.dropLast fun k hk => hw k (List.mem_of_mem_take (by rw [← List.dropLast_eq_take]; exact hk))) (ry.step (Step.mut e1))⟩
        · exact p1.elim
      · exact p1.elim
    · exact p1.elim⟩
end
end DL
end

section
set_option Elab.async false
set_option linter.all false
set_option autoImplicit false
set_option maxRecDepth 100000
set_option maxHeartbeats 2000000
/-! DLA: repr, instances, isinstance, texts, truth, chains. -/
namespace DL
open PySem PySem.Spec PyProof.Rows L2
section
variable {X : Cx} {W : WX} {K : PySem.W.Frag} {mg : Str → Option Value} {m m' : Mp} {H H' : Hp} {st : Store} {σ σ' : L2.St} {ρ ρ' : Env}
/-! ### repr -/
theorem call_repr (hg : X.A.guards = some []) (hu : X.A.units + 80 < cLine) : CallR X (.builtin "repr") (rRepr X.K) := by
  intro pins s σ H xs us Q I r h
  obtain ⟨x, d, rfl, hd, hr, q⟩ := h
  cases r with
  | cons r1 r2 =>
    cases r2
    rename_i u
    obtain ⟨as, rd⟩ := Dp.reads I d x u hd r1
    unfold reprD at hr
    obtain ⟨hr1, hr3⟩ := Bool.and_eq_true_iff.mp hr
    obtain ⟨hr1, hr2⟩ := Bool.and_eq_true_iff.mp hr1
    have hz := of_decide_eq_true hr3
    have hdep := SeqAt.depth_of_shaped hr1
    cases hd with
    | non => cases (show u = Value.none from r1); exact PySem.P.repr_of_none ⟨.str _, H, I.tok _, ⟨_, rfl⟩, q⟩
    | bl b => cases (show u = Value.bool b from r1); exact PySem.P.repr_of_bool ⟨.str _, H, I.tok _, ⟨_, rfl⟩, by simpa [PyData.shown] using q⟩
    | int i => obtain ⟨t, rfl⟩ := (show ∃ t, u = Value.int i t from r1); exact PySem.P.repr_of_int (by simpa [PyData.showable] using hr2) ⟨.str _, H, I.tok _, ⟨_, rfl⟩, by simpa [PyData.shown] using q⟩
    | str z => obtain ⟨t, rfl⟩ := (show ∃ t, u = Value.str z t from r1); exact PySem.P.repr_of_str ⟨.str _, H, I.tok _, ⟨_, rfl⟩, by simpa [PyData.shown] using q⟩ (by simpa [PyData.shown] using hz)
    | lst _ _ => cases r1; exact repr_of_reads' rd hr2 (fun e => by rw [reprD_no hr1] at e; cases e) hg (by omega) (fun _ _ e => e) (fun h' u tk k => ⟨.str _, H, I.kept (t' := tk) k, ⟨u, rfl⟩, q⟩) hz
    | tup _ _ => cases r1; exact repr_of_reads' rd hr2 (fun e => by rw [reprD_no hr1] at e; cases e) hg (by omega) (fun _ _ e => e) (fun h' u tk k => ⟨.str _, H, I.kept (t' := tk) k, ⟨u, rfl⟩, q⟩) hz
/-! ### instances -/
/-- an __init__ that stores its arguments in fields of these names -/
def spInit (C : Addr) (ns : List Str) : Sp := fun vs H Q _ => ∃ x dx ws, vs = .ref x :: ws ∧ ws.length = ns.length ∧ H x = some (.ins C dx []) ∧ Q .non (upd H x (.ins C dx (ns.zip ws)))
def makeE (c : Str) (ns : List Str) (fs : SA) : SE := fun ρ st => bindR (fs ρ st) fun as st => match asDs as with
  | some xs => if xs.length = ns.length then .ok (.d (.ins c ns xs)) st else .err
  | none => .err
theorem zip_fst {α β : Type} : ∀ {a : List α} {b : List β}, b.length = a.length → (a.zip b).map (·.1) = a
  | [], _, _ => rfl
  | _ :: _, [], h => by cases h
  | x :: a, y :: b, h => by
    show x :: (a.zip b).map (·.1) = x :: a
    rw [zip_fst (Nat.succ.inj h)]
theorem zip_snd {α β : Type} : ∀ {a : List α} {b : List β}, b.length = a.length → (a.zip b).map (·.2) = b
  | [], [], _ => rfl
  | [], _ :: _, h => by cases h
  | _ :: _, [], h => by cases h
  | x :: a, y :: b, h => by
    show y :: (a.zip b).map (·.2) = y :: b
    rw [zip_snd (Nat.succ.inj h)]
theorem make_of {c : Str} {C : Addr} {ns : List Str} {xs : List D} {vs : List V} {Q : VK} {E : XK} (hm : mg c = some (.ref C)) (t : RepSt K mg m H st) (r : RepDs K mg m H vs xs) (hl : xs.length = ns.length) (hp : Post K mg m H (.ok (.d (.ins c ns xs)) st) (AV K mg) Q E) :
    ∀ x dx, H x = none → H dx = none → dx ≠ x → spInit C ns (.ref x :: vs) (upd (upd H dx (.own x)) x (.ins C dx [])) (fun v H2 => v = .non ∧ Q (.ref x) H2) E := fun x dx hx hd ne => by
  have lv : vs.length = ns.length := r.length.trans hl
  refine ⟨x, dx, vs, rfl, lv, upd_same, rfl, ?_⟩
  rw [upd_upd]
  have hx2 : (upd H dx (.own x)) x = none := by rw [upd_ne (Ne.symm ne)]; exact hx
  have s1 : Step m H m (upd H dx (.own x)) := Step.new hd
  have t1 := t.new (o := .own x) hd
  have s2 : Step m (upd H dx (.own x)) m (upd (upd H dx (.own x)) x (.ins C dx (ns.zip vs))) := Step.new hx2
  exact hp m _ _ (s1.trans s2) (t1.new hx2) (.d (.ins upd_same (t1.fresh hx2) hm (zip_fst lv) (zip_snd lv) ((r.step s1).step s2)))
theorem de_make {c : Str} {C f : Addr} {fd : FuncData} {ps ns : List Str} {k : Nat} {p pos : Pos} {e : Expr} {es : List Expr} {fs : SA} (M : Mk X.K C f) (F0 : FnOk X.prog X.w X.K X.mg X.base CX0 k f fd ps (spInit C ns)) (hr : Room (k + 1) X.A) (hg : Gl X c) (hm : X.mg c = some (.ref C)) (hb : Binds X.K fd ps []) (ha : DA X W (e :: es) fs)
    (hdb : (c == ("__debug__" : Str)) = false := by decide) (he : starEach (e :: es) X.env = (false, eval e X.env) :: starEach es X.env := by rfl) (hpl : (backTo pos (starEach es X.env)).any (·.1) = false := by rfl) :
    DE X W (.Call (.Name c p) (e :: es) [] pos) (makeE c ns fs) := (pe_make (E := E0) M F0 hr hg hm hb .nil pass0 ha hdb he hpl).imp fun σ H Q ⟨m, ρ, st, he, hs, hp⟩ => ⟨m, ρ, st, he, hs, (Post.bind hp).mono fun vs H1 ⟨m1, as, st1, s1, t1, r1, p1⟩ x dx hx hd ne => by
    rw [List.append_nil]
    cases ea : asDs as with
    | none => simp only [ea] at p1; exact p1.elim
    | some xs =>
      simp only [ea] at p1
      by_cases hl : xs.length = ns.length
      · rw [if_pos hl] at p1
        obtain ⟨a, b, d, h1, h2, h3, h4⟩ := make_of hm t1 (r1.ds ea) hl p1 x dx hx hd ne
        exact ⟨a, b, d, h1, h2, h3, h4⟩
      · rw [if_neg hl] at p1; exact p1.elim⟩
def lookD : List Str → List D → Str → Option D
  | n :: ns, x :: xs, f => if f = n then some x else lookD ns xs f
  | _, _, _ => none
def fldE (c f : Str) (fe : SE) : SE := fun ρ st => bindR (fe ρ st) fun v st => match v with
  | .d (.ins c' ns xs) => if c' = c then match lookD ns xs f with
    | some x => .ok (.d x) st
    | none => .err
    else .err
  | _ => .err
theorem look_rep : ∀ {fs : List (Str × V)} {ns : List Str} {vs : List V} {xs : List D} {f : Str} {x : D}, fs.map (·.1) = ns → fs.map (·.2) = vs → RepDs K mg m H vs xs → lookD ns xs f = some x → ∃ v, fs.lookup f = some v ∧ RepD K mg m H v x
  | [], _, _, _, f, x, rfl, rfl, .nil, e => by cases e
  | (n, v) :: fs, _, _, _, f, x, rfl, rfl, .cons r t, e => by
    simp only [List.map_cons, lookD] at e
    rw [List.lookup_cons]
    by_cases h : f = n
    · rw [if_pos h] at e
      cases e
      rw [h, beq_self_eq_true]
      exact ⟨v, rfl, r⟩
    · rw [if_neg h] at e
      rw [beq_eq_false_iff_ne.mpr h]
      exact look_rep rfl rfl t e
theorem de_fld {c f : Str} {C : Addr} {e : Expr} {pos : Pos} {fe : SE} (hm : X.mg c = some (.ref C)) (hc : Cls X.K C) (hn : NoAttr X.K C f) (h : DE X W e fe) (hb : attributeBase e f X.env (eval e X.env) = eval e X.env := by rfl) : DE X W (.Attribute e f pos) (fldE c f fe) :=
  (pe_fld h hb).imp fun σ H Q ⟨m, ρ, st, he, hs, hp⟩ => ⟨m, ρ, st, he, hs, (Post.bind hp).mono fun x H1 ⟨m1, a, st1, s1, t1, r1, p1⟩ => by
    split at p1
    · rename_i c' ns xs
      split at p1
      · rename_i ec
        split at p1
        · rename_i x' el
          cases r1 with
          | d r1 => cases r1 with
            | ins h1 h2 h3 h4 h5 h6 =>
              subst ec
              rw [hm] at h3
              cases h3
              obtain ⟨v, hl, rv⟩ := look_rep h4 h5 h6 el
              exact ⟨_, C, _, _, v, rfl, h1, hc, hn, hl, p1.ok_now t1 (.d rv)⟩
        · exact p1.elim
      · exact p1.elim
    · exact p1.elim⟩
/-! ### isinstance -/
inductive Ty where
  | b (s : String) | o (c : Str)
def tyD : D → Ty
  | .non => .b "NoneType"
  | .bl _ => .b "bool"
  | .int _ => .b "int"
  | .str _ => .b "str"
  | .lst _ => .b "list"
  | .tup _ => .b "tuple"
  | .ins c _ _ => .o c
def tyV (v : Val) (st : Store) : Option Ty := match v with
  | .d x => some (tyD x)
  | .scr _ => none
  | .ref n => match st[n]? with
    | some (some (.lst _)) => some (.b "list")
    | _ => none
structure InsTy (K : PySem.W.Frag) (C : Addr) : Prop where
  cl : Cls K C
  ha : PySem.W.findIn K (.ref C) "__class__" = some (some (.builtin "object.__class__"))
  hn : PySem.W.specialIn K (.builtin "object.__class__") "__get__" = some (some (.builtin "getset_descriptor.__get__"))
  htk : PySem.W.takesIn K (.builtin "object.__class__") = some true
  hm : PySem.W.mroIn K C (.type "object") = some true
def TabOk (K : PySem.W.Frag) (mg : Str → Option Value) (cv : Value) : Ty → Bool → Prop
  | .b s, b => PySem.W.kitOne K (.type s) cv = some b
  | .o c, b => ∀ C, mg c = some (.ref C) → InsTy K C ∧ PySem.W.kitOne K (.ref C) cv = some b
def isiE (tab : Ty → Option Bool) (fe : SE) : SE := fun ρ st => bindR (fe ρ st) fun v st => match tyV v st with
  | some t => match tab t with
    | some b => .ok (.d (.bl b)) st
    | none => .err
  | none => .err
theorem de_isi {e ec : Expr} {p pos : Pos} {fe : SE} {tab : Ty → Option Bool} {c : V} {cv : Value} (hc : PE X ec (tC c)) (hcv : ClsV c cv) (htab : ∀ t b, tab t = some b → TabOk X.K X.mg cv t b) (hg : Gl X "isinstance") (hm : X.mg "isinstance" = none) (h : DE X W e fe)
    (he : starEach [e, ec] X.env = (false, eval e X.env) :: starEach [ec] X.env := by rfl) (he2 : starEach [ec] X.env = (false, eval ec X.env) :: starEach [] X.env := by rfl) (hpl : (backTo pos (starEach [ec] X.env)).any (·.1) = false := by rfl) : DE X W (.Call (.Name "isinstance" p) [e, ec] [] pos) (isiE tab fe) :=
  (pe_callB call_isi hg hm boot_isinstance (pa_cons h (pa_cons hc pa_nil he2) he) (by decide) (by decide) he hpl).imp fun σ H Q ⟨m, ρ, st, he, hs, hp⟩ => ⟨m, ρ, st, he, hs, (Post.bind hp).mono fun x H1 ⟨m1, a, st1, s1, t1, r1, p1⟩ => by
    cases et : tyV a st1 with
    | none => rw [et] at p1; exact p1.elim
    | some t =>
      rw [et] at p1
      simp only at p1
      cases eb : tab t with
      | none => rw [eb] at p1; exact p1.elim
      | some b =>
        rw [eb] at p1
        have hb := htab t b eb
        have q := okbl t1 p1
        cases r1 with
        | d r1 =>
          cases et
          cases r1 with
          | non => exact ⟨_, c, _, cv, b, rfl, hcv, .base .non, hb, q⟩
          | bl z => exact ⟨_, c, _, cv, b, rfl, hcv, .base (.bl z), hb, q⟩
          | int z => exact ⟨_, c, _, cv, b, rfl, hcv, .base (.int z), hb, q⟩
          | str z => exact ⟨_, c, _, cv, b, rfl, hcv, .base (.str z), hb, q⟩
          | lst h1 _ _ => exact ⟨_, c, _, cv, b, rfl, hcv, .base (.lst h1), hb, q⟩
          | tup h1 _ =>
            rcases h1 with ⟨h1 | ⟨o, h1⟩, _⟩ | h1
            · exact ⟨_, c, _, cv, b, rfl, hcv, .base (.tup h1), hb, q⟩
            · exact ⟨_, c, _, cv, b, rfl, hcv, .fTuple h1, hb, q⟩
            · rcases h1 (fun _ => none) with h1 | ⟨o, its, n, h1, h2, _⟩
              · rcases h1 with h1 | ⟨_, h1⟩ <;> cases h1
              · exact ⟨_, c, _, cv, b, rfl, hcv, .kTuple h1 h2, hb, q⟩
          | ins h1 h2 h3 _ _ _ =>
            obtain ⟨hi, hk⟩ := hb _ h3
            exact ⟨_, c, _, cv, b, rfl, hcv, .base (.ins h1 hi.cl hi.ha hi.hn hi.htk hi.hm), hk, q⟩
        | scr h1 _ => cases et
        | ref hl hr =>
          simp only [tyV] at et
          split at et
          · rename_i xs e1
            cases et
            obtain ⟨a', vs, e1, e2, _, _⟩ := t1.at e1
            rw [hr a' e1]
            exact ⟨_, c, _, cv, b, rfl, hcv, .base (.lst e2), hb, q⟩
          · cases et⟩
/-! ### truth -/
def truV (v : Val) (st : Store) : Option Bool := match v with
  | .d .non => some false
  | .d (.bl b) => some b
  | .d (.int i) => some (i != 0)
  | .d (.str z) => if z.length ≤ sizeLine then some ((z.length : Int) != 0) else none
  | v => (valsOf st v).map fun xs => !xs.isEmpty
def truE (f : SE) : ST := fun ρ st => bindR (f ρ st) fun v st => match truV v st with
  | some b => .ok b st
  | none => .err
theorem RepVs.empty : ∀ {vs : List V} {xs : List Val}, RepVs K mg m H vs xs → (!xs.isEmpty) = !vs.isEmpty
  | _, _, .nil => rfl
  | _, _, .cons _ _ => rfl
theorem truV_of {v : Val} {x : V} {b : Bool} (t : RepSt K mg m H st) (r : RepV K mg m H x v) (e : truV v st = some b) : TruV K x H b := by
  unfold truV at e
  split at e
  · cases e; cases r with
    | d r => cases r; rfl
  · cases e; cases r with
    | d r => cases r; rfl
  · cases e; cases r with
    | d r => cases r; rfl
  · split at e
    · rename_i c
      cases e; cases r with
      | d r => cases r; exact ⟨c, rfl⟩
    · cases e
  · obtain ⟨xs, ex, eb⟩ := Option.map_eq_some_iff.mp e
    obtain ⟨a, vs, rfl, hq, rv⟩ := valsOf_at t r ex
    rw [← eb, rv.empty]
    rcases hq with hq | hq
    · exact .inl ⟨vs, hq, rfl⟩
    · exact .inr (.inl ⟨vs, hq, rfl⟩)
theorem dt_tru {e : Expr} {f : SE} (h : DE X W e f) (he : ∀ whole, isTrue e X.env whole = (do let v ← whole; standAt e.pos; holding [v] (truthy v)) := by intro _; rfl) : DT X W e (truE f) := (pt_truth h he).imp fun σ H Q ⟨m, ρ, st, he, hs, hp⟩ => ⟨m, ρ, st, he, hs, (Post.bind hp).mono fun x H1 ⟨m1, a, st1, s1, t1, r1, p1⟩ => by
    cases e : truV a st1 with
    | none => rw [e] at p1; exact p1.elim
    | some b =>
      rw [e] at p1
      exact ⟨b, truV_of t1 r1 e, p1.ok_now t1 rfl⟩⟩
/-! ### a < b < c -/
def chainE (g g' : Val → Val → Store → R Val) (fa fb fc : SE) : SE := fun ρ st => bindR (fa ρ st) fun a st => bindR (fb ρ st) fun b st => bindR (g a b st) fun z st => match z with
  | .d (.bl true) => bindR (fc ρ st) fun c st => g' b c st
  | .d (.bl false) => .ok (.d (.bl false)) st
  | _ => .err
theorem chain_of {r r' : R2} {g g' : Val → Val → Store → R Val} {fa fb fc : SE} (hg : OpD K mg r g) (hg' : OpD K mg r' g') (σ : L2.St) (H : Hp) (Q : VK) (h : tE K mg W (chainE g g' fa fb fc) σ H Q) : tChain r r' (tE K mg W fa) (tE K mg W fb) (tE K mg W fc) σ H Q := by
  obtain ⟨m, ρ, st, he, hs, hp⟩ := h
  refine ⟨m, ρ, st, he, hs, (Post.bind hp).mono fun x H1 ⟨m1, a, st1, s1, t1, r1, p1⟩ => ⟨m1, ρ, st1, he.step s1, t1, (Post.bind p1).mono fun y H2 ⟨m2, b, st2, s2, t2, r2, p2⟩ => ?_⟩⟩
  refine hg m2 H2 st2 x y a b _ (fun c d H' => W c d σ H') t2 (r1.step s2) r2 ((Post.bind p2).mono fun z H3 ⟨m3, c, st3, s3, t3, r3, p3⟩ => ?_)
  split at p3
  · cases r3 with
    | d r3 =>
      cases r3
      exact ⟨true, rfl, by rw [if_pos rfl]; exact ⟨m3, ρ, st3, ((he.step s1).step s2).step s3, t3, (Post.bind p3).mono fun w' H4 ⟨m4, c', st4, s4, t4, r4, p4⟩ => hg' m4 H4 st4 y w' b c' Q (fun c d H' => W c d σ H') t4 ((r2.step s3).step s4) r4 p4⟩⟩
  · cases r3 with
    | d r3 =>
      cases r3
      exact ⟨false, rfl, by rw [if_neg (by decide)]; exact okbl t3 p3⟩
  · exact p3.elim
theorem de_chain {op op' : CmpOp} {a b c : Expr} {pos : Pos} {r r' : R2} {g g' : Val → Val → Store → R Val} {fa fb fc : SE} (ho : OpR X (compareOp op) r) (ho' : OpR X (compareOp op') r') (hg : OpD X.K X.mg r g) (hg' : OpD X.K X.mg r' g') (ha : DE X W a fa) (hb : DE X W b fb) (hc : DE X W c fc)
    (hm : lastMarks [op, op'] [b, c] = false := by with_unfolding_all rfl) : DE X W (.Compare a [op, op'] [b, c] pos) (chainE g g' fa fb fc) := (pe_chain ho ho' ha hb hc hm).imp fun σ H Q h => chain_of hg hg' σ H Q h
theorem dt_chain {op op' : CmpOp} {a b c : Expr} {pos : Pos} {r r' : R2} {g g' : Val → Val → Store → R Val} {fa fb fc : SE} (ho : OpR X (compareOp op) r) (ho' : OpR X (compareOp op') r') (hg : OpD X.K X.mg r g) (hg' : OpD X.K X.mg r' g') (ha : DE X W a fa) (hb : DE X W b fb) (hc : DE X W c fc)
    (hm : lastMarks [op, op'] [b, c] = false := by with_unfolding_all rfl) : DT X W (.Compare a [op, op'] [b, c] pos) (asB (chainE g g' fa fb fc)) := (pt_chain ho ho' ha hb hc hm).imp fun σ H Q ⟨m, ρ, st, he, hs, hp⟩ => chain_of hg hg' σ H _ ⟨m, ρ, st, he, hs, (Post.bind hp).mono fun x H1 ⟨m1, a, st1, s1, t1, r1, p1⟩ => by
    cases r1 with
    | d r1 => cases r1 with
      | bl b => exact ⟨b, rfl, p1.ok_now t1 rfl⟩
      | _ => exact p1.elim
    | _ => exact p1.elim⟩
/-! ### x += e (ints) -/
def augS (i : Nat) (f : SE) : SS := fun ρ st => match ρ[i]? with
  | some (some (.d (.int a))) => bindS ρ (f ρ st) fun v st => match v with
    | .d (.int b) => .nx (ρ.set i (some (.d (.int (a + b))))) st
    | _ => .err
  | _ => .err
theorem ds_aug {i : Nat} {x : Str} {e : Expr} {pos pos' : Pos} {f : SE} (hN : X.N.Nodup) (hi : X.N[i]? = some x) (hx : Loc X.env.scope x) (he : DE X W e f) (hf : X.fn x = true ∨ X.env.scope.names.lookup x = some .local := by first | exact .inl rfl | exact .inr rfl | assumption) : DS X W (.AugAssign (.Name x pos') .Add e pos) (augS i f) :=
  (ps_aug hN hi hx he ip_add hf).imp fun D σ H ⟨m, ρ, st, he, hs, hp⟩ => by
    unfold augS at hp
    split at hp
    · rename_i a hi'
      obtain ⟨y, hy, ry⟩ := he.val i _ hi'
      cases ry with
      | d ry =>
        cases ry
        refine ⟨_, hy, m, ρ, st, he, hs, (PostS.bind he hp).mono fun x H1 ⟨m1, v, st1, s1, t1, r1, p1⟩ => ?_⟩
        split at p1
        · cases r1 with
          | d r1 => cases r1; exact ⟨_, _, rfl, rfl, p1.nx_now t1 ((he.step s1).set (.d (.int _)))⟩
        · exact p1.elim
    · exact hp.elim
end
end DL
end

section
set_option Elab.async false
set_option linter.all false
set_option autoImplicit false
set_option maxRecDepth 100000
set_option maxHeartbeats 2000000
/-! DLB: texts' methods, order of pairs, an own ==. -/
namespace DL
open PySem PySem.Spec PyProof.Rows L2
section
variable {X : Cx} {W : WX} {K : PySem.W.Frag} {mg : Str → Option Value} {m m' : Mp} {H H' : Hp} {st : Store} {σ σ' : L2.St} {ρ ρ' : Env}
/-! ### a text's method with one argument -/
def tm1E (g : Str → Val → Store → R Val) (fo fe : SE) : SE := fun ρ st => bindR (fo ρ st) fun o st => match o with
  | .d (.str z) => bindR (fe ρ st) fun v st => g z v st
  | _ => .err
def M1D (K : PySem.W.Frag) (mg : Str → Option Value) (r : V → List V → Hp → VK → Prop) (g : Str → Val → Store → R Val) : Prop := ∀ (m : Mp) (H : Hp) (st : Store) (z : Str) (y : V) (b : Val) (Q : VK) (E : XK), RepSt K mg m H st → RepV K mg m H y b → Post K mg m H (g z b st) (AV K mg) Q E → r (.str z) [y] H Q
theorem tM1_of {r : V → List V → Hp → VK → Prop} {g : Str → Val → Store → R Val} {fo fe : SE} (hg : M1D K mg r g) (σ : L2.St) (H : Hp) (Q : VK) (h : tE K mg W (tm1E g fo fe) σ H Q) : tM1 r (tE K mg W fo) (tE K mg W fe) σ H Q := by
  obtain ⟨m, ρ, st, he, hs, hp⟩ := h
  refine ⟨m, ρ, st, he, hs, (Post.bind hp).mono fun x H1 ⟨m1, a, st1, s1, t1, r1, p1⟩ => ?_⟩
  split at p1
  · rename_i z
    cases r1 with
    | d r1 =>
      cases r1
      exact ⟨⟨z, rfl⟩, m1, ρ, st1, he.step s1, t1, (Post.bind p1).mono fun y H2 ⟨m2, b, st2, s2, t2, r2, p2⟩ => hg m2 H2 st2 z y b Q _ t2 r2 p2⟩
  · exact p1.elim
def splitV (a : Str) (v : Val) (st : Store) : R Val := match v with
  | .d (.str b) => if (b.length == 0) = false ∧ a.length + 2 ≤ sizeLine then .ok (.d (.lst ((Txt.split a b).map .str))) st else .err
  | _ => .err
theorem RepDs.strs : ∀ {ys : List Str}, RepDs K mg m H (ys.map V.str) (ys.map D.str)
  | [] => .nil
  | y :: ys => .cons (.str y) RepDs.strs
theorem md_split : M1D K mg (fun x xs H Q => ∃ a b, x = .str a ∧ xs = [.str b] ∧ (b.length == 0) = false ∧ a.length + 2 ≤ sizeLine ∧ rNewStrs (Txt.split a b) H Q) splitV := fun m H st z y b Q E t r hp => by
  unfold splitV at hp
  split at hp
  · split at hp
    · rename_i c
      cases r with
      | d r => cases r; exact ⟨z, _, rfl, rfl, c.1, c.2, hp.lstN t RepDs.strs⟩
    · exact hp.elim
  · exact hp.elim
theorem de_split {o e : Expr} {apos pos : Pos} {fo fe : SE} (ho : DE X W o fo) (he : DE X W e fe) (hs : starEach [e] X.env = [(false, eval e X.env)] := by rfl) (hbase : attributeBase o "split" X.env (eval o X.env) = eval o X.env := by rfl) (hline : (apos.endLine == pos.line) = true := by rfl) :
    DE X W (.Call (.Attribute o "split" apos) [e] [] pos) (tm1E splitV fo fe) := (pe_split ho he hs hbase hline).imp fun σ H Q h => tM1_of md_split σ H Q h
def partV (a : Str) (v : Val) (st : Store) : R Val := match v with
  | .d (.str b) => if (b.length == 0) = false ∧ a.length ≤ sizeLine then .ok (.d (.tup [.str (Txt.partition a b).1, .str (Txt.partition a b).2.1, .str (Txt.partition a b).2.2])) st else .err
  | _ => .err
theorem md_part : M1D K mg (fun x xs H Q => ∃ a b, x = .str a ∧ xs = [.str b] ∧ (b.length == 0) = false ∧ a.length ≤ sizeLine ∧ ∀ p, H p = none → Q (.ref p) (upd H p (.tup [.str (Txt.partition a b).1, .str (Txt.partition a b).2.1, .str (Txt.partition a b).2.2]))) partV := fun m H st z y b Q E t r hp => by
  unfold partV at hp
  split at hp
  · split at hp
    · rename_i c
      cases r with
      | d r => cases r; exact ⟨z, _, rfl, rfl, c.1, c.2, hp.tupN t (.cons (.str _) (.cons (.str _) (.cons (.str _) .nil)))⟩
    · exact hp.elim
  · exact hp.elim
theorem de_partition {o e : Expr} {apos pos : Pos} {fo fe : SE} (ho : DE X W o fo) (he : DE X W e fe) (hs : starEach [e] X.env = [(false, eval e X.env)] := by rfl) (hbase : attributeBase o "partition" X.env (eval o X.env) = eval o X.env := by rfl) (hline : (apos.endLine == pos.line) = true := by rfl) :
    DE X W (.Call (.Attribute o "partition" apos) [e] [] pos) (tm1E partV fo fe) := (pe_partition ho he hs hbase hline).imp fun σ H Q h => tM1_of md_part σ H Q h
def textsOf : List D → Option (List Str)
  | [] => some []
  | .str z :: r => (textsOf r).map (z :: ·)
  | _ :: _ => none
theorem RepDs.texts : ∀ {vs : List V} {xs : List D} {ys : List Str}, RepDs K mg m H vs xs → textsOf xs = some ys → vs = ys.map V.str
  | _, _, _, .nil, e => by cases e; rfl
  | _, _, _, .cons (.str b) t, e => by
    unfold textsOf at e
    obtain ⟨l, h, rfl⟩ := Option.map_eq_some_iff.mp e
    rw [RepDs.texts t h]
    rfl
  | _, _, _, .cons .non t, e => by cases e
  | _, _, _, .cons (.int _) t, e => by cases e
  | _, _, _, .cons (.bl _) t, e => by cases e
  | _, _, _, .cons (.lst _ _ _) t, e => by cases e
  | _, _, _, .cons (.tup _ _) t, e => by cases e
  | _, _, _, .cons (.ins _ _ _ _ _ _) t, e => by cases e
def joinV (a : Str) (v : Val) (st : Store) : R Val := match seqOf st v with
  | some xs => match textsOf xs with
    | some ys => if (ys.map (·.length)).sum + ys.length * a.length ≤ 16777216 then .ok (.d (.str (Txt.join a ys))) st else .err
    | none => .err
  | none => .err
theorem md_join : M1D K mg (fun x xs H Q => ∃ a p, ∃ ys : List Str, x = .str a ∧ xs = [.ref p] ∧ (SqL K H p (ys.map V.str) ∨ SqT K H p (ys.map V.str)) ∧ (ys.map (·.length)).sum + ys.length * a.length ≤ 16777216 ∧ Q (.str (Txt.join a ys)) H) joinV := fun m H st z y b Q E t r hp => by
  unfold joinV at hp
  split at hp
  · rename_i xs e
    split at hp
    · rename_i ys ey
      split at hp
      · rename_i c
        obtain ⟨p, vs, rfl, hq, rv⟩ := seqOf_at t r e
        have := rv.texts ey
        subst this
        exact ⟨z, p, ys, rfl, rfl, hq, c, hp.ok_now t (.d (.str _))⟩
      · exact hp.elim
    · exact hp.elim
  · exact hp.elim
theorem de_join {o e : Expr} {apos pos : Pos} {fo fe : SE} (ho : DE X W o fo) (he : DE X W e fe) (hs : starEach [e] X.env = [(false, eval e X.env)] := by rfl) (hbase : attributeBase o "join" X.env (eval o X.env) = eval o X.env := by rfl) (hline : (apos.endLine == pos.line) = true := by rfl) :
    DE X W (.Call (.Attribute o "join" apos) [e] [] pos) (tm1E joinV fo fe) := (pe_join ho he hs hbase hline).imp fun σ H Q h => tM1_of md_join σ H Q h
/-- s.find(t, i) -/
def findV (o : Val) (as : List Val) (st : Store) : R Val := match o, as with
  | .d (.str a), [.d (.str b), .d (.int i)] => .ok (.d (.int (Txt.find3 a b i))) st
  | _, _ => .err
def tmAE (g : Val → List Val → Store → R Val) (fo : SE) (fs : SA) : SE := fun ρ st => bindR (fo ρ st) fun o st => match o with
  | .d (.str z) => bindR (fs ρ st) fun as st => g (.d (.str z)) as st
  | _ => .err
theorem de_find {o e : Expr} {es : List Expr} {apos cpos : Pos} {fo : SE} {fs : SA} (ho : DE X W o fo) (ha : DA X W (e :: es) fs)
    (hbase : attributeBase o "find" X.env (eval o X.env) = eval o X.env := by rfl)
    (hfew : ((backTo cpos (starEach (e :: es) X.env)).all (fun x => !x.1) && (backToKw cpos (keywordEach [] X.env)).all (fun x => x.1.isSome)
      && decide ((e :: es).length + ([] : List Keyword).length + (if ([] : List Keyword).isEmpty then 0 else 1) < 30)) = true := by rfl)
    (hline : (apos.endLine == cpos.line) = true := by rfl) (hs : starEach (e :: es) X.env = (false, eval e X.env) :: starEach es X.env := by rfl) (hplain : (backTo cpos (starEach es X.env)).any (·.1) = false := by rfl) :
    DE X W (.Call (.Attribute o "find" apos) (e :: es) [] cpos) (tmAE findV fo fs) :=
  (pe_bm PySem.F.plainAttrs_str PySem.F.slot_str_find PySem.F.type_str_find mt_find3 ho ha hbase hfew hline hs hplain).imp fun σ H Q ⟨m, ρ, st, he, ht, hp⟩ => ⟨m, ρ, st, he, ht, (Post.bind hp).mono fun x H1 ⟨m1, o1, st1, s1, t1, r1, p1⟩ => by
    split at p1
    · rename_i z
      cases r1 with
      | d r1 =>
        cases r1
        refine ⟨rfl, m1, ρ, st1, he.step s1, t1, (Post.bind p1).mono fun vs H2 ⟨m2, as, st2, s2, t2, r2, p2⟩ => ?_⟩
        unfold findV at p2
        split at p2
        · rename_i a b i e1
          cases e1
          cases r2 with
          | cons r2 r3 => cases r3 with
            | cons r3 r4 =>
              cases r4
              cases r2 with
              | d r2 => cases r2; cases r3 with
                | d r3 => cases r3; exact ⟨_, _, _, rfl, rfl, p2.ok_now t2 (.d (.int _))⟩
        · exact p2.elim
    · exact p1.elim⟩
/-! ### s * n -/
def repS (z : Str) (n : Nat) : Str := ⟨(List.replicate n z.cps).foldl (· ++ ·) #[]⟩
def rMulS : R2 := fun x y H Q => ∃ z n, x = .str z ∧ y = .int n ∧ 1 < n ∧ n ≤ 1000 ∧ 0 < z.length ∧ z.length ≤ 1000 ∧ Q (.str (repS z n.toNat)) H
theorem op_mulS : OpR X (binaryOp .Mult) rMulS := by
  intro pins s σ H x y v u Q I rx ry h
  obtain ⟨z, n, rfl, rfl, h1, h2, h0, h3, q⟩ := h
  obtain ⟨t, rfl⟩ := rx
  obtain ⟨t', rfl⟩ := ry
  have hb : z.length * n.toNat ≤ 1000 * 1000 := Nat.mul_le_mul h3 (by omega)
  have hn1 : ¬ n < 1 := by omega
  have hc : (n == 1 || z.length == 0) = false := by
    rw [Bool.or_eq_false_iff]
    exact ⟨beq_eq_false_iff_ne.mpr (by omega), beq_eq_false_iff_ne.mpr (by omega)⟩
  refine PySem.P.mul_str ?_ (fun _ _ => ?_) (fun _ _ => ?_) ?_
  · rw [Bool.or_eq_false_iff]
    exact ⟨decide_eq_false (by omega), decide_eq_false (by omega)⟩
  · have : (2 ^ 63 - 1 : Int) / n ≥ (2 ^ 63 - 1 : Int) / 1000 := by
      refine Int.le_ediv_of_mul_le (by omega) ?_
      have : (2 ^ 63 - 1 : Int) / 1000 * n ≤ (2 ^ 63 - 1 : Int) / 1000 * 1000 := Int.mul_le_mul_of_nonneg_left h2 (by decide)
      exact Int.le_trans this (by decide)
    have h9 : (2 ^ 63 - 1 : Int) / 1000 ≥ 1000 := by decide
    omega
  · unfold Builtin.Str.tooLong
    have := sizeLine_eq
    exact decide_eq_false (by omega)
  · rw [if_neg hn1, if_neg (by rw [hc]; decide)]
    have hlen : (repS z n.toNat).length = z.length * n.toNat := by
      unfold repS
      generalize n.toNat = k
      have key : ∀ (k : Nat) (a : Array Nat), ((List.replicate k z.cps).foldl (· ++ ·) a).size = a.size + k * z.cps.size := by
        intro k
        induction k with
        | zero => intro a; simp
        | succ k ih => intro a; rw [List.replicate_succ, List.foldl_cons, ih, Array.size_append, Nat.add_mul]; omega
      show ((List.replicate k z.cps).foldl (· ++ ·) #[]).size = z.cps.size * k
      rw [key, Nat.mul_comm]
      simp
    refine ⟨?_, ⟨.str _, H, I.tok _, ⟨_, rfl⟩, q⟩⟩
    show (repS z n.toNat).length ≤ sizeLine
    have := sizeLine_eq
    omega
def mulSV (a b : Val) (st : Store) : R Val := match a, b with
  | .d (.str z), .d (.int n) => if 1 < n ∧ n ≤ 1000 ∧ 0 < z.length ∧ z.length ≤ 1000 then .ok (.d (.str (repS z n.toNat))) st else .err
  | _, _ => .err
theorem od_mulS : OpD K mg rMulS mulSV := by
  intro m H st x y a b Q E t rx ry h
  unfold mulSV at h
  split at h
  · split at h
    · rename_i c
      cases rx with
      | d rx => cases rx; cases ry with
        | d ry => cases ry; exact ⟨_, _, rfl, rfl, c.1, c.2.1, c.2.2.1, c.2.2.2, h.ok_now t (.d (.str _))⟩
    · exact h.elim
  · exact h.elim
/-! ### (a, b) <= (c, d), texts -/
def lePair (a b c d : Str) : Bool := if a = c then (if b = d then true else !decide (d.cps.toList < b.cps.toList)) else !decide (c.cps.toList < a.cps.toList)
def rLeP (K : PySem.W.Frag) : R2 := fun x y H Q => ∃ (p q : Addr) (a b c d : Str), x = .ref p ∧ y = .ref q ∧ SqT K H p [.str a, .str b] ∧ SqT K H q [.str c, .str d] ∧ Q (.bl (lePair a b c d)) H
theorem rc_leS {A : Around} {s : Shared} (a b : Str) (t u : Tok) : _root_.Ob.RcOp .LtE A s (.str a t) (.str b u) (!decide (b.cps.toList < a.cps.toList)) := fun _ _ _ _ h => PySem.P.le_str h
theorem op_leP (hu : X.A.units < cLine) : OpR X (compareOp .LtE) (rLeP X.K) := by
  intro pins s σ H x y v u Q I rx ry h
  obtain ⟨p, q, a, b, c, d, rfl, rfl, h1, h2, hq⟩ := h
  cases rx
  cases ry
  obtain ⟨its, r1, p1, _⟩ := I.tuple h1
  obtain ⟨its2, r2, p2, _⟩ := I.tuple h2
  cases r1 with
  | cons ra r1 => cases r1 with
    | cons rb r1 =>
      cases r1
      cases r2 with
      | cons rc r2 => cases r2 with
        | cons rd r2 =>
          cases r2
          obtain ⟨ta, rfl⟩ := ra
          obtain ⟨tb, rfl⟩ := rb
          obtain ⟨tc, rfl⟩ := rc
          obtain ⟨td, rfl⟩ := rd
          have beqd : ∀ x y : Str, (x == y) = decide (x = y) := fun x y => by
            by_cases e : x = y
            · rw [decide_eq_true e]; exact beq_iff_eq.mpr e
            · rw [decide_eq_false e]; exact beq_eq_false_iff_ne.mpr e
          have R := _root_.Ob.RcOp.tuples_le (A := X.A) (s := s) (e := fun j => if j = 0 then decide (a = c) else decide (b = d)) (r := fun j => if j = 0 then !decide (c.cps.toList < a.cps.toList) else !decide (d.cps.toList < b.cps.toList)) p1 p2 hu
            (fun j g1 g2 => by
              match j, g1, g2 with
              | 0, _, _ => show SeqAt.EqAt _ _ (Value.str a ta) (Value.str c tc) (decide (a = c)); rw [← beqd]; exact SeqAt.EqAt.str_str _ _ _ _
              | 1, _, _ => show SeqAt.EqAt _ _ (Value.str b tb) (Value.str d td) (decide (b = d)); rw [← beqd]; exact SeqAt.EqAt.str_str _ _ _ _)
            (fun j g1 g2 _ => by
              match j, g1, g2 with
              | 0, _, _ => exact rc_leS a c ta tc
              | 1, _, _ => exact rc_leS b d tb td)
          refine R X.prog X.w X.xe (EP X pins σ Q) ⟨.bl _, H, I, rfl, ?_⟩
          have : lePair a b c d = _root_.Ob.lexAt (fun j => if j = 0 then decide (a = c) else decide (b = d)) (fun j => if j = 0 then !decide (c.cps.toList < a.cps.toList) else !decide (d.cps.toList < b.cps.toList)) (decide (2 ≤ 2)) 0 2 := by
            unfold lePair
            rw [_root_.Ob.lexAt_succ, _root_.Ob.lexAt_succ, _root_.Ob.lexAt_zero]
            by_cases e1 : a = c
            · by_cases e2 : b = d
              · simp [e1, e2]
              · simp [e1, e2]
            · simp [e1]
          rw [this] at hq
          exact hq
def lePV (a b : Val) (st : Store) : R Val := match a, b with
  | .d (.tup [.str a, .str b]), .d (.tup [.str c, .str d]) => .ok (.d (.bl (lePair a b c d))) st
  | _, _ => .err
theorem RepD.pair {x : V} {a b : Str} (r : RepD K mg m H x (.tup [.str a, .str b])) : ∃ p, x = .ref p ∧ SqT K H p [.str a, .str b] := by
  cases r with
  | tup h r => cases r with
    | cons r1 r2 => cases r2 with
      | cons r2 r3 => cases r3; cases r1; cases r2; exact ⟨_, rfl, h.sq⟩
theorem od_leP : OpD K mg (rLeP K) lePV := by
  intro m H st x y a b Q E t rx ry h
  unfold lePV at h
  split at h
  · cases rx with
    | d rx => cases ry with
      | d ry =>
        obtain ⟨p, rfl, h1⟩ := rx.pair
        obtain ⟨q, rfl, h2⟩ := ry.pair
        exact ⟨p, q, _, _, _, _, rfl, rfl, h1, h2, okbl t h⟩
  · exact h.elim
end
end DL
end

section
set_option Elab.async false
set_option linter.all false
set_option autoImplicit false
set_option maxRecDepth 100000
set_option maxHeartbeats 4000000
/-! DLC: a caught exception that has fields: isinstance, its fields; except X as e with a suite that returns. -/
namespace EXW
open PySem PySem.Spec PySem.W PySem.Calls PyProof.Rows
section
variable {prog : Program} {w : World} {A : Around} {E : Value → Shared → Prop} {s : Shared} {K : Frag} {x D : Addr} {ox : Obj} {od : Option Obj}
/-- e.__class__ of an exception with a dict -/
theorem cls_get {Q : Option Value → Shared → Prop} (S : L2.ExcC K D) (X : K.In s.heap) (I : InstAt s.heap x ox D od) (h : Q (some (.ref D)) { s with toks := s.toks + 1 }) : wpAny (model prog w) A (getAttr? (.ref x) "__class__") Q E s := by
  have found : findObj K D od "__class__" = some (.bind (.builtin "getset_descriptor.__get__") (.builtin "object.__class__")) := by
    obtain ⟨cd, hc, _⟩ := any_some S.hd
    unfold findObj
    rw [hc, Option.bind_some, S.ha, Option.bind_some]
    simp [S.hn, S.ht]
  obtain ⟨hp, gn, dd, tk, oo⟩ := s
  have T0 := I.type (M := model prog w)
  have T1 := looks_findIn (M := model prog w) X S.hg
  have T2 := looks_findIn (M := model prog w) X S.hk
  have T3 := looks_find (M := model prog w) X I found
  have base : Looks (model prog w) hp (isInstance (.ref x) (.type "BaseException")) true := T0.andThen (looks_subIn X S.hs)
  have q0 : (false && onTheHeap (Value.builtin "BaseException.__getattribute__")) = false := rfl
  have q1 : (Value.builtin "BaseException.__getattribute__" == Value.builtin "object.__getattribute__") = false := by decide +kernel
  have q2 : (onTheHeap (Value.ref D) && Value.builtin "BaseException.__getattribute__" == Value.builtin "object.__getattribute__") = false := by rw [q1]; rfl
  unfold getAttr? getAttrBy? getAttrBy
  refine wpAny_bind (wpAny_mkText (wpAny_bind (wpAny_attempt (wpAny_holding (wpAny_bind (T0.at (wpAny_bind (T1.at ?_))))))))
  show wpAny _ _ (ite ((onTheHeap (Value.ref D) && Value.builtin "BaseException.__getattribute__" == Value.builtin "object.__getattribute__") = true) _ _) _ _ _
  rw [q2, if_neg Bool.false_ne_true]
  unfold getAttrByItsOwn hookBefore
  refine wpAny_bind ?_
  have on : onTheHeap (Value.ref D) = true := rfl
  rw [if_pos on]
  refine T2.at (wpAny_bind (wpAny_attempt (wpAny_holding ?_)))
  unfold callGetattribute
  rw [q0, if_neg Bool.false_ne_true]
  unfold boundAndCalled
  rw [PySem.F.excAttr_ValueError.ga.bind (.ref x)]
  refine wpAny_bind (wpAny_pure ?_)
  show wpAny _ _ (call (.builtin "BaseException.__getattribute__") [.ref x, .str "__class__" tk]) _ _ _
  refine wpAny_call (codeAny_call_builtin PySem.F.excAttr_ValueError.ga.plain PySem.F.entry_bexc_ga ?_)
  refine @check_slot (model prog w) _ _ ⟨hp, gn, dd, tk + 1, oo⟩ "BaseException.__getattribute__" "BaseException" "__getattribute__" (.ref x) [.str "__class__" tk] [] _ (by decide +kernel) (by decide +kernel) base (PySem.F.args_bexc_ga (.ref x) (.str "__class__" tk)) ?_
  unfold Builtin.«object.__getattribute__»
  refine wpAny_bind (wpAny_of_eq (a := ((Value.ref x : Value), [Value.str "__class__" tk])) (by first | rfl | (simp only [slotArgs]; rfl)) ?_)
  refine wpAny_bind (wpAny_pure (wpAny_bind (T0.at (wpAny_bind (T3.at ?_)))))
  show wpAny _ _ (holding [Value.builtin "object.__class__"] (call (.builtin "getset_descriptor.__get__") [.builtin "object.__class__", .ref x, .ref D]) >>= ret) _ _ _
  refine wpAny_bind (wpAny_holding (wpAny_call (class_get (s := ⟨hp, gn, dd, tk + 1, oo⟩) (ox := ox) (od := od) X I S.hm ?_)))
  refine wpAny_pure ?_
  show wpAny _ _ (handedOut (.ref D)) _ _ _
  have ho : handedOut (Value.ref D) = pure (.ref D) := handedOut_of rfl
  rw [ho]
  first
    | exact wpAny_pure (wpAny_pure h)
    | exact wpAny_pure h
    | exact wpAny_pure (wpAny_bind (wpAny_pure (wpAny_pure h)))
theorem kit_get (S : L2.ExcC K D) : KitX K (.ref x) (.ref D) (fun h => InstAt h x ox D od) := by
  obtain ⟨cd, hc, _⟩ := any_some S.hd
  obtain ⟨oc, oa, ob, osl, g⟩ : ∃ a b c d, K.lookup D = some ⟨a, b, .cls c, d⟩ := by
    unfold clsIn at hc
    split at hc
    · rename_i c d e f g
      exact ⟨_, _, _, _, g⟩
    · cases hc
  refine { ty := fun _ _ _ I => I.type, it := fun _ _ X _ => ?_, ne := fun h tp dd its n sl X htp => ?_, ca := fun X I k => cls_get S X I k }
  · intro A' Q' E' s' k q
    unfold isType loadHead
    exact wpAny_bind (wpAny_loadPart (k _ _ (X _ _ g)) (wpAny_pure q))
  · refine Bool.eq_false_iff.mpr fun q => ?_
    have e : D = tp := Value.ref.inj (beq_iff_eq.mp q)
    subst e
    have z := (X _ _ g).symm.trans htp
    cases z
end
end EXW
namespace DL
open PySem PySem.Spec PyProof.Rows L2
section
variable {X : Cx} {W : WX} {K : PySem.W.Frag} {mg : Str → Option Value} {m m' : Mp} {H H' : Hp} {st : Store} {σ σ' : L2.St} {ρ ρ' : Env}
theorem call_isX {a D : Addr} {oe : Obj} {d : Option Addr} {pn : List (Addr × Obj)} (C : ExcC X.K D) (hz : Zc (.ref D) d oe) (hf : ∃ vs, oe.data = .fields vs) : CallR (X.suite a ((a, oe) :: pn)) (.builtin "isinstance") (fun xs H Q => (∃ (dd : Addr) (fs : List (Str × V)), d = some dd ∧ H dd = some (.xd fs)) ∧ rIsE X.K D a xs H Q) := by
  intro pins s σ H xs us Q I r h
  obtain ⟨⟨dd, fs, ed, ea⟩, c, cv, b, rfl, hcv, e, q⟩ := h
  subst ed
  cases r with
  | cons rx rr =>
    cases rr with
    | cons rt rr =>
      cases rr
      cases rx
      obtain rfl := hcv _ rt
      obtain ⟨there, _⟩ := I.pin (a, oe) (List.mem_append_left _ List.mem_cons_self)
      obtain ⟨vs, hv⟩ := hf
      have hx : ObjOk X.prog X.w H s.heap dd (.xd fs) := I.hok dd _ ea
      obtain ⟨mA, hns, _⟩ := hx
      obtain ⟨od, ho, _⟩ := lookIn_ns hns
      have J : PySem.W.InstAt s.heap a oe D (some od) := ⟨there, hz.1, by unfold PySem.W.notCls; rw [hv] <;> rfl, by rw [hz.2]; exact ho⟩
      exact PySem.W.kia_one (EXW.kit_get C) I.kIn J e (fun z => nomatch z) fun tk => ⟨.bl b, H, I.kept (t' := tk) fun _ _ z => z, rfl, q⟩
/-- try: .. except x as n: a suite that returns -/
def tryAsS (i : Nat) (sub : Str → Option Bool) (b : SS) (f : Str → List Str → List D → Store → R Val) : SS := fun ρ st => match b ρ st with
  | .exc ρ' c ns vs st' => match sub c with
    | some true => if i < ρ'.length then (match f c ns vs st' with
      | .ok v st'' => .ret v st''
      | _ => .err) else .err
    | some false => .exc ρ' c ns vs st'
    | none => .err
  | r => r
/-- what the suite is proved of -/
def tSuite (K : PySem.W.Frag) (mg : Str → Option Value) (i : Nat) (a : Addr) (cls : Value) (d : Option Addr) (f : Str → List Str → List D → Store → R Val) : TS := fun Z σ H => ∃ m st c ns vs, σ[i]? = some (some (.ref a)) ∧ RepSt K mg m H st ∧ ExcAt K mg m H cls d c ns vs ∧ Post K mg m H (f c ns vs st) (AV K mg) Z.rt (fun _ _ _ => False)
theorem ds_tryAs {x n : Str} {i : Nat} {c : Value} {body suite : List Stmt} {b₀ : Stmt} {np pos pos' : Pos} {b : SS} {f : Str → List Str → List D → Store → R Val} {sub : Str → Option Bool} (hs : X.stack = X.env :: X.outer) (hf : X.env.frame = some X.env.locals) (hN : X.N.Nodup) (hi : X.N[i]? = some n) (hln : X.env.kindOf n = some .local) (hc : Names X x c) (tk : Takes X W)
    (hsub : ∀ c' cls v, X.mg c' = some cls → sub c' = some v → PySem.W.exmOne X.K cls c = some v)
    (hb : ∀ (W : WX) (pn : List (Addr × Obj)) (xe : Value → Shared → Prop), Takes (X.tr pn xe) W → PassesOwn (model X.prog X.w) X.A X.env xe → DSs (X.tr pn xe) W body b)
    (hsu : ∀ (a : Addr) (oe : Obj) (cls : Value) (d : Option Addr) (pn : List (Addr × Obj)), Zc cls d oe → (∃ vs, oe.data = .fields vs) → PSs (X.suite a ((a, oe) :: pn)) (b₀ :: suite) (tSuite X.K X.mg i a cls d f)) :
    DS X W (.Try body [.ExceptHandler (some (.Name x np)) (some n) (b₀ :: suite) pos'] [] [] pos) (tryAsS i sub b f) := by
  have base := ps_try_as (tb := fun W => tS X.K X.mg W b) (ts := fun a cls d => tSuite X.K X.mg i a cls d f) (Wout := W) (pos := pos) (pos' := pos') (np := np) hs hf hN hi hln hc tk hb hsu
  refine ⟨fun pins s σ H Z I ⟨m, ρ, st, he, ht, hp⟩ => base.run pins s σ H Z I ⟨m, ρ, st, he, ht, ?_⟩⟩
  unfold tryAsS at hp
  cases e : b ρ st with
  | nx ρ st => rw [e] at hp; exact hp
  | brk ρ st => rw [e] at hp; exact hp
  | cnt ρ st => rw [e] at hp; exact hp
  | ret v st => rw [e] at hp; exact hp
  | err => rw [e] at hp; exact hp.elim
  | exc ρ' c' ns vs st' =>
    rw [e] at hp
    intro m1 H1 σ1 cls d s1 t1 e1 x1
    simp only at hp
    cases q : sub c' with
    | none => rw [q] at hp; exact hp.elim
    | some v =>
      refine ⟨v, hsub _ _ _ x1.1 q, fun hv a ha => ?_, fun hv => ?_⟩
      · rw [q, hv] at hp
        simp only at hp
        by_cases hl : i < ρ'.length
        case neg => rw [if_neg hl] at hp; exact hp.elim
        rw [if_pos hl] at hp
        refine ⟨m1, st', c', ns, vs, ?_, t1, x1, ?_⟩
        · rw [List.getElem?_set_self]
          rw [e1.len]
          exact hl
        · cases ef : f c' ns vs st' with
          | ok v2 st2 =>
            rw [ef] at hp
            exact fun m2 H2 y s2 t2 r2 => hp m2 H2 y (s1.trans s2) t2 r2
          | exc _ _ _ _ => rw [ef] at hp; exact hp.elim
          | err => rw [ef] at hp; exact hp.elim
      · rw [q, hv] at hp
        exact hp m1 H1 σ1 cls d s1 t1 e1 x1
end
end DL
end

section
set_option Elab.async false
set_option linter.all false
set_option autoImplicit false
set_option maxRecDepth 100000
set_option maxHeartbeats 4000000
/-! DLD: a class's own == (a def over data), an __init__ of two fields, the end of a law. -/
namespace DL
open PySem PySem.Spec PyProof.Rows L2
section
variable {X : Cx} {W : WX} {K : PySem.W.Frag} {mg : Str → Option Value} {m m' : Mp} {H H' : Hp} {st : Store} {σ σ' : L2.St} {ρ ρ' : Env}
/-! ### own == -/
def rEqI (K : PySem.W.Frag) (mg : Str → Option Value) (C : Addr) (F : List Val → Store → R Val) : R2 := fun x y H Q => ∃ a b dx dy fs gs, x = .ref a ∧ y = .ref b ∧ H a = some (.ins C dx fs) ∧ H b = some (.ins C dy gs) ∧ spD K mg 2 F [x, y] H Q (fun _ _ _ => False)
theorem op_eqI {C f : Addr} {fd : FuncData} {ps : List Str} {k : Nat} {F : List Val → Store → R Val} (F0 : FnD X.prog X.w X.K X.mg X.base k f fd ps F) (hps : ps.length = 2) (hr : Room k X.A) (hg : X.A.guards = some [])
    (hs : PySem.W.findIn X.K (.ref C) "__eq__" = some (some (.ref f))) (hf : PySem.W.isFn X.K (.ref f) = true) (hb : Binds X.K fd ps []) : OpR X (compareOp .Eq) (rEqI X.K X.mg C F) := by
  intro pins s σ H x y u v Q I rx ry hq
  obtain ⟨a, b, dx, dy, fs, gs, rfl, rfl, ha, hb', hsp⟩ := hq
  obtain rfl : u = Value.ref a := rx
  obtain rfl : v = Value.ref b := ry
  obtain ⟨mA, J, _⟩ := ins_get I.hok ha
  obtain ⟨mB, J', _⟩ := ins_get I.hok hb'
  obtain ⟨oa, J, _⟩ := J.look
  obtain ⟨ob, J', _⟩ := J'.look
  obtain ⟨m1, hF⟩ := I.fr
  refine PySem.W.cmp_K (op := .Eq) (tb := .ref C) hr.units0 hF I.ok.mod.kin J J'.type (by simp [PySem.W.notFirst]) hs hf ?_
  have r2 : Vals [V.ref a, V.ref b] [Value.ref a, Value.ref b] := .cons rfl (.cons rfl .nil)
  have bd : BindsTo s fd ⟨[.ref a, .ref b], []⟩ (ps.zip [.ref a, .ref b]) := by
    have := hb s [.ref a, .ref b] I.kIn (by simpa using hps.symm)
    simpa using this
  rw [← hps] at hsp
  refine wpAny_call (codeAny_mono (run_g F0 hr hg bd (pass0 (X := X)) I r2 hsp) fun r s' z => ?_)
  cases r with
  | error e => exact z
  | ok fl => cases fl with
    | next => exact z
    | brk => exact z
    | cont => exact z
    | ret u =>
      obtain ⟨v, H', I', rv, q⟩ := z
      have back : EP X pins σ Q u s' := ⟨v, H', I', rv, q⟩
      show PySem.W.CmpBack (EP X pins σ Q) u s'
      cases u <;> first | exact back | (exact (by cases v <;> first | (cases rv; done) | (obtain ⟨_, z⟩ := rv; cases z)))
/-- a == b of two instances of the class c whose own == is F -/
def eqIV (c : Str) (F : List Val → Store → R Val) (a b : Val) (st : Store) : R Val := match a, b with
  | .d (.ins c1 _ _), .d (.ins c2 _ _) => if c1 = c ∧ c2 = c then noX (F [a, b] st) else .err
  | _, _ => .err
theorem od_eqI {c : Str} {C : Addr} {F : List Val → Store → R Val} (hm : mg c = some (.ref C)) : OpD K mg (rEqI K mg C F) (eqIV c F) := fun m H st x y a b Q E t rx ry h => by
  unfold eqIV at h
  split at h
  · rename_i c1 _ _ c2 _ _
    by_cases hc : c1 = c ∧ c2 = c
    · rw [if_pos hc] at h
      obtain ⟨rfl, rfl⟩ := hc
      have rx0 := rx
      have ry0 := ry
      cases rx with
      | d rx => cases ry with
        | d ry => cases rx with
          | ins h1 h2 h3 h4 h5 h6 => cases ry with
            | ins g1 g2 g3 g4 g5 g6 =>
              rw [hm] at h3 g3
              cases h3
              cases g3
              exact ⟨_, _, _, _, _, _, rfl, rfl, h1, g1, rfl, m, st, _, t, .cons rx0 (.cons ry0 .nil), noX_of h⟩
    · rw [if_neg hc] at h; exact h.elim
  · exact h.elim
end
/-! ### an __init__ of two fields -/
theorem init_two {P : Program} {w : World} {K : PySem.W.Frag} {mg : Str → Option Value} {base : Heap} {x qual a b c fx fy : Str} {st : Stmt} {f C : Addr} {fd : FuncData} {k : Nat} {p1 p2 p3 p4 p5 p6 p7 p8 : Pos}
    (F : Fun K x qual st f fd) (S : FnScope [a, b, c] [a, b, c] (defScope st)) (hbody : defBody st = [.Assign [.Attribute (.Name a p1) fx p2] (.Name b p3) p4, .Assign [.Attribute (.Name a p5) fy p6] (.Name c p7) p8])
    (hC : Cls K C) (nx : NoAttr K C fx) (ny : NoAttr K C fy) (hne : fx ≠ fy)
    (hv : ∀ z ∈ [a, b, c], Vis (defScope st) z ∧ (z == ("__debug__" : Str)) = false ∧ (z == ("__classdict__" : Str)) = false) : FnOk P w K mg base CX0 (k + 1) f fd [a, b, c] (spInit C [fx, fy]) := by
  refine F.ok S (fun vs H Q E ⟨x, dx, ws, e, l, _⟩ => by rw [e]; simp [l]) fun cdv A outer s H vs Q E hr ⟨x, dx, ws, e, l, hx, hq⟩ => ?_
  obtain ⟨v, u, rfl⟩ : ∃ v u, ws = [v, u] := by
    match ws, l with
    | [v, u], _ => exact ⟨v, u, rfl⟩
  subst e
  rw [hbody]
  obtain ⟨a1, a2, a3⟩ := hv a (by simp)
  obtain ⟨b1, b2, b3⟩ := hv b (by simp)
  obtain ⟨c1, c2, c3⟩ := hv c (by simp)
  refine ⟨_, pss_cons (ps_fld (pe_var (i := 0) rfl a1 a2 a3) (pe_var (i := 1) rfl b1 b2 b3) rfl) (pss_one (ps_fld (pe_var (i := 0) rfl a1 a2 a3) (pe_var (i := 2) rfl c1 c2 c3) rfl)), ?_⟩
  refine ⟨v, rfl, .ref x, rfl, x, C, dx, [], rfl, hx, hC, nx, by decide, u, rfl, .ref x, rfl, x, C, dx, _, rfl, upd_same, hC, ny, ?_, ?_⟩
  · show 1 < 1000; decide
  · rw [upd_upd]
    have : putF fy u (putF fx v []) = [fx, fy].zip [v, u] := by
      simp [putF, hne]
    rw [this]
    exact hq
end DL
end

section
set_option Elab.async false
set_option linter.all false
set_option autoImplicit false
set_option maxRecDepth 100000
set_option maxHeartbeats 4000000
/-! DLE: the end of a law whose def is told over data. -/
namespace DL
open PySem PySem.Spec PyProof.Rows L2
theorem scr_of {K : PySem.W.Frag} {H : Hp} {a : Addr} {vs : List V} (hO : Only H) (h : SqL K H a vs) : ScrAt K ⟨[], []⟩ H a vs := by
  rcases h with (h | ⟨o, h⟩) | h
  · rcases hO a with z | ⟨o, xs, z⟩
    · rw [h] at z; cases z
    · rw [h] at z; cases z
  · refine .inl ⟨o, h, fun z => ?_⟩
    rcases z with z | z <;> cases z
  · exact .inr fun H' => .inr h
theorem rep_ints {K : PySem.W.Frag} {mg : Str → Option Value} {m : Mp} {H : Hp} : ∀ ns : List Int, RepDs K mg m H (ns.map V.int) (ns.map D.int)
  | [] => .nil
  | n :: ns => .cons (.int n) (rep_ints ns)
theorem st_none {K : PySem.W.Frag} {mg : Str → Option Value} {H : Hp} : RepSt K mg ⟨[], []⟩ H [] := ⟨fun n => trivial, fun i j a h => by simp at h, fun a h => by simp at h, fun a h => by simp at h⟩
theorem sp_scr {K : PySem.W.Frag} {mg : Str → Option Value} {H : Hp} {a : Addr} {ns : List Int} {G : List Val → Store → R Val} (hO : Only H) (h : SqL K H a (ns.map V.int)) (hG : ∃ st, G [.scr (ns.map D.int)] [] = .ok (.d (.bl true)) st) :
    spD K mg 1 G [.ref a] H (fun v _ => v = .bl true) (fun _ _ _ => False) := by
  obtain ⟨st, e⟩ := hG
  refine ⟨rfl, ⟨[], []⟩, [], _, st_none, .cons (.scr (scr_of hO h) (rep_ints ns)) .nil, ?_⟩
  rw [e]
  intro m' H' x _ _ r
  cases r with
  | d r => cases r; rfl
/-- a heap where at most the script is tracked, from that of the top -/
theorem hid_mod {P : Program} {w : World} {K : PySem.W.Frag} {mg mb : Str → Option Value} {a : Addr} {s : Shared} {vs : List Value} {H : Hp} (KX : K.In s.heap) (hns : s.heap.Ns mainGlobals mg) (hb : s.heap.Ns builtinsNs mb) (hbb : ∀ x : Str, x ≠ "__name__" → mb x = bootBuiltins x) (hlim : s.heap.NoLimit)
    (ha : s.heap.get? a = some { cls := .type "list", data := .seq vs.toArray }) (hA : ∀ b, H b ≠ none → b = a) (hK : H a ≠ none → K.lookup a = none) : Mod K mg (hidT s.heap H) := by
  have away : ∀ {b : Addr} {o : Obj}, s.heap.get? b = some o → (b = a → H a = none) → (hidT s.heap H).get? b = some o := fun {b o} e n => hidT_get e (by
    cases q : H b with
    | none => rfl
    | some u =>
      obtain rfl := hA b (by rw [q]; exact fun z => nomatch z)
      rw [n rfl] at q
      cases q)
  have ns : ∀ {b : Addr} {z : Str → Option Value}, s.heap.Ns b z → (hidT s.heap H).Ns b z := fun {b z} ⟨o, es, ep, e, d, r⟩ => by
    by_cases c : b = a
    · subst c
      rw [ha] at e
      cases e
      cases d
    · exact ⟨o, es, ep, away e fun z => absurd z c, d, r⟩
  obtain ⟨ml, l1, l2⟩ := hlim
  refine ⟨fun b o e => away (KX b o e) fun c => ?_, ns hns, ⟨mb, ns hb, hbb⟩, ml, ns l1, l2⟩
  subst c
  cases q : H b with
  | none => rfl
  | some u => rw [hK (by rw [q]; exact fun z => nomatch z)] at e; cases e
theorem law_run {P : Program} {w : World} {K : PySem.W.Frag} {mg mb : Str → Option Value} {k : Nat} {fa a : Addr} {fd : FuncData} {x : Str} {G : List Val → Store → R Val} {s : Shared} {vs : List Value} {ns : List Int}
    (KX : K.In s.heap) (hns : s.heap.Ns mainGlobals mg) (hb : s.heap.Ns builtinsNs mb) (hbb : ∀ x : Str, x ≠ "__name__" → mb x = bootBuiltins x) (hlim : s.heap.NoLimit) (hg : s.gens = #[])
    (ha : s.heap.get? a = some { cls := .type "list", data := .seq vs.toArray }) (hi : IntsAre vs ns) (hl : ns.length ≤ sizeLine) (hr : Room k callerA)
    (F : ∀ base : Heap, K.In base → base.Ns mainGlobals mg → FnD P w K mg base k fa fd [x] G) (bind : ∀ (s : Shared) (u : Value), BindsTo s fd ⟨[u], []⟩ [(x, u)])
    (hG : ∃ st, G [.scr (ns.map D.int)] [] = .ok (.d (.bl true)) st) :
    codeAny (model P w) callerA (.call (.ref fa) ⟨[.ref a], []⟩) (fun r s' => r = .ok (.ret (.bool true)) ∧ OldK s.heap s'.heap ∧ s'.os = s.os ∧ AllBare s'.gens) s := by
  have rv := vals_ints hi
  have lv := hi.length
  have go : ∀ H : Hp, Only H → SqL K H a (ns.map V.int) → HOk P w H s.heap → (∀ b, H b ≠ none → b = a) → (H a ≠ none → K.lookup a = none) →
      codeAny (model P w) callerA (.call (.ref fa) ⟨[.ref a], []⟩) (fun r s' => r = .ok (.ret (.bool true)) ∧ OldK s.heap s'.heap ∧ s'.os = s.os ∧ AllBare s'.gens) s := fun H hO hS hok hA hK => by
    have hM := hid_mod (P := P) (w := w) KX hns hb hbb hlim ha hA hK
    have none_in : ∀ b : Addr, ¬ b ∈ ([] : List Addr) := fun b z => by cases z
    have e0 : Env0 P w K mg (hidT s.heap H) callerA [] s H := ⟨rfl, hM, fun b o e => of_hidT e, Nat.le_of_eq (hidT_size _ _), trivial, fun b hb => absurd hb (none_in b), hok, .of_eq hg⟩
    refine codeAny_mono ((F _ hM.kin hM.glob).run callerA hr rfl [] s H ⟨[.ref a], []⟩ [.ref a] [.ref a] _ _ e0 (bind s (.ref a)) (.cons rfl .nil) (sp_scr hO hS hG)) fun r s' h => ?_
    match r, h with
    | .ok (.ret u), ⟨v, H', os, bare, un, hok', r', q⟩ =>
      subst q
      obtain rfl : u = Value.bool true := r'
      refine ⟨rfl, OldK.of_keep fun b o e => ?_, os, bare⟩
      cases q : H b with
      | none => exact un.keep b o e q (none_in b) (by simp)
      | some u =>
        rcases hO b with z | ⟨ob, xs, z⟩
        · rw [q] at z; cases z
        · have c1 := (hok b _ z).1
          have c2 := (hok' b _ (un.frzs b ob _ z)).1
          rw [e] at c1
          cases c1
          exact c2
  cases hk : K.lookup a with
  | some o =>
    have e := KX a o hk
    rw [ha] at e
    cases e
    exact go (fun _ => none) (fun _ => .inl rfl) (.inr ⟨_, vs.toArray, _, hk, rfl, rfl, rfl, by rw [List.size_toArray, lv]; exact hl, by simpa using rv⟩) (fun b u z => by cases z) (fun b z => absurd rfl z) fun z => absurd rfl z
  | none =>
    let ob : Obj := { cls := .type "list", data := .seq vs.toArray }
    have at_ : ∀ {b : Addr} {u : HO}, (if b = a then some (HO.frz ob (.lst (ns.map V.int))) else none) = some u → b = a ∧ u = .frz ob (.lst (ns.map V.int)) := fun {b u} z => by
      by_cases c : b = a
      · rw [if_pos c] at z; cases z; exact ⟨c, rfl⟩
      · rw [if_neg c] at z; cases z
    refine go (fun b => if b = a then some (.frz ob (.lst (ns.map V.int))) else none) (fun b => ?_) (.inl (.inr ⟨ob, if_pos rfl⟩)) (fun b u z => ?_) (fun b z => ?_) fun _ => hk
    · by_cases c : b = a
      · exact .inr ⟨_, _, if_pos c⟩
      · exact .inl (if_neg c)
    · obtain ⟨c, e⟩ := at_ z
      subst c e
      exact ⟨ha, by rw [List.length_map]; exact hl, vs, _, rv, ha⟩
    · by_cases c : b = a
      · exact c
      · exact absurd (if_neg c) z
/-- the head's goal, from the law's def told over data -/
theorem law_d {l : PySem.W.OpenLaw} {n k : Nat} {q : Program} {loose : List Str} {XP : (Str → Option Value) → Heap → Prop} {YP : World → Heap → Prop} {d : DefRec} {K : Params → PySem.W.Frag} {x : Str} {G : List Val → Store → R Val}
    (hn : l.most = some n) (hn2 : n ≤ sizeLine) (hdf : d.params.defaults = []) (hr : Room k callerA)
    (hY : ∀ (w : World) (h : Heap), YP w h → (K w.params).In h)
    (F : ∀ (w : World) (mg : Str → Option Value) (fa : Addr) (h : Heap), (K w.params).In h → h.Ns mainGlobals mg → mg d.name = some (.ref fa) →
      ∃ fd : FuncData, (∀ (s : Shared) (u : Value), BindsTo s fd ⟨[u], []⟩ [(x, u)]) ∧
        ∀ base : Heap, (K w.params).In base → base.Ns mainGlobals mg → FnD l.prog w (K w.params) mg base k fa fd [x] G)
    (hG : ∀ ns : List Int, ns.length ≤ n → ∃ st, G [.scr (ns.map D.int)] [] = .ok (.d (.bl true)) st) :
    PySem.W.WalkO q loose XP YP l.row.toRowW d [] (fun f vs => PySem.call f vs) := by
  refine Att.attach_call hn hdf fun w s₀ s₁ mg mb fa o pm cd doc a vs ns G0 Y ho hd hcd hmg hobj hints hlen hg => ?_
  have KX := hY w _ Y
  obtain ⟨fd, hb, hF⟩ := F w mg fa _ KX G0.T.g hmg
  exact law_run KX G0.T.g G0.T.b G0.T.builtins G0.T.nolimit hg hobj hints (Nat.le_trans hlen hn2) hr hF hb (hG ns hlen)
end DL
end

section
set_option Elab.async false
set_option linter.all false
set_option autoImplicit false
set_option maxRecDepth 100000
set_option maxHeartbeats 4000000
/-! DLF: what a body asks of the defs and classes that it calls. -/
namespace DL
open PySem PySem.Spec PyProof.Rows L2
structure DefOk (P : Program) (w : World) (K : PySem.W.Frag) (mg : Str → Option Value) (base : Heap) (k : Nat) (x : Str) (ps : List Str) (F : List Val → Store → R Val) : Prop where
  ex : ∃ f fd, FnD P w K mg base k f fd ps F ∧ mg x = some (.ref f) ∧ PySem.W.keepIn K (.ref f) = true ∧ Binds K fd ps []
structure DefOkX (P : Program) (w : World) (K : PySem.W.Frag) (mg : Str → Option Value) (base : Heap) (k : Nat) (x : Str) (ps : List Str) (F : List Val → Store → R Val) : Prop where
  ex : ∃ f fd, FnX P w K mg base k f fd ps F ∧ mg x = some (.ref f) ∧ PySem.W.keepIn K (.ref f) = true ∧ Binds K fd ps []
/-- .. and by keyword, one parameter -/
structure DefOkK (P : Program) (w : World) (K : PySem.W.Frag) (mg : Str → Option Value) (base : Heap) (k : Nat) (x : Str) (a : Str) (F : List Val → Store → R Val) : Prop where
  ex : ∃ f fd, FnD P w K mg base k f fd [a] F ∧ mg x = some (.ref f) ∧ PySem.W.keepIn K (.ref f) = true ∧ KB K fd [a] [a] (fun ws => ws)
structure DefOkKX (P : Program) (w : World) (K : PySem.W.Frag) (mg : Str → Option Value) (base : Heap) (k : Nat) (x : Str) (a : Str) (F : List Val → Store → R Val) : Prop where
  ex : ∃ f fd, FnX P w K mg base k f fd [a] F ∧ mg x = some (.ref f) ∧ PySem.W.keepIn K (.ref f) = true ∧ KB K fd [a] [a] (fun ws => ws)
structure MakeOk (P : Program) (w : World) (K : PySem.W.Frag) (mg : Str → Option Value) (base : Heap) (k : Nat) (c : Str) (ps ns : List Str) : Prop where
  ex : ∃ C f fd, Mk K C f ∧ FnOk P w K mg base CX0 k f fd ps (spInit C ns) ∧ mg c = some (.ref C) ∧ Binds K fd ps []
structure EqOk (P : Program) (w : World) (K : PySem.W.Frag) (mg : Str → Option Value) (base : Heap) (k : Nat) (c : Str) (ps : List Str) (F : List Val → Store → R Val) : Prop where
  ex : ∃ C f fd, FnD P w K mg base k f fd ps F ∧ mg c = some (.ref C) ∧ PySem.W.findIn K (.ref C) "__eq__" = some (some (.ref f)) ∧ PySem.W.isFn K (.ref f) = true ∧ Binds K fd ps []
structure RaiseOk (prog : Program) (K : PySem.W.Frag) (mg : Str → Option Value) (c : Str) : Prop where
  ex : ∃ C f scope body, EX.SupC prog K C f scope body ∧ EX.SupBody scope body ∧ mg c = some (.ref C)
section
variable {P : Program} {w : World} {K : PySem.W.Frag} {mg : Str → Option Value} {base : Heap} {j k : Nat} {x c : Str} {ps ns : List Str} {F : List Val → Store → R Val}
theorem DefOk.mono (D : DefOk P w K mg base j x ps F) (h : j ≤ k) : DefOk P w K mg base k x ps F := ⟨let ⟨f, fd, a, b⟩ := D.ex; ⟨f, fd, a.mono h, b⟩⟩
end
section
variable {X : Cx} {W : WX} {K : PySem.W.Frag} {mg : Str → Option Value} {m m' : Mp} {H H' : Hp} {st : Store} {σ σ' : L2.St} {ρ ρ' : Env} {F : List Val → Store → R Val} {fs : SA} {k : Nat} {ps ns : List Str} {x c : Str} {p pos : Pos} {e : Expr} {es : List Expr}
theorem de_callD (D : DefOk X.prog X.w X.K X.mg X.base k x ps F) (hr : Room k X.A) (hgd : X.A.guards = some []) (hg : Gl X x) (ha : DA X W (e :: es) fs) (hl : ∀ ρ st as st', fs ρ st = .ok as st' → as.length = ps.length)
    (hdb : (x == ("__debug__" : Str)) = false := by decide) (he : starEach (e :: es) X.env = (false, eval e X.env) :: starEach es X.env := by rfl) (hpl : (backTo pos (starEach es X.env)).any (·.1) = false := by rfl) : DE X W (.Call (.Name x p) (e :: es) [] pos) (callE F fs) := by
  obtain ⟨f, fd, F0, hm, hk, hb⟩ := D.ex
  exact de_call F0 hr hgd hg hm hk hb ha hl hdb he hpl
theorem de_callDX (D : DefOkX X.prog X.w X.K X.mg X.base k x ps F) (tk : Takes X W) (hr : Room k X.A) (hgd : X.A.guards = some []) (hg : Gl X x) (ha : DA X W (e :: es) fs) (hl : ∀ ρ st as st', fs ρ st = .ok as st' → as.length = ps.length)
    (hdb : (x == ("__debug__" : Str)) = false := by decide) (he : starEach (e :: es) X.env = (false, eval e X.env) :: starEach es X.env := by rfl) (hpl : (backTo pos (starEach es X.env)).any (·.1) = false := by rfl) : DE X W (.Call (.Name x p) (e :: es) [] pos) (callX F fs) := by
  obtain ⟨f, fd, F0, hm, hk, hb⟩ := D.ex
  exact de_callX F0 tk hr hgd hg hm hk hb ha hl hdb he hpl
theorem de_makeD (D : MakeOk X.prog X.w X.K X.mg X.base k c ps ns) (hr : Room (k + 1) X.A) (hg : Gl X c) (ha : DA X W (e :: es) fs)
    (hdb : (c == ("__debug__" : Str)) = false := by decide) (he : starEach (e :: es) X.env = (false, eval e X.env) :: starEach es X.env := by rfl) (hpl : (backTo pos (starEach es X.env)).any (·.1) = false := by rfl) : DE X W (.Call (.Name c p) (e :: es) [] pos) (makeE c ns fs) := by
  obtain ⟨C, f, fd, M, F0, hm, hb⟩ := D.ex
  exact de_make M F0 hr hg hm hb ha hdb he hpl
theorem de_eqI {a b : Expr} {fa fb : SE} (D : EqOk X.prog X.w X.K X.mg X.base k c ps F) (hps : ps.length = 2) (hr : Room k X.A) (hgd : X.A.guards = some []) (ha : DE X W a fa) (hb : DE X W b fb) : DE X W (.Compare a [.Eq] [b] pos) (op2 (eqIV c F) fa fb) := by
  obtain ⟨C, f, fd, F0, hm, hs, hf, hbd⟩ := D.ex
  exact de_cmp (op_eqI F0 hps hr hgd hs hf hbd) (od_eqI hm) ha hb
theorem dt_eqI {a b : Expr} {fa fb : SE} (D : EqOk X.prog X.w X.K X.mg X.base k c ps F) (hps : ps.length = 2) (hr : Room k X.A) (hgd : X.A.guards = some []) (ha : DE X W a fa) (hb : DE X W b fb) : DT X W (.Compare a [.Eq] [b] pos) (asB (op2 (eqIV c F) fa fb)) := by
  obtain ⟨C, f, fd, F0, hm, hs, hf, hbd⟩ := D.ex
  exact dt_cmp (op_eqI F0 hps hr hgd hs hf hbd) (od_eqI hm) ha hb
theorem ds_raiseD {rpos : Pos} {f : SE} (D : RaiseOk X.prog X.K X.mg c) (hc : X.calm = true) (tk : Takes X W) (hsup : X.mg "super" = none) (hr : Room (k + 1) X.A) (hg : Gl X c) (he : DE X W e f)
    (hdb : (c == ("__debug__" : Str)) = false := by decide) (hs : starEach [e] X.env = (false, eval e X.env) :: starEach [] X.env := by rfl) (hpl : (backTo pos (starEach [] X.env)).any (·.1) = false := by rfl) :
    DS X W (.Raise (some (.Call (.Name c p) [e] [] pos)) none rpos) (raiseS c f) := by
  obtain ⟨C, fI, scope, body, S, B, hm⟩ := D.ex
  exact ds_raise (k := k) hc tk S B hsup hr hg hm he hdb hs hpl
/-- f(a = v) -/
theorem de_callDK {a : Str} {kpos : Pos} {fe : SE} (D : DefOkK X.prog X.w X.K X.mg X.base k x a F) (hr : Room k X.A) (hgd : X.A.guards = some []) (hg : Gl X x) (he : DE X W e fe)
    (hdb : (x == ("__debug__" : Str)) = false := by decide)
    (hall : (backToKw pos (keywordEach [⟨some a, e, kpos⟩] X.env)).all (·.1.isSome) = true := by rfl) (hks : (backToKw pos (keywordEach [⟨some a, e, kpos⟩] X.env)).filterMap (·.1) = [a] := by rfl)
    (hpl : ((backTo pos (starEach [] X.env)).any (·.1) || (backToKw pos (keywordEach [⟨some a, e, kpos⟩] X.env)).any (·.1.isNone)) = false := by rfl) : DE X W (.Call (.Name x p) [] [⟨some a, e, kpos⟩] pos) (callE F (consA fe nilA)) := by
  obtain ⟨f, fd, F0, hm, hk, hb⟩ := D.ex
  exact de_callK F0 hr hgd hg hm hk hb (dk_cons he dk_nil) (len_consA len_nilA) hall hks hdb hpl
theorem de_callDKX {a : Str} {kpos : Pos} {fe : SE} (D : DefOkKX X.prog X.w X.K X.mg X.base k x a F) (tk : Takes X W) (hr : Room k X.A) (hgd : X.A.guards = some []) (hg : Gl X x) (he : DE X W e fe)
    (hdb : (x == ("__debug__" : Str)) = false := by decide)
    (hall : (backToKw pos (keywordEach [⟨some a, e, kpos⟩] X.env)).all (·.1.isSome) = true := by rfl) (hks : (backToKw pos (keywordEach [⟨some a, e, kpos⟩] X.env)).filterMap (·.1) = [a] := by rfl)
    (hpl : ((backTo pos (starEach [] X.env)).any (·.1) || (backToKw pos (keywordEach [⟨some a, e, kpos⟩] X.env)).any (·.1.isNone)) = false := by rfl) : DE X W (.Call (.Name x p) [] [⟨some a, e, kpos⟩] pos) (callX F (consA fe nilA)) := by
  obtain ⟨f, fd, F0, hm, hk, hb⟩ := D.ex
  exact de_callKX F0 tk hr hgd hg hm hk hb (dk_cons he dk_nil) (len_consA len_nilA) hall hks hdb hpl
theorem takes_none : Takes X WF := fun u s' ⟨_, _, _, _, _, _, _, _, _, _, _, _, _, _, _, _, w⟩ => w.elim
/-- xs[::-1], a new list that may change -/
def revC (f : SE) : SE := fun ρ st => bindR (f ρ st) fun v st => match listOrScr st v with
  | some xs => .ok (.ref st.length) (st ++ [some (.lst (xs.reverse.map Val.d))])
  | none => .err
theorem refs_map_d {n : Nat} {xs : List D} : ∀ k, Val.ref k ∈ xs.map Val.d → k < n := fun k h => by
  obtain ⟨x, _, e⟩ := List.mem_map.mp h
  cases e
theorem cell_new {vs : List V} {xs : List Val} {Q : VK} {E : XK} (hp : Post K mg m H (.ok (.ref st.length) (st ++ [some (.lst xs)])) (AV K mg) Q E) (t : RepSt K mg m H st) (r : RepVs K mg m H vs xs) (hw : ∀ k, Val.ref k ∈ xs → k < st.length) (p : Addr) (hn : H p = none) : Q (.ref p) (upd H p (.lst vs)) := by
  refine hp (m.push p) _ _ (Step.newCell hn) (t.newCell hn r hw) (.ref (by show _ < (m.c ++ [some p]).length; rw [List.length_append, ← t.len]; exact Nat.lt_succ_self _) fun b e => ?_)
  have e : (m.c ++ [some p])[_]? = _ := e
  rw [← t.len, List.getElem?_append_right (Nat.le_refl _), Nat.sub_self] at e
  cases e
  rfl
theorem de_revC {e : Expr} {k : Nat} {p1 p2 p3 pos : Pos} {f : SE} (he : DE X W e f) : DE X W (.Subscript e (.Slice none none (some (.UnaryOp .USub (.Constant (.int 1) k p1) p2)) p3) pos) (revC f) :=
  (pe_revL he).imp fun σ H Q ⟨m, ρ, st, he, hs, hp⟩ => ⟨m, ρ, st, he, hs, (Post.bind hp).mono fun x H1 ⟨m1, a, st1, s1, t1, r1, p1⟩ => by
    cases ea : listOrScr st1 a with
    | none => simp only [ea] at p1; exact p1.elim
    | some xs =>
      simp only [ea] at p1
      obtain ⟨a, vs, rfl, hq, r⟩ := listOrScr_at t1 r1 ea
      exact ⟨a, vs, rfl, hq, fun p hn => cell_new p1 t1 r.reverse.vs refs_map_d p hn⟩⟩
/-- isinstance(e, T), T a built-in type or a class of the module -/
def isTab (T : String) (Ts : List (String × Bool)) (Cs : List (Str × Bool)) : Ty → Option Bool
  | .b s => Ts.lookup s
  | .o c => Cs.lookup c
end
/-- how one keyword binds -/
theorem kb_one {K : PySem.W.Frag} {x qual a : Str} {st : Stmt} {f : Addr} {fd : FuncData} (F : Fun K x qual st f fd)
    (h : ∀ (kV doc pm : Value) (an : Option Addr) (cdv ct u : Value), bindArgs (PySem.W.fnOf x qual (defArgs st) (defBody st) (defScope st) .none kV doc pm an cdv ct) ⟨[], [(a, u)]⟩ = pure [(a, u)]) : KB K fd [a] [a] (fun ws => ws) := by
  obtain ⟨oc, od, kV, doc, pm, an, cdv, ct, osl, rfl, lk, hcd⟩ := F.ex
  refine ⟨fun s ws l => ?_, fun _ r => r, fun ws l => l, fun _ r => r⟩
  match ws, l with
  | [u], _ => exact .of_eq (h kV doc pm an cdv ct u)
end DL
end

section
set_option Elab.async false
set_option linter.all false
set_option autoImplicit false
set_option maxRecDepth 100000
set_option maxHeartbeats 4000000
/-! printed by gen.py with conf50.py: the defs of k50 over plain data. -/
namespace K50
open PySem PySem.Spec PyProof.Rows L2 DL
def top (i : Nat) : Stmt := PySem.Challenge.pw_turnsfit_k50_whole_texts_of_turnings_the.main.body.getD i (.Pass ⟨0, 0, 0, 0⟩)
def meth (i j : Nat) : Stmt := match top i with
  | .ClassDef _ _ _ body _ _ _ _ _ _ _ => body.getD j (.Pass ⟨0, 0, 0, 0⟩)
  | s => s
def handlerBody : Stmt → List Stmt
  | .Try _ [.ExceptHandler _ _ b _] _ _ _ => b
  | _ => []
theorem dt_w {X : Cx} {W : WX} {e : Expr} {g : ST} (h : DW X W e g) : DT X W e g := h.pt
theorem room65 {k : Nat} {A : Around} (r : Room k A) : A.units + 65 < cLine := by have := r.un; omega
theorem room80 {k : Nat} {A : Around} (r : Room k A) : A.units + 80 < cLine := by have := r.un; omega
def tab_str : Ty → Option Bool := isTab "str" [("NoneType", false), ("bool", false), ("int", false), ("str", true), ("list", false), ("tuple", false)] [(("Turning" : Str), false)]
def tab_tuple : Ty → Option Bool := isTab "tuple" [("NoneType", false), ("bool", false), ("int", false), ("str", false), ("list", false), ("tuple", true)] [(("Turning" : Str), false)]
def tab_Turning : Ty → Option Bool := isTab "Turning" [("NoneType", false), ("bool", false), ("int", false), ("str", false), ("list", false), ("tuple", false)] [(("Turning" : Str), true)]
def sub_InvalidText : Str → Option Bool := fun c => if c = ("InvalidText" : Str) then some true else none
theorem sub_ok_InvalidText {K : PySem.W.Frag} {mg : Str → Option Value} {A : Addr} (hm : mg "InvalidText" = some (.ref A)) (h : PySem.W.exmOne K (.ref A) (.ref A) = some true) : ∀ c cls v, mg c = some cls → sub_InvalidText c = some v → PySem.W.exmOne K cls (.ref A) = some v := fun c cls v e q => by
  unfold sub_InvalidText at q
  split at q
  · rename_i z; cases q; rw [z, hm] at e; cases e; exact h
  · cases q
structure Fx (P : Program) (K : PySem.W.Frag) (mg : Str → Option Value) : Prop where
  b_len : mg "len" = none
  n_LONGEST_NAME : ∃ t, mg "LONGEST_NAME" = some (.int 8 t)
  b_isinstance : mg "isinstance" = none
  t_str : ∀ t b, tab_str t = some b → TabOk K mg (.type "str") t b
  b_str : mg "str" = none
  s_LETTERS : ∃ t, mg "LETTERS" = some (.str "abcdefghijklmnopqrstuvwxyz" t)
  b_all : mg "all" = none
  n_LONGEST_TEXT : ∃ t, mg "LONGEST_TEXT" = some (.int 16 t)
  s_SIGNS : ∃ t, mg "SIGNS" = some (.str "abcdefghijklmnopqrstuvwxyz0123456789 " t)
  t_tuple : ∀ t b, tab_tuple t = some b → TabOk K mg (.type "tuple") t b
  b_tuple : mg "tuple" = none
  c_Turning : ∃ C, mg "Turning" = some (.ref C) ∧ Cls K C ∧ NoAttr K C "rules" ∧ NoAttr K C "mode" ∧ (∀ t b, tab_Turning t = some b → TabOk K mg (.ref C) t b)
  b_super : mg "super" = none
  x_InvalidText : ∃ C, mg "InvalidText" = some (.ref C) ∧ PySem.W.exmOne K (.ref C) (.ref C) = some true
  b_range : mg "range" = none
  b_int : mg "int" = none
  b_abs : mg "abs" = none
  b_repr : mg "repr" = none
  told : ∃ A1 A2 A3, mg "InvalidText" = some (.ref A1) ∧ mg "FitError" = some (.ref A2) ∧ mg "InvalidTurning" = some (.ref A3) ∧ XfC K A1 ∧ PySem.W.findIn K (.ref A1) "at" = some none ∧ ExcC K A1 ∧ PySem.W.kitOne K (.ref A1) (.ref A2) = some true ∧ PySem.W.kitOne K (.ref A1) (.ref A3) = some false
section
variable {P : Program} {w : World} {K : PySem.W.Frag} {mg : Str → Option Value} {base : Heap} {f : Addr}
/-! ### is_name -/
abbrev s_is_name : Stmt := (top 9)
def N_is_name : List Str := [("value" : Str), ("sign" : Str)]
theorem sc_is_name : FnScope N_is_name [("value" : Str)] (defScope s_is_name) := ⟨rfl, rfl, rfl, by decide +kernel, rfl, by decide +kernel, by decide +kernel⟩
def g_is_name : SS := (seqS (ifS (orT (notT (asB (isiE tab_str (varE 0)))) (notT (asB (chainE (leV) (leV) (cE (.int 1)) (bltE (one lenV) (consA (varE 0) nilA)) (cE (.int 8)))))) (retS (cE (.bl false))) nxS) (retS (bltE (one (allV true)) (consA (lcE (seqI (varE 0)) (nameG 1) yesT (op2 (inV false) (varE 1) (cE (.str ("abcdefghijklmnopqrstuvwxyz" : Str)))) [1]) nilA))))
def F_is_name : List Val → Store → R Val := funD N_is_name.length g_is_name
theorem b_is_name (FX : Fx P K mg) : BodyOk P w K mg base ("is_name" : Str) s_is_name f N_is_name 0 g_is_name := by
  intro cdv A outer sh H E hr hg
  have h_b_len := FX.b_len
  obtain ⟨t_n_LONGEST_NAME, h_n_LONGEST_NAME⟩ := FX.n_LONGEST_NAME
  have h_b_isinstance := FX.b_isinstance
  have h_t_str := FX.t_str
  have h_b_str := FX.b_str
  obtain ⟨t_s_LETTERS, h_s_LETTERS⟩ := FX.s_LETTERS
  have h_b_all := FX.b_all
  exact (dss_cons (ds_if (dt_w (dw_or (dt_not (dt_val (de_isi (pe_bltn rfl h_b_str PySem.Pv.boot_str (v := .ty "str") rfl) (.ty _) h_t_str rfl h_b_isinstance (dv 0)))) (dw_or1 (dt_not (dt_chain (op_leA) (op_leA) od_le od_le de_int (de_blt call_len cd_len rfl h_b_len PySem.boot_len (da_cons (dv 0) da_nil)) (de_globI rfl h_n_LONGEST_NAME)))))) (dss_one (ds_ret de_bl)) dss_nil) (dss_one (ds_ret (de_blt (cr_all rfl) cd_all rfl h_b_all PyProof.Rows.boot_all (da_cons (de_lc (own := [(("sign" : Str), 1)]) rfl (sc_is_name).nd (di_seq (dv 0)) (blkOk_by (N := N_is_name) (sc := defScope s_is_name) (by decide +kernel)) (fun _ _ _ _ _ => (dg_name (sc_is_name).nd rfl (.inl rfl))) (fun _ _ _ _ _ => dts_nil) (fun _ _ _ _ _ => (de_cmp (op_inA (room65 hr)) od_in (dv 1) (de_globS rfl h_s_LETTERS)))) da_nil)))))
/-! ### is_text -/
abbrev s_is_text : Stmt := (top 10)
def N_is_text : List Str := [("value" : Str), ("sign" : Str)]
theorem sc_is_text : FnScope N_is_text [("value" : Str)] (defScope s_is_text) := ⟨rfl, rfl, rfl, by decide +kernel, rfl, by decide +kernel, by decide +kernel⟩
def g_is_text : SS := (seqS (ifS (orT (notT (asB (isiE tab_str (varE 0)))) (asB (op2 gtV (bltE (one lenV) (consA (varE 0) nilA)) (cE (.int 16))))) (retS (cE (.bl false))) nxS) (retS (bltE (one (allV true)) (consA (lcE (seqI (varE 0)) (nameG 1) yesT (op2 (inV false) (varE 1) (cE (.str ("abcdefghijklmnopqrstuvwxyz0123456789 " : Str)))) [1]) nilA))))
def F_is_text : List Val → Store → R Val := funD N_is_text.length g_is_text
theorem b_is_text (FX : Fx P K mg) : BodyOk P w K mg base ("is_text" : Str) s_is_text f N_is_text 0 g_is_text := by
  intro cdv A outer sh H E hr hg
  have h_b_len := FX.b_len
  obtain ⟨t_n_LONGEST_TEXT, h_n_LONGEST_TEXT⟩ := FX.n_LONGEST_TEXT
  have h_b_isinstance := FX.b_isinstance
  have h_t_str := FX.t_str
  have h_b_str := FX.b_str
  obtain ⟨t_s_SIGNS, h_s_SIGNS⟩ := FX.s_SIGNS
  have h_b_all := FX.b_all
  exact (dss_cons (ds_if (dt_w (dw_or (dt_not (dt_val (de_isi (pe_bltn rfl h_b_str PySem.Pv.boot_str (v := .ty "str") rfl) (.ty _) h_t_str rfl h_b_isinstance (dv 0)))) (dw_or1 (dt_cmp (op_gtA) od_gt (de_blt call_len cd_len rfl h_b_len PySem.boot_len (da_cons (dv 0) da_nil)) (de_globI rfl h_n_LONGEST_TEXT))))) (dss_one (ds_ret de_bl)) dss_nil) (dss_one (ds_ret (de_blt (cr_all rfl) cd_all rfl h_b_all PyProof.Rows.boot_all (da_cons (de_lc (own := [(("sign" : Str), 1)]) rfl (sc_is_text).nd (di_seq (dv 0)) (blkOk_by (N := N_is_text) (sc := defScope s_is_text) (by decide +kernel)) (fun _ _ _ _ _ => (dg_name (sc_is_text).nd rfl (.inl rfl))) (fun _ _ _ _ _ => dts_nil) (fun _ _ _ _ _ => (de_cmp (op_inA (room65 hr)) od_in (dv 1) (de_globS rfl h_s_SIGNS)))) da_nil)))))
/-! ### is_tuple_of -/
abbrev s_is_tuple_of : Stmt := (top 11)
def N_is_tuple_of : List Str := [("value" : Str), ("size" : Str)]
theorem sc_is_tuple_of : FnScope N_is_tuple_of [("value" : Str), ("size" : Str)] (defScope s_is_tuple_of) := ⟨rfl, rfl, rfl, by decide +kernel, rfl, by decide +kernel, by decide +kernel⟩
def g_is_tuple_of : SS := (retS (andE (isiE tab_tuple (varE 0)) (op2 (eqV false) (bltE (one lenV) (consA (varE 0) nilA)) (varE 1))))
def F_is_tuple_of : List Val → Store → R Val := funD N_is_tuple_of.length g_is_tuple_of
theorem b_is_tuple_of (FX : Fx P K mg) : BodyOk P w K mg base ("is_tuple_of" : Str) s_is_tuple_of f N_is_tuple_of 0 g_is_tuple_of := by
  intro cdv A outer sh H E hr hg
  have h_b_len := FX.b_len
  have h_b_isinstance := FX.b_isinstance
  have h_t_tuple := FX.t_tuple
  have h_b_tuple := FX.b_tuple
  exact (dss_one (ds_ret (de_and (de_isi (pe_bltn rfl h_b_tuple PySem.Pv.boot_tuple (v := .ty "tuple") rfl) (.ty _) h_t_tuple rfl h_b_isinstance (dv 0)) (de_one (de_cmp (op_eqA hr.units) od_eq (de_blt call_len cd_len rfl h_b_len PySem.boot_len (da_cons (dv 0) da_nil)) (dv 1))))))
/-! ### is_letter -/
abbrev s_is_letter : Stmt := (top 13)
def N_is_letter : List Str := [("value" : Str)]
theorem sc_is_letter : FnScope N_is_letter [("value" : Str)] (defScope s_is_letter) := ⟨rfl, rfl, rfl, by decide +kernel, rfl, by decide +kernel, by decide +kernel⟩
def g_is_letter : SS := (retS (orE (op2 (eqV false) (varE 0) (cE (.str ("" : Str)))) (callE F_is_name (consA (varE 0) nilA))))
def F_is_letter : List Val → Store → R Val := funD N_is_letter.length g_is_letter
theorem b_is_letter (FX : Fx P K mg) (d_is_name : DefOk P w K mg base 1 ("is_name" : Str) [("value" : Str)] F_is_name) : BodyOk P w K mg base ("is_letter" : Str) s_is_letter f N_is_letter 1 g_is_letter := by
  intro cdv A outer sh H E hr hg
  exact (dss_one (ds_ret (de_or (de_cmp (op_eqA hr.units) od_eq (dv 0) de_str) (de_one (de_callD d_is_name (hr.mono (by omega)) hg rfl (da_cons (dv 0) da_nil) (len_consA len_nilA))))))
/-! ### is_small -/
abbrev s_is_small : Stmt := (top 15)
def N_is_small : List Str := [("sign" : Str)]
theorem sc_is_small : FnScope N_is_small [("sign" : Str)] (defScope s_is_small) := ⟨rfl, rfl, rfl, by decide +kernel, rfl, by decide +kernel, by decide +kernel⟩
def g_is_small : SS := (retS (andE (op2 (eqV false) (bltE (one lenV) (consA (varE 0) nilA)) (cE (.int 1))) (chainE (leV) (leV) (cE (.str ("a" : Str))) (varE 0) (cE (.str ("z" : Str))))))
def F_is_small : List Val → Store → R Val := funD N_is_small.length g_is_small
theorem b_is_small (FX : Fx P K mg) : BodyOk P w K mg base ("is_small" : Str) s_is_small f N_is_small 0 g_is_small := by
  intro cdv A outer sh H E hr hg
  have h_b_len := FX.b_len
  exact (dss_one (ds_ret (de_and (de_cmp (op_eqA hr.units) od_eq (de_blt call_len cd_len rfl h_b_len PySem.boot_len (da_cons (dv 0) da_nil)) de_int) (de_one (de_chain (op_leA) (op_leA) od_le od_le de_str (dv 0) de_str)))))
/-! ### Turning.__eq__ -/
abbrev s_Turning___eq__ : Stmt := (meth 17 1)
def N_Turning___eq__ : List Str := [("self" : Str), ("other" : Str)]
theorem sc_Turning___eq__ : FnScope N_Turning___eq__ [("self" : Str), ("other" : Str)] (defScope s_Turning___eq__) := ⟨rfl, rfl, rfl, by decide +kernel, rfl, by decide +kernel, by decide +kernel⟩
def g_Turning___eq__ : SS := (retS (andE (isiE tab_Turning (varE 1)) (andE (op2 (eqV false) (fldE ("Turning" : Str) ("rules" : Str) (varE 0)) (fldE ("Turning" : Str) ("rules" : Str) (varE 1))) (op2 (eqV false) (fldE ("Turning" : Str) ("mode" : Str) (varE 0)) (fldE ("Turning" : Str) ("mode" : Str) (varE 1))))))
def F_Turning___eq__ : List Val → Store → R Val := funD N_Turning___eq__.length g_Turning___eq__
theorem b_Turning___eq__ (FX : Fx P K mg) : BodyOk P w K mg base ("Turning.__eq__" : Str) s_Turning___eq__ f N_Turning___eq__ 0 g_Turning___eq__ := by
  intro cdv A outer sh H E hr hg
  obtain ⟨A_Turning, h_m_Turning, h_cls_Turning, h_na_Turning_rules, h_na_Turning_mode, h_t_Turning⟩ := FX.c_Turning
  have h_b_isinstance := FX.b_isinstance
  exact (dss_one (ds_ret (de_and (de_isi (pe_glob (v := .ref _) rfl h_m_Turning rfl) (.own _) h_t_Turning rfl h_b_isinstance (dv 1)) (de_and (de_cmp (op_eqA hr.units) od_eq (de_fld h_m_Turning h_cls_Turning h_na_Turning_rules (dv 0)) (de_fld h_m_Turning h_cls_Turning h_na_Turning_rules (dv 1))) (de_one (de_cmp (op_eqA hr.units) od_eq (de_fld h_m_Turning h_cls_Turning h_na_Turning_mode (dv 0)) (de_fld h_m_Turning h_cls_Turning h_na_Turning_mode (dv 1))))))))
/-! ### is_piece -/
abbrev s_is_piece : Stmt := (top 18)
def N_is_piece : List Str := [("value" : Str), ("letter" : Str)]
theorem sc_is_piece : FnScope N_is_piece [("value" : Str), ("letter" : Str)] (defScope s_is_piece) := ⟨rfl, rfl, rfl, by decide +kernel, rfl, by decide +kernel, by decide +kernel⟩
def g_is_piece (F_are_pieces : List Val → Store → R Val) : SS := (seqS (ifS (orT (notT (asB (isiE tab_tuple (varE 0)))) (asB (op2 (eqV false) (varE 0) (tupE nilA)))) (retS (cE (.bl false))) nxS) (seqS (ifS (asB (op2 (eqV false) (op2 ixV (varE 0) (cE (.int 0))) (cE (.str ("node" : Str))))) (retS (andE (op2 (eqV false) (bltE (one lenV) (consA (varE 0) nilA)) (cE (.int 3))) (andE (callE F_is_name (consA (op2 ixV (varE 0) (cE (.int 1))) nilA)) (callE F_are_pieces (consA (op2 ixV (varE 0) (cE (.int 2))) (consA (varE 1) nilA)))))) nxS) (seqS (ifS (asB (op2 (eqV false) (op2 ixV (varE 0) (cE (.int 0))) (cE (.str ("say" : Str))))) (retS (andE (op2 (eqV false) (bltE (one lenV) (consA (varE 0) nilA)) (cE (.int 2))) (callE F_is_text (consA (op2 ixV (varE 0) (cE (.int 1))) nilA)))) nxS) (seqS (ifS (asB (op2 (eqV false) (op2 ixV (varE 0) (cE (.int 0))) (cE (.str ("go" : Str))))) (retS (andE (op2 (eqV false) (bltE (one lenV) (consA (varE 0) nilA)) (cE (.int 2))) (andE (op2 (eqV true) (varE 1) (cE (.str ("" : Str)))) (callE F_is_name (consA (op2 ixV (varE 0) (cE (.int 1))) nilA))))) nxS) (retS (andE (op2 (eqV false) (bltE (one lenV) (consA (varE 0) nilA)) (cE (.int 1))) (andE (op2 (eqV false) (op2 ixV (varE 0) (cE (.int 0))) (cE (.str ("keep" : Str)))) (op2 (eqV false) (varE 1) (cE (.str ("" : Str)))))))))))
/-! ### are_pieces -/
abbrev s_are_pieces : Stmt := (top 19)
def N_are_pieces : List Str := [("value" : Str), ("letter" : Str), ("part" : Str)]
theorem sc_are_pieces : FnScope N_are_pieces [("value" : Str), ("letter" : Str)] (defScope s_are_pieces) := ⟨rfl, rfl, rfl, by decide +kernel, rfl, by decide +kernel, by decide +kernel⟩
def g_are_pieces (F_is_piece : List Val → Store → R Val) : SS := (retS (andE (isiE tab_tuple (varE 0)) (bltE (one (allV true)) (consA (lcE (seqI (varE 0)) (nameG 2) yesT (callE F_is_piece (consA (varE 2) (consA (varE 1) nilA))) [2]) nilA))))
mutual
def F_is_piece : Nat → List Val → Store → R Val
  | 0 => fun _ _ => .err
  | n + 1 => funD N_is_piece.length (g_is_piece (F_are_pieces n))
def F_are_pieces : Nat → List Val → Store → R Val
  | 0 => fun _ _ => .err
  | n + 1 => funD N_are_pieces.length (g_are_pieces (F_is_piece n))
end
theorem b_is_piece {k : Nat} (hk : 1 ≤ k) (FX : Fx P K mg) {F_are_pieces : List Val → Store → R Val} (d_are_pieces : DefOk P w K mg base k ("are_pieces" : Str) [("value" : Str), ("letter" : Str)] F_are_pieces) (d_is_name : DefOk P w K mg base 1 ("is_name" : Str) [("value" : Str)] F_is_name) (d_is_text : DefOk P w K mg base 1 ("is_text" : Str) [("value" : Str)] F_is_text) : BodyOk P w K mg base ("is_piece" : Str) s_is_piece f N_is_piece k (g_is_piece F_are_pieces) := by
  intro cdv A outer sh H E hr hg
  have h_b_isinstance := FX.b_isinstance
  have h_t_tuple := FX.t_tuple
  have h_b_tuple := FX.b_tuple
  have h_b_len := FX.b_len
  exact (dss_cons (ds_if (dt_w (dw_or (dt_not (dt_val (de_isi (pe_bltn rfl h_b_tuple PySem.Pv.boot_tuple (v := .ty "tuple") rfl) (.ty _) h_t_tuple rfl h_b_isinstance (dv 0)))) (dw_or1 (dt_cmp (op_eqA hr.units) od_eq (dv 0) (de_tup da_nil))))) (dss_one (ds_ret de_bl)) dss_nil) (dss_cons (ds_if (dt_cmp (op_eqA hr.units) od_eq (de_ix (dv 0) de_int) de_str) (dss_one (ds_ret (de_and (de_cmp (op_eqA hr.units) od_eq (de_blt call_len cd_len rfl h_b_len PySem.boot_len (da_cons (dv 0) da_nil)) de_int) (de_and (de_callD d_is_name (hr.mono (by omega)) hg rfl (da_cons (de_ix (dv 0) de_int) da_nil) (len_consA len_nilA)) (de_one (de_callD d_are_pieces (hr.mono (by omega)) hg rfl (da_cons (de_ix (dv 0) de_int) (da_cons (dv 1) da_nil)) (len_consA (len_consA len_nilA)))))))) dss_nil) (dss_cons (ds_if (dt_cmp (op_eqA hr.units) od_eq (de_ix (dv 0) de_int) de_str) (dss_one (ds_ret (de_and (de_cmp (op_eqA hr.units) od_eq (de_blt call_len cd_len rfl h_b_len PySem.boot_len (da_cons (dv 0) da_nil)) de_int) (de_one (de_callD d_is_text (hr.mono (by omega)) hg rfl (da_cons (de_ix (dv 0) de_int) da_nil) (len_consA len_nilA)))))) dss_nil) (dss_cons (ds_if (dt_cmp (op_eqA hr.units) od_eq (de_ix (dv 0) de_int) de_str) (dss_one (ds_ret (de_and (de_cmp (op_eqA hr.units) od_eq (de_blt call_len cd_len rfl h_b_len PySem.boot_len (da_cons (dv 0) da_nil)) de_int) (de_and (de_cmp (op_neA hr.units) od_eq (dv 1) de_str) (de_one (de_callD d_is_name (hr.mono (by omega)) hg rfl (da_cons (de_ix (dv 0) de_int) da_nil) (len_consA len_nilA))))))) dss_nil) (dss_one (ds_ret (de_and (de_cmp (op_eqA hr.units) od_eq (de_blt call_len cd_len rfl h_b_len PySem.boot_len (da_cons (dv 0) da_nil)) de_int) (de_and (de_cmp (op_eqA hr.units) od_eq (de_ix (dv 0) de_int) de_str) (de_one (de_cmp (op_eqA hr.units) od_eq (dv 1) de_str))))))))))
theorem b_are_pieces {k : Nat} (hk : 1 ≤ k) (FX : Fx P K mg) {F_is_piece : List Val → Store → R Val} (d_is_piece : DefOk P w K mg base k ("is_piece" : Str) [("value" : Str), ("letter" : Str)] F_is_piece) : BodyOk P w K mg base ("are_pieces" : Str) s_are_pieces f N_are_pieces k (g_are_pieces F_is_piece) := by
  intro cdv A outer sh H E hr hg
  have h_b_all := FX.b_all
  have h_b_isinstance := FX.b_isinstance
  have h_t_tuple := FX.t_tuple
  have h_b_tuple := FX.b_tuple
  exact (dss_one (ds_ret (de_and (de_isi (pe_bltn rfl h_b_tuple PySem.Pv.boot_tuple (v := .ty "tuple") rfl) (.ty _) h_t_tuple rfl h_b_isinstance (dv 0)) (de_one (de_blt (cr_all rfl) cd_all rfl h_b_all PyProof.Rows.boot_all (da_cons (de_lc (own := [(("part" : Str), 2)]) rfl (sc_are_pieces).nd (di_seq (dv 0)) (blkOk_by (N := N_are_pieces) (sc := defScope s_are_pieces) (by decide +kernel)) (fun _ _ _ _ _ => (dg_name (sc_are_pieces).nd rfl (.inl rfl))) (fun _ _ _ _ _ => dts_nil) (fun _ _ _ _ _ => (de_callD d_is_piece (hr.mono (by omega)) hg rfl (da_cons (dv 2) (da_cons (dv 1) da_nil)) (len_consA (len_consA len_nilA))))) da_nil))))))
/-! ### is_rule -/
abbrev s_is_rule : Stmt := (top 20)
def N_is_rule : List Str := [("value" : Str)]
theorem sc_is_rule : FnScope N_is_rule [("value" : Str)] (defScope s_is_rule) := ⟨rfl, rfl, rfl, by decide +kernel, rfl, by decide +kernel, by decide +kernel⟩
def g_is_rule : SS := (seqS (ifS (orT (notT (asB (callE F_is_tuple_of (consA (varE 0) (consA (cE (.int 3)) nilA))))) (orT (notT (asB (callE F_is_name (consA (op2 ixV (varE 0) (cE (.int 0))) nilA)))) (orT (notT (asB (isiE tab_str (op2 ixV (varE 0) (cE (.int 1)))))) (notT (asB (callE F_is_letter (consA (op2 ixV (varE 0) (cE (.int 1))) nilA))))))) (retS (cE (.bl false))) nxS) (retS (callE (F_are_pieces 12) (consA (op2 ixV (varE 0) (cE (.int 2))) (consA (op2 ixV (varE 0) (cE (.int 1))) nilA)))))
def F_is_rule : List Val → Store → R Val := funD N_is_rule.length g_is_rule
theorem b_is_rule (FX : Fx P K mg) (d_is_letter : DefOk P w K mg base 2 ("is_letter" : Str) [("value" : Str)] F_is_letter) (d_is_name : DefOk P w K mg base 1 ("is_name" : Str) [("value" : Str)] F_is_name) (d_is_tuple_of : DefOk P w K mg base 1 ("is_tuple_of" : Str) [("value" : Str), ("size" : Str)] F_is_tuple_of) (d_are_pieces : DefOk P w K mg base 13 ("are_pieces" : Str) [("value" : Str), ("letter" : Str)] (F_are_pieces 12)) : BodyOk P w K mg base ("is_rule" : Str) s_is_rule f N_is_rule 13 g_is_rule := by
  intro cdv A outer sh H E hr hg
  have h_b_isinstance := FX.b_isinstance
  have h_t_str := FX.t_str
  have h_b_str := FX.b_str
  exact (dss_cons (ds_if (dt_w (dw_or (dt_not (dt_val (de_callD d_is_tuple_of (hr.mono (by omega)) hg rfl (da_cons (dv 0) (da_cons de_int da_nil)) (len_consA (len_consA len_nilA))))) (dw_or (dt_not (dt_val (de_callD d_is_name (hr.mono (by omega)) hg rfl (da_cons (de_ix (dv 0) de_int) da_nil) (len_consA len_nilA)))) (dw_or (dt_not (dt_val (de_isi (pe_bltn rfl h_b_str PySem.Pv.boot_str (v := .ty "str") rfl) (.ty _) h_t_str rfl h_b_isinstance (de_ix (dv 0) de_int)))) (dw_or1 (dt_not (dt_val (de_callD d_is_letter (hr.mono (by omega)) hg rfl (da_cons (de_ix (dv 0) de_int) da_nil) (len_consA len_nilA))))))))) (dss_one (ds_ret de_bl)) dss_nil) (dss_one (ds_ret (de_callD d_are_pieces (hr.mono (by omega)) hg rfl (da_cons (de_ix (dv 0) de_int) (da_cons (de_ix (dv 0) de_int) da_nil)) (len_consA (len_consA len_nilA))))))
/-! ### part_text -/
abbrev s_part_text : Stmt := (top 22)
def N_part_text : List Str := [("part" : Str), ("inner" : Str)]
theorem sc_part_text : FnScope N_part_text [("part" : Str)] (defScope s_part_text) := ⟨rfl, rfl, rfl, by decide +kernel, rfl, by decide +kernel, by decide +kernel⟩
def g_part_text (F_part_text : List Val → Store → R Val) : SS := (seqS (ifS (asB (op2 (eqV false) (op2 ixV (varE 0) (cE (.int 0))) (cE (.str ("node" : Str))))) (retS (op2 addV (op2 addV (op2 addV (op2 ixV (varE 0) (cE (.int 1))) (cE (.str ("(" : Str)))) (tm1E joinV (cE (.str (" " : Str))) (lcE (seqI (op2 ixV (varE 0) (cE (.int 2)))) (nameG 1) yesT (callE F_part_text (consA (varE 1) nilA)) [1]))) (cE (.str (")" : Str))))) nxS) (seqS (ifS (asB (op2 (eqV false) (op2 ixV (varE 0) (cE (.int 0))) (cE (.str ("keep" : Str))))) (retS (cE (.str ("*" : Str)))) nxS) (retS (ifE (asB (op2 (eqV false) (op2 ixV (varE 0) (cE (.int 0))) (cE (.str ("go" : Str))))) (op2 addV (cE (.str ("!" : Str))) (op2 ixV (varE 0) (cE (.int 1)))) (op2 addV (op2 addV (cE (.str ("\"" : Str))) (op2 ixV (varE 0) (cE (.int 1)))) (cE (.str ("\"" : Str))))))))
def F_part_text : Nat → List Val → Store → R Val
  | 0 => fun _ _ => .err
  | n + 1 => funD N_part_text.length (g_part_text (F_part_text n))
theorem b_part_text {k : Nat} (hk : 0 ≤ k) (FX : Fx P K mg) {F_part_text : List Val → Store → R Val} (d_part_text : DefOk P w K mg base k ("part_text" : Str) [("part" : Str)] F_part_text) : BodyOk P w K mg base ("part_text" : Str) s_part_text f N_part_text k (g_part_text F_part_text) := by
  intro cdv A outer sh H E hr hg
  exact (dss_cons (ds_if (dt_cmp (op_eqA hr.units) od_eq (de_ix (dv 0) de_int) de_str) (dss_one (ds_ret (de_op op_addA od_add (de_op op_addA od_add (de_op op_addA od_add (de_ix (dv 0) de_int) de_str) (de_join de_str (de_lc (own := [(("inner" : Str), 1)]) rfl (sc_part_text).nd (di_seq (de_ix (dv 0) de_int)) (blkOk_by (N := N_part_text) (sc := defScope s_part_text) (by decide +kernel)) (fun _ _ _ _ _ => (dg_name (sc_part_text).nd rfl (.inl rfl))) (fun _ _ _ _ _ => dts_nil) (fun _ _ _ _ _ => (de_callD d_part_text (hr.mono (by omega)) hg rfl (da_cons (dv 1) da_nil) (len_consA len_nilA)))))) de_str))) dss_nil) (dss_cons (ds_if (dt_cmp (op_eqA hr.units) od_eq (de_ix (dv 0) de_int) de_str) (dss_one (ds_ret de_str)) dss_nil) (dss_one (ds_ret (de_if (dt_cmp (op_eqA hr.units) od_eq (de_ix (dv 0) de_int) de_str) (de_op op_addA od_add de_str (de_ix (dv 0) de_int)) (de_op op_addA od_add (de_op op_addA od_add de_str (de_ix (dv 0) de_int)) de_str))))))
/-! ### turning_text -/
abbrev s_turning_text : Stmt := (top 23)
def N_turning_text : List Str := [("turning" : Str), ("pieces" : Str), ("mode" : Str), ("letter" : Str), ("parts" : Str), ("words" : Str), ("part" : Str)]
theorem sc_turning_text : FnScope N_turning_text [("turning" : Str)] (defScope s_turning_text) := ⟨rfl, rfl, rfl, by decide +kernel, rfl, by decide +kernel, by decide +kernel⟩
def g_turning_text : SS := (seqS (setS 1 (newE (consA (fldE ("Turning" : Str) ("mode" : Str) (varE 0)) nilA))) (seqS (forS (seqI (fldE ("Turning" : Str) ("rules" : Str) (varE 0))) (tupG (consG (nameG 2) (consG (nameG 3) (consG (nameG 4) nilG)))) (seqS (setS 5 (ifE (truE (varE 4)) (tm1E joinV (cE (.str (" " : Str))) (lcE (seqI (varE 4)) (nameG 6) yesT (callE (F_part_text 12) (consA (varE 6) nilA)) [6])) (cE (.str ("-" : Str))))) (exprS (appendE (varE 1) (op2 addV (op2 addV (op2 addV (op2 addV (varE 2) (cE (.str (" " : Str)))) (ifE (truE (varE 3)) (varE 3) (cE (.str ("#" : Str))))) (cE (.str (" " : Str)))) (varE 5))))) [2, 3, 4, 5]) (retS (tm1E joinV (cE (.str (", " : Str))) (varE 1)))))
def F_turning_text : List Val → Store → R Val := funD N_turning_text.length g_turning_text
theorem b_turning_text (FX : Fx P K mg) (d_part_text : DefOk P w K mg base 12 ("part_text" : Str) [("part" : Str)] (F_part_text 12)) : BodyOk P w K mg base ("turning_text" : Str) s_turning_text f N_turning_text 12 g_turning_text := by
  intro cdv A outer sh H E hr hg
  obtain ⟨A_Turning, h_m_Turning, h_cls_Turning, h_na_Turning_rules, h_na_Turning_mode, h_t_Turning⟩ := FX.c_Turning
  exact (dss_cons (ds_set (sc_turning_text).nd rfl (.inl rfl) (de_new (da_cons (de_fld h_m_Turning h_cls_Turning h_na_Turning_mode (dv 0)) da_nil))) (dss_cons (ds_for [2, 3, 4, 5] PassesOwn.never rfl (di_seq (de_fld h_m_Turning h_cls_Turning h_na_Turning_rules (dv 0))) (dg_tup rfl (dgs_cons (dg_name (sc_turning_text).nd rfl (.inl rfl)) (dgs_cons (dg_name (sc_turning_text).nd rfl (.inl rfl)) (dgs_cons (dg_name (sc_turning_text).nd rfl (.inl rfl)) dgs_nil))) (len_consG (len_consG (len_consG len_nilG)))) (dss_cons (ds_set (sc_turning_text).nd rfl (.inl rfl) (de_if (dt_tru (dv 4)) (de_join de_str (de_lc (own := [(("part" : Str), 6)]) rfl (sc_turning_text).nd (di_seq (dv 4)) (blkOk_by (N := N_turning_text) (sc := defScope s_turning_text) (by decide +kernel)) (fun _ _ _ _ _ => (dg_name (sc_turning_text).nd rfl (.inl rfl))) (fun _ _ _ _ _ => dts_nil) (fun _ _ _ _ _ => (de_callD d_part_text (hr.mono (by omega)) hg rfl (da_cons (dv 6) da_nil) (len_consA len_nilA))))) de_str)) (dss_one (ds_expr (de_append (dv 1) (de_op op_addA od_add (de_op op_addA od_add (de_op op_addA od_add (de_op op_addA od_add (dv 2) de_str) (de_if (dt_tru (dv 3)) (dv 3) de_str)) de_str) (dv 5))))))) (dss_one (ds_ret (de_join de_str (dv 1))))))
/-! ### letters_end -/
abbrev s_letters_end : Stmt := (top 24)
def N_letters_end : List Str := [("text" : Str), ("at" : Str)]
theorem sc_letters_end : FnScope N_letters_end [("text" : Str), ("at" : Str)] (defScope s_letters_end) := ⟨rfl, rfl, rfl, by decide +kernel, rfl, by decide +kernel, by decide +kernel⟩
def g_letters_end : SS := (seqS (whileS (fun _ _ => 40) (asB (callE F_is_small (consA (sliceE (varE 0) (someO (varE 1)) (someO (op2 addV (varE 1) (cE (.int 1))))) nilA))) (augS 1 (cE (.int 1))) []) (retS (varE 1)))
def F_letters_end : List Val → Store → R Val := funD N_letters_end.length g_letters_end
theorem b_letters_end (FX : Fx P K mg) (d_is_small : DefOk P w K mg base 1 ("is_small" : Str) [("sign" : Str)] F_is_small) : BodyOk P w K mg base ("letters_end" : Str) s_letters_end f N_letters_end 1 g_letters_end := by
  intro cdv A outer sh H E hr hg
  exact (dss_cons (ds_while (fun _ _ => 40) [] PassesOwn.never (dt_val (de_callD d_is_small (hr.mono (by omega)) hg rfl (da_cons (de_slice (dv 0) (do_some (dv 1)) (do_some (de_op op_addA od_add (dv 1) de_int))) da_nil) (len_consA len_nilA))) (dss_one (ds_aug (sc_letters_end).nd rfl (.inl rfl) de_int))) (dss_one (ds_ret (dv 1))))
/-! ### inner_parts -/
abbrev s_inner_parts : Stmt := (top 25)
def N_inner_parts : List Str := [("text" : Str), ("at" : Str), ("parts" : Str), ("behind" : Str), ("part" : Str)]
theorem sc_inner_parts : FnScope N_inner_parts [("text" : Str), ("at" : Str)] (defScope s_inner_parts) := ⟨rfl, rfl, rfl, by decide +kernel, rfl, by decide +kernel, by decide +kernel⟩
def g_inner_parts (F_part_at : List Val → Store → R Val) : SS := (seqS (ifS (asB (op2 (eqV true) (sliceE (varE 0) (someO (varE 1)) (someO (op2 addV (varE 1) (cE (.int 1))))) (cE (.str ("(" : Str))))) (raiseS ("InvalidText" : Str) (varE 1)) nxS) (seqS (parS 2 3 (consA (newE nilA) (consA (op2 addV (varE 1) (cE (.int 1))) nilA))) (seqS (ifS (asB (op2 (eqV false) (sliceE (varE 0) (someO (varE 3)) (someO (op2 addV (varE 3) (cE (.int 1))))) (cE (.str (")" : Str))))) (retS (tupE (consA (tupE nilA) (consA (op2 addV (varE 3) (cE (.int 1))) nilA)))) nxS) (seqS (asgS (callX F_part_at (consA (varE 0) (consA (varE 3) nilA))) (tupG (consG (nameG 4) (consG (nameG 3) nilG)))) (seqS (exprS (appendE (varE 2) (varE 4))) (seqS (whileS (fun _ _ => 40) (asB (op2 (eqV false) (sliceE (varE 0) (someO (varE 3)) (someO (op2 addV (varE 3) (cE (.int 1))))) (cE (.str (" " : Str))))) (seqS (asgS (callX F_part_at (consA (varE 0) (consA (op2 addV (varE 3) (cE (.int 1))) nilA))) (tupG (consG (nameG 4) (consG (nameG 3) nilG)))) (exprS (appendE (varE 2) (varE 4)))) [4]) (seqS (ifS (asB (op2 (eqV true) (sliceE (varE 0) (someO (varE 3)) (someO (op2 addV (varE 3) (cE (.int 1))))) (cE (.str (")" : Str))))) (raiseS ("InvalidText" : Str) (varE 3)) nxS) (retS (tupE (consA (bltE (one tupleV) (consA (varE 2) nilA)) (consA (op2 addV (varE 3) (cE (.int 1))) nilA)))))))))))
/-! ### part_at -/
abbrev s_part_at : Stmt := (top 26)
def N_part_at : List Str := [("text" : Str), ("at" : Str), ("sign" : Str), ("end" : Str), ("parts" : Str), ("behind" : Str)]
theorem sc_part_at : FnScope N_part_at [("text" : Str), ("at" : Str)] (defScope s_part_at) := ⟨rfl, rfl, rfl, by decide +kernel, rfl, by decide +kernel, by decide +kernel⟩
def g_part_at (F_inner_parts : List Val → Store → R Val) : SS := (seqS (setS 2 (sliceE (varE 0) (someO (varE 1)) (someO (op2 addV (varE 1) (cE (.int 1)))))) (seqS (ifS (asB (op2 (eqV false) (varE 2) (cE (.str ("*" : Str))))) (retS (tupE (consA (tupE (consA (cE (.str ("keep" : Str))) nilA)) (consA (op2 addV (varE 1) (cE (.int 1))) nilA)))) nxS) (seqS (ifS (asB (op2 (eqV false) (varE 2) (cE (.str ("\"" : Str))))) (seqS (setS 3 (tmAE findV (varE 0) (consA (cE (.str ("\"" : Str))) (consA (op2 addV (varE 1) (cE (.int 1))) nilA)))) (seqS (ifS (asB (op2 ltV (varE 3) (cE (.int 0)))) (raiseS ("InvalidText" : Str) (varE 1)) nxS) (retS (tupE (consA (tupE (consA (cE (.str ("say" : Str))) (consA (sliceE (varE 0) (someO (op2 addV (varE 1) (cE (.int 1)))) (someO (varE 3))) nilA))) (consA (op2 addV (varE 3) (cE (.int 1))) nilA)))))) nxS) (seqS (ifS (asB (op2 (eqV false) (varE 2) (cE (.str ("!" : Str))))) (seqS (setS 3 (callE F_letters_end (consA (varE 0) (consA (op2 addV (varE 1) (cE (.int 1))) nilA)))) (retS (tupE (consA (tupE (consA (cE (.str ("go" : Str))) (consA (sliceE (varE 0) (someO (op2 addV (varE 1) (cE (.int 1)))) (someO (varE 3))) nilA))) (consA (varE 3) nilA))))) nxS) (seqS (setS 3 (callE F_letters_end (consA (varE 0) (consA (varE 1) nilA)))) (seqS (asgS (callX F_inner_parts (consA (varE 0) (consA (varE 3) nilA))) (tupG (consG (nameG 4) (consG (nameG 5) nilG)))) (retS (tupE (consA (tupE (consA (cE (.str ("node" : Str))) (consA (sliceE (varE 0) (someO (varE 1)) (someO (varE 3))) (consA (varE 4) nilA)))) (consA (varE 5) nilA))))))))))
mutual
def F_inner_parts : Nat → List Val → Store → R Val
  | 0 => fun _ _ => .err
  | n + 1 => funX N_inner_parts.length (g_inner_parts (F_part_at n))
def F_part_at : Nat → List Val → Store → R Val
  | 0 => fun _ _ => .err
  | n + 1 => funX N_part_at.length (g_part_at (F_inner_parts n))
end
theorem b_inner_parts {k : Nat} (hk : 2 ≤ k) (FX : Fx P K mg) {F_part_at : List Val → Store → R Val} (d_part_at : DefOkX P w K mg base k ("part_at" : Str) [("text" : Str), ("at" : Str)] F_part_at) (r_InvalidText : RaiseOk P K mg ("InvalidText" : Str)) : BodyX P w K mg base ("inner_parts" : Str) s_inner_parts f N_inner_parts k (g_inner_parts F_part_at) := by
  intro cdv A outer sh H E hr hg tk
  have h_b_super := FX.b_super
  have h_b_tuple := FX.b_tuple
  exact (dss_cons (ds_if (dt_cmp (op_neA hr.units) od_eq (de_slice (dv 0) (do_some (dv 1)) (do_some (de_op op_addA od_add (dv 1) de_int))) de_str) (dss_one (ds_raiseD (k := 0) r_InvalidText rfl tk h_b_super (hr.mono (by omega)) rfl (dv 1))) dss_nil) (dss_cons (ds_par rfl (sc_inner_parts).nd rfl rfl (by decide) rfl rfl (da_cons (de_new da_nil) (da_cons (de_op op_addA od_add (dv 1) de_int) da_nil)) rfl) (dss_cons (ds_if (dt_cmp (op_eqA hr.units) od_eq (de_slice (dv 0) (do_some (dv 3)) (do_some (de_op op_addA od_add (dv 3) de_int))) de_str) (dss_one (ds_ret (de_tup (da_cons (de_tup da_nil) (da_cons (de_op op_addA od_add (dv 3) de_int) da_nil))))) dss_nil) (dss_cons (ds_asg (de_callDX d_part_at tk (hr.mono (by omega)) hg rfl (da_cons (dv 0) (da_cons (dv 3) da_nil)) (len_consA (len_consA len_nilA))) (dg_tup rfl (dgs_cons (dg_name (sc_inner_parts).nd rfl (.inl rfl)) (dgs_cons (dg_name (sc_inner_parts).nd rfl (.inl rfl)) dgs_nil)) (len_consG (len_consG len_nilG)))) (dss_cons (ds_expr (de_append (dv 2) (dv 4))) (dss_cons (ds_while (fun _ _ => 40) [4] (passes_of rfl) (dt_cmp (op_eqA hr.units) od_eq (de_slice (dv 0) (do_some (dv 3)) (do_some (de_op op_addA od_add (dv 3) de_int))) de_str) (dss_cons (ds_asg (de_callDX d_part_at tk (hr.mono (by omega)) hg rfl (da_cons (dv 0) (da_cons (de_op op_addA od_add (dv 3) de_int) da_nil)) (len_consA (len_consA len_nilA))) (dg_tup rfl (dgs_cons (dg_name (sc_inner_parts).nd rfl (.inl rfl)) (dgs_cons (dg_name (sc_inner_parts).nd rfl (.inl rfl)) dgs_nil)) (len_consG (len_consG len_nilG)))) (dss_one (ds_expr (de_append (dv 2) (dv 4)))))) (dss_cons (ds_if (dt_cmp (op_neA hr.units) od_eq (de_slice (dv 0) (do_some (dv 3)) (do_some (de_op op_addA od_add (dv 3) de_int))) de_str) (dss_one (ds_raiseD (k := 0) r_InvalidText rfl tk h_b_super (hr.mono (by omega)) rfl (dv 3))) dss_nil) (dss_one (ds_ret (de_tup (da_cons (de_ty call_tuple_of cd_tuple rfl h_b_tuple PySem.Pv.boot_tuple (da_cons (dv 2) da_nil)) (da_cons (de_op op_addA od_add (dv 3) de_int) da_nil))))))))))))
theorem b_part_at {k : Nat} (hk : 2 ≤ k) (FX : Fx P K mg) {F_inner_parts : List Val → Store → R Val} (d_letters_end : DefOk P w K mg base 2 ("letters_end" : Str) [("text" : Str), ("at" : Str)] F_letters_end) (d_inner_parts : DefOkX P w K mg base k ("inner_parts" : Str) [("text" : Str), ("at" : Str)] F_inner_parts) (r_InvalidText : RaiseOk P K mg ("InvalidText" : Str)) : BodyX P w K mg base ("part_at" : Str) s_part_at f N_part_at k (g_part_at F_inner_parts) := by
  intro cdv A outer sh H E hr hg tk
  have h_b_super := FX.b_super
  exact (dss_cons (ds_set (sc_part_at).nd rfl (.inl rfl) (de_slice (dv 0) (do_some (dv 1)) (do_some (de_op op_addA od_add (dv 1) de_int)))) (dss_cons (ds_if (dt_cmp (op_eqA hr.units) od_eq (dv 2) de_str) (dss_one (ds_ret (de_tup (da_cons (de_tup (da_cons de_str da_nil)) (da_cons (de_op op_addA od_add (dv 1) de_int) da_nil))))) dss_nil) (dss_cons (ds_if (dt_cmp (op_eqA hr.units) od_eq (dv 2) de_str) (dss_cons (ds_set (sc_part_at).nd rfl (.inl rfl) (de_find (dv 0) (da_cons de_str (da_cons (de_op op_addA od_add (dv 1) de_int) da_nil)))) (dss_cons (ds_if (dt_cmp (op_ltA) od_lt (dv 3) de_int) (dss_one (ds_raiseD (k := 0) r_InvalidText rfl tk h_b_super (hr.mono (by omega)) rfl (dv 1))) dss_nil) (dss_one (ds_ret (de_tup (da_cons (de_tup (da_cons de_str (da_cons (de_slice (dv 0) (do_some (de_op op_addA od_add (dv 1) de_int)) (do_some (dv 3))) da_nil))) (da_cons (de_op op_addA od_add (dv 3) de_int) da_nil))))))) dss_nil) (dss_cons (ds_if (dt_cmp (op_eqA hr.units) od_eq (dv 2) de_str) (dss_cons (ds_set (sc_part_at).nd rfl (.inl rfl) (de_callD d_letters_end (hr.mono (by omega)) hg rfl (da_cons (dv 0) (da_cons (de_op op_addA od_add (dv 1) de_int) da_nil)) (len_consA (len_consA len_nilA)))) (dss_one (ds_ret (de_tup (da_cons (de_tup (da_cons de_str (da_cons (de_slice (dv 0) (do_some (de_op op_addA od_add (dv 1) de_int)) (do_some (dv 3))) da_nil))) (da_cons (dv 3) da_nil)))))) dss_nil) (dss_cons (ds_set (sc_part_at).nd rfl (.inl rfl) (de_callD d_letters_end (hr.mono (by omega)) hg rfl (da_cons (dv 0) (da_cons (dv 1) da_nil)) (len_consA (len_consA len_nilA)))) (dss_cons (ds_asg (de_callDX d_inner_parts tk (hr.mono (by omega)) hg rfl (da_cons (dv 0) (da_cons (dv 3) da_nil)) (len_consA (len_consA len_nilA))) (dg_tup rfl (dgs_cons (dg_name (sc_part_at).nd rfl (.inl rfl)) (dgs_cons (dg_name (sc_part_at).nd rfl (.inl rfl)) dgs_nil)) (len_consG (len_consG len_nilG)))) (dss_one (ds_ret (de_tup (da_cons (de_tup (da_cons de_str (da_cons (de_slice (dv 0) (do_some (dv 1)) (do_some (dv 3))) (da_cons (dv 4) da_nil)))) (da_cons (dv 5) da_nil)))))))))))
/-! ### parts_in -/
abbrev s_parts_in : Stmt := (top 27)
def N_parts_in : List Str := [("words" : Str), ("parts" : Str), ("behind" : Str)]
theorem sc_parts_in : FnScope N_parts_in [("words" : Str)] (defScope s_parts_in) := ⟨rfl, rfl, rfl, by decide +kernel, rfl, by decide +kernel, by decide +kernel⟩
def g_parts_in : SS := (seqS (ifS (asB (op2 (eqV false) (varE 0) (cE (.str ("-" : Str))))) (retS (tupE nilA)) nxS) (seqS (asgS (callX (F_inner_parts 12) (consA (op2 addV (op2 addV (cE (.str ("(" : Str))) (varE 0)) (cE (.str (")" : Str)))) (consA (cE (.int 0)) nilA))) (tupG (consG (nameG 1) (consG (nameG 2) nilG)))) (retS (ifE (andT (asB (op2 (eqV false) (varE 2) (op2 addV (bltE (one lenV) (consA (varE 0) nilA)) (cE (.int 2))))) (truE (varE 1))) (varE 1) (cE .non)))))
def F_parts_in : List Val → Store → R Val := funX N_parts_in.length g_parts_in
theorem b_parts_in (FX : Fx P K mg) (d_inner_parts : DefOkX P w K mg base 14 ("inner_parts" : Str) [("text" : Str), ("at" : Str)] (F_inner_parts 12)) : BodyX P w K mg base ("parts_in" : Str) s_parts_in f N_parts_in 14 g_parts_in := by
  intro cdv A outer sh H E hr hg tk
  have h_b_len := FX.b_len
  exact (dss_cons (ds_if (dt_cmp (op_eqA hr.units) od_eq (dv 0) de_str) (dss_one (ds_ret (de_tup da_nil))) dss_nil) (dss_cons (ds_asg (de_callDX d_inner_parts tk (hr.mono (by omega)) hg rfl (da_cons (de_op op_addA od_add (de_op op_addA od_add de_str (dv 0)) de_str) (da_cons de_int da_nil)) (len_consA (len_consA len_nilA))) (dg_tup rfl (dgs_cons (dg_name (sc_parts_in).nd rfl (.inl rfl)) (dgs_cons (dg_name (sc_parts_in).nd rfl (.inl rfl)) dgs_nil)) (len_consG (len_consG len_nilG)))) (dss_one (ds_ret (de_if (dt_w (dw_and (dt_cmp (op_eqA hr.units) od_eq (dv 2) (de_op op_addA od_add (de_blt call_len cd_len rfl h_b_len PySem.boot_len (da_cons (dv 0) da_nil)) de_int)) (dw_and1 (dt_tru (dv 1))))) (dv 1) de_non)))))
/-! ### read_rule -/
abbrev s_read_rule : Stmt := (top 28)
def N_read_rule : List Str := [("piece" : Str), ("mode" : Str), ("blank" : Str), ("rest" : Str), ("letter" : Str), ("words" : Str), ("parts" : Str), ("rule" : Str)]
theorem sc_read_rule : FnScope N_read_rule [("piece" : Str)] (defScope s_read_rule) := ⟨rfl, rfl, rfl, by decide +kernel, rfl, by decide +kernel, by decide +kernel⟩
def g_read_rule : SS := (seqS (asgS (tm1E partV (varE 0) (cE (.str (" " : Str)))) (tupG (consG (nameG 1) (consG (nameG 2) (consG (nameG 3) nilG))))) (seqS (asgS (tm1E partV (varE 3) (cE (.str (" " : Str)))) (tupG (consG (nameG 4) (consG (nameG 2) (consG (nameG 5) nilG))))) (seqS (tryS sub_InvalidText (setS 6 (callX F_parts_in (consA (varE 5) nilA))) (fun _ _ _ => (retS (cE .non)))) (seqS (setS 7 (tupE (consA (varE 1) (consA (ifE (asB (op2 (eqV false) (varE 4) (cE (.str ("#" : Str))))) (cE (.str ("" : Str))) (varE 4)) (consA (varE 6) nilA))))) (retS (ifE (andT (asB (op2 (eqV true) (varE 4) (cE (.str ("" : Str))))) (asB (callE F_is_rule (consA (varE 7) nilA)))) (varE 7) (cE .non)))))))
def F_read_rule : List Val → Store → R Val := funD N_read_rule.length g_read_rule
theorem b_read_rule (FX : Fx P K mg) (d_parts_in : DefOkX P w K mg base 15 ("parts_in" : Str) [("words" : Str)] F_parts_in) (d_is_rule : DefOk P w K mg base 14 ("is_rule" : Str) [("value" : Str)] F_is_rule) : BodyOk P w K mg base ("read_rule" : Str) s_read_rule f N_read_rule 15 g_read_rule := by
  intro cdv A outer sh H E hr hg
  obtain ⟨A_InvalidText, h_m_x_InvalidText, h_sb_InvalidText⟩ := FX.x_InvalidText
  have h_sub_InvalidText := sub_ok_InvalidText h_m_x_InvalidText h_sb_InvalidText
  exact (dss_cons (ds_asg (de_partition (dv 0) de_str) (dg_tup rfl (dgs_cons (dg_name (sc_read_rule).nd rfl (.inl rfl)) (dgs_cons (dg_name (sc_read_rule).nd rfl (.inl rfl)) (dgs_cons (dg_name (sc_read_rule).nd rfl (.inl rfl)) dgs_nil))) (len_consG (len_consG (len_consG len_nilG))))) (dss_cons (ds_asg (de_partition (dv 3) de_str) (dg_tup rfl (dgs_cons (dg_name (sc_read_rule).nd rfl (.inl rfl)) (dgs_cons (dg_name (sc_read_rule).nd rfl (.inl rfl)) (dgs_cons (dg_name (sc_read_rule).nd rfl (.inl rfl)) dgs_nil))) (len_consG (len_consG (len_consG len_nilG))))) (dss_cons (ds_tryOnly rfl rfl ⟨rfl, by decide, .inl h_m_x_InvalidText⟩ takes_none h_sub_InvalidText (fun W pn xe tk2 ho => (dss_one (ds_set (sc_read_rule).nd rfl (.inl rfl) (de_callDX d_parts_in tk2 (hr.mono (by omega)) hg rfl (da_cons (dv 5) da_nil) (len_consA len_nilA))))) (fun a oe cls d pn hz hf => (dss_one (ds_ret de_non)))) (dss_cons (ds_set (sc_read_rule).nd rfl (.inl rfl) (de_tup (da_cons (dv 1) (da_cons (de_if (dt_cmp (op_eqA hr.units) od_eq (dv 4) de_str) de_str (dv 4)) (da_cons (dv 6) da_nil))))) (dss_one (ds_ret (de_if (dt_w (dw_and (dt_cmp (op_neA hr.units) od_eq (dv 4) de_str) (dw_and1 (dt_val (de_callD d_is_rule (hr.mono (by omega)) hg rfl (da_cons (dv 7) da_nil) (len_consA len_nilA)))))) (dv 7) de_non)))))))
/-! ### read_turning -/
abbrev s_read_turning : Stmt := (top 29)
def N_read_turning : List Str := [("text" : Str), ("pieces" : Str), ("rules" : Str), ("at" : Str), ("rule" : Str)]
theorem sc_read_turning : FnScope N_read_turning [("text" : Str)] (defScope s_read_turning) := ⟨rfl, rfl, rfl, by decide +kernel, rfl, by decide +kernel, by decide +kernel⟩
def g_read_turning : SS := (seqS (ifS (notT (asB (isiE tab_str (varE 0)))) (raiseS ("InvalidText" : Str) (negE (cE (.int 1)))) nxS) (seqS (parS 1 2 (consA (tm1E splitV (varE 0) (cE (.str (", " : Str)))) (consA (newE nilA) nilA))) (seqS (ifS (notT (asB (callE F_is_name (consA (op2 ixV (varE 1) (cE (.int 0))) nilA)))) (raiseS ("InvalidText" : Str) (cE (.int 0))) nxS) (seqS (forS (rng2I (consA (cE (.int 1)) (consA (bltE (one lenV) (consA (varE 1) nilA)) nilA))) (nameG 3) (seqS (setS 4 (callE F_read_rule (consA (op2 ixV (varE 1) (varE 3)) nilA))) (seqS (ifS (orT (asB (op2 (isNon false) (varE 4) (cE .non))) (andT (truE (varE 2)) (asB (op2 lePV (sliceE (varE 4) noO (someO (cE (.int 2)))) (sliceE (op2 ixV (varE 2) (negE (cE (.int 1)))) noO (someO (cE (.int 2)))))))) (raiseS ("InvalidText" : Str) (varE 3)) nxS) (exprS (appendE (varE 2) (varE 4))))) [3, 4]) (retS (makeE ("Turning" : Str) [("rules" : Str), ("mode" : Str)] (consA (bltE (one tupleV) (consA (varE 2) nilA)) (consA (op2 ixV (varE 1) (cE (.int 0))) nilA))))))))
def F_read_turning : List Val → Store → R Val := funX N_read_turning.length g_read_turning
theorem b_read_turning (FX : Fx P K mg) (d_is_name : DefOk P w K mg base 1 ("is_name" : Str) [("value" : Str)] F_is_name) (d_read_rule : DefOk P w K mg base 16 ("read_rule" : Str) [("piece" : Str)] F_read_rule) (mk_Turning : MakeOk P w K mg base 1 ("Turning" : Str) [("self" : Str), ("rules" : Str), ("mode" : Str)] [("rules" : Str), ("mode" : Str)]) (r_InvalidText : RaiseOk P K mg ("InvalidText" : Str)) : BodyX P w K mg base ("read_turning" : Str) s_read_turning f N_read_turning 16 g_read_turning := by
  intro cdv A outer sh H E hr hg tk
  have h_b_isinstance := FX.b_isinstance
  have h_t_str := FX.t_str
  have h_b_str := FX.b_str
  have h_b_super := FX.b_super
  have h_b_len := FX.b_len
  have h_b_range := FX.b_range
  have h_b_tuple := FX.b_tuple
  exact (dss_cons (ds_if (dt_not (dt_val (de_isi (pe_bltn rfl h_b_str PySem.Pv.boot_str (v := .ty "str") rfl) (.ty _) h_t_str rfl h_b_isinstance (dv 0)))) (dss_one (ds_raiseD (k := 0) r_InvalidText rfl tk h_b_super (hr.mono (by omega)) rfl (de_neg de_int))) dss_nil) (dss_cons (ds_par rfl (sc_read_turning).nd rfl rfl (by decide) rfl rfl (da_cons (de_split (dv 0) de_str) (da_cons (de_new da_nil) da_nil)) rfl) (dss_cons (ds_if (dt_not (dt_val (de_callD d_is_name (hr.mono (by omega)) hg rfl (da_cons (de_ix (dv 1) de_int) da_nil) (len_consA len_nilA)))) (dss_one (ds_raiseD (k := 0) r_InvalidText rfl tk h_b_super (hr.mono (by omega)) rfl de_int)) dss_nil) (dss_cons (ds_for [3, 4] (passes_of rfl) rfl (di_rng2 rfl h_b_range (da_cons de_int (da_cons (de_blt call_len cd_len rfl h_b_len PySem.boot_len (da_cons (dv 1) da_nil)) da_nil))) (dg_name (sc_read_turning).nd rfl (.inl rfl)) (dss_cons (ds_set (sc_read_turning).nd rfl (.inl rfl) (de_callD d_read_rule (hr.mono (by omega)) hg rfl (da_cons (de_ix (dv 1) (dv 3)) da_nil) (len_consA len_nilA))) (dss_cons (ds_if (dt_w (dw_or (dt_cmp (op_isA) od_is (dv 4) de_non) (dw_or1 (dt_w (dw_and (dt_tru (dv 2)) (dw_and1 (dt_cmp (op_leP hr.units0) od_leP (de_slice (dv 4) do_none (do_some de_int)) (de_slice (de_ix (dv 2) (de_neg de_int)) do_none (do_some de_int))))))))) (dss_one (ds_raiseD (k := 0) r_InvalidText rfl tk h_b_super (hr.mono (by omega)) rfl (dv 3))) dss_nil) (dss_one (ds_expr (de_append (dv 2) (dv 4))))))) (dss_one (ds_ret (de_makeD mk_Turning (hr.mono (by omega)) rfl (da_cons (de_ty call_tuple_of cd_tuple rfl h_b_tuple PySem.Pv.boot_tuple (da_cons (dv 2) da_nil)) (da_cons (de_ix (dv 1) de_int) da_nil)))))))))
/-! ### _law_deal -/
abbrev s__law_deal : Stmt := (top 31)
def N__law_deal : List Str := [("script" : Str), ("base" : Str), ("cells" : Str), ("mix" : Str), ("cell" : Str)]
theorem sc__law_deal : FnScope N__law_deal [("script" : Str), ("base" : Str)] (defScope s__law_deal) := ⟨rfl, rfl, rfl, by decide +kernel, rfl, by decide +kernel, by decide +kernel⟩
def g__law_deal : SS := (seqS (setS 2 (lcE (seqI (sliceE (varE 0) noO (someO (cE (.int 63))))) (nameG 4) yesT (bltE (one absV) (consA (bltE (one intV) (consA (varE 4) nilA)) nilA)) [4])) (seqS (setS 3 (op2 addV (op2 mulV (cE (.int 51869)) (varE 1)) (cE (.int 977)))) (seqS (forS (seqI (varE 2)) (nameG 4) (setS 3 (op2 modV (bltE (one intV) (consA (op2 addV (op2 addV (op2 mulV (varE 3) (cE (.int 48271))) (op2 modV (varE 4) (cE (.int 2147483563)))) (cE (.int 67))) nilA)) (cE (.int 2147483647)))) [4]) (retS (newE (consA (revC (lcE (seqI (varE 2)) (nameG 4) (asB (op2 geV (varE 4) (op2 powV (cE (.int 10)) (cE (.int 18))))) (varE 4) [4])) (consA (varE 3) nilA)))))))
def F__law_deal : List Val → Store → R Val := funK N__law_deal.length g__law_deal
theorem b__law_deal (FX : Fx P K mg) : BodyOk P w K mg base ("_law_deal" : Str) s__law_deal f N__law_deal 0 g__law_deal := by
  intro cdv A outer sh H E hr hg
  have h_b_int := FX.b_int
  have h_b_abs := FX.b_abs
  exact (dss_cons (ds_setLc (own := [(("cell" : Str), 4)]) rfl (sc__law_deal).nd rfl rfl (sw_true rfl rfl rfl (by decide +kernel)) (di_seq (de_slice (dv 0) do_none (do_some de_int))) (blkOk_by (N := N__law_deal) (sc := defScope s__law_deal) (by decide +kernel)) (fun _ _ _ _ _ => (dg_name (sc__law_deal).nd rfl (.inl rfl))) (fun _ _ _ _ _ => dts_nil) (fun _ _ _ _ _ => (de_blt call_abs cd_abs rfl h_b_abs PyProof.Rows.boot_abs (da_cons (de_ty call_int1 cd_int rfl h_b_int PySem.Pv.boot_int (da_cons (dv 4) da_nil)) da_nil)))) (dss_cons (ds_set (sc__law_deal).nd rfl (.inl rfl) (de_op op_addA od_add (de_op op_mulA od_mul de_int (dv 1)) de_int)) (dss_cons (ds_for [4] PassesOwn.never rfl (di_seq (dv 2)) (dg_name (sc__law_deal).nd rfl (.inl rfl)) (dss_one (ds_set (sc__law_deal).nd rfl (.inl rfl) (de_op op_mod od_mod (de_ty call_int1 cd_int rfl h_b_int PySem.Pv.boot_int (da_cons (de_op op_addA od_add (de_op op_addA od_add (de_op op_mulA od_mul (dv 3) de_int) (de_op op_mod od_mod (dv 4) de_int)) de_int) da_nil)) de_int)))) (dss_one (ds_ret (de_new (da_cons (de_revC (de_lc (own := [(("cell" : Str), 4)]) rfl (sc__law_deal).nd (di_seq (dv 2)) (blkOk_by (N := N__law_deal) (sc := defScope s__law_deal) (by decide +kernel)) (fun _ _ _ _ _ => (dg_name (sc__law_deal).nd rfl (.inl rfl))) (fun _ _ _ _ _ => (dts_one (dt_cmp (op_geA) od_ge (dv 4) (de_op op_pow od_pow de_int de_int)))) (fun _ _ _ _ _ => (dv 4)))) (da_cons (dv 3) da_nil))))))))
/-! ### _law_any -/
abbrev s__law_any : Stmt := (top 32)
def N__law_any : List Str := [("deal" : Str), ("bound" : Str), ("rest" : Str)]
theorem sc__law_any : FnScope N__law_any [("deal" : Str), ("bound" : Str)] (defScope s__law_any) := ⟨rfl, rfl, rfl, by decide +kernel, rfl, by decide +kernel, by decide +kernel⟩
def g__law_any : SS := (seqS (whileS (fun _ _ => 70) (andT (asB (op2 (eqV true) (op2 ixV (varE 0) (cE (.int 0))) (lstE nilA))) (asB (op2 (eqV false) (op2 ixV (op2 ixV (varE 0) (cE (.int 0))) (negE (cE (.int 1)))) (cE (.int 0))))) (exprS (mt0E popV (op2 ixV (varE 0) (cE (.int 0))))) []) (seqS (ifS (asB (op2 (eqV true) (op2 ixV (varE 0) (cE (.int 0))) (lstE nilA))) (seqS (setS 2 (bltE (one intV) (consA (mt0E popV (op2 ixV (varE 0) (cE (.int 0)))) nilA))) (seqS (exprS (appendE (op2 ixV (varE 0) (cE (.int 0))) (op2 fdivV (varE 2) (varE 1)))) (retS (op2 modV (varE 2) (varE 1))))) nxS) (seqS (setIxS (varE 0) (cE (.int 1)) (op2 modV (bltE (one intV) (consA (op2 addV (op2 mulV (op2 ixV (varE 0) (cE (.int 1))) (cE (.int 48271))) (cE (.int 89))) nilA)) (cE (.int 2147483647)))) (retS (op2 modV (bltE (one intV) (consA (op2 fdivV (op2 ixV (varE 0) (cE (.int 1))) (cE (.int 64))) nilA)) (varE 1))))))
def F__law_any : List Val → Store → R Val := funD N__law_any.length g__law_any
theorem b__law_any (FX : Fx P K mg) : BodyOk P w K mg base ("_law_any" : Str) s__law_any f N__law_any 0 g__law_any := by
  intro cdv A outer sh H E hr hg
  have h_b_int := FX.b_int
  exact (dss_cons (ds_while (fun _ _ => 70) [] PassesOwn.never (dt_w (dw_and (dt_cmp (op_neA hr.units) od_eq (de_ix (dv 0) de_int) (de_lst da_nil)) (dw_and1 (dt_cmp (op_eqA hr.units) od_eq (de_ix (de_ix (dv 0) de_int) (de_neg de_int)) de_int)))) (dss_one (ds_expr (de_pop (de_ix (dv 0) de_int))))) (dss_cons (ds_if (dt_cmp (op_neA hr.units) od_eq (de_ix (dv 0) de_int) (de_lst da_nil)) (dss_cons (ds_set (sc__law_any).nd rfl (.inl rfl) (de_ty call_int1 cd_int rfl h_b_int PySem.Pv.boot_int (da_cons (de_pop (de_ix (dv 0) de_int)) da_nil))) (dss_cons (ds_expr (de_append (de_ix (dv 0) de_int) (de_op op_fdiv od_fdiv (dv 2) (dv 1)))) (dss_one (ds_ret (de_op op_mod od_mod (dv 2) (dv 1)))))) dss_nil) (dss_cons (ds_setIx (de_op op_mod od_mod (de_ty call_int1 cd_int rfl h_b_int PySem.Pv.boot_int (da_cons (de_op op_addA od_add (de_op op_mulA od_mul (de_ix (dv 0) de_int) de_int) de_int) da_nil)) de_int) (dv 0) de_int) (dss_one (ds_ret (de_op op_mod od_mod (de_ty call_int1 cd_int rfl h_b_int PySem.Pv.boot_int (da_cons (de_op op_fdiv od_fdiv (de_ix (dv 0) de_int) de_int) da_nil)) (dv 1)))))))
/-! ### _law_of -/
abbrev s__law_of : Stmt := (top 33)
def N__law_of : List Str := [("deal" : Str), ("some" : Str)]
theorem sc__law_of : FnScope N__law_of [("deal" : Str), ("some" : Str)] (defScope s__law_of) := ⟨rfl, rfl, rfl, by decide +kernel, rfl, by decide +kernel, by decide +kernel⟩
def g__law_of : SS := (retS (op2 ixV (varE 1) (callE F__law_any (consA (varE 0) (consA (bltE (one lenV) (consA (varE 1) nilA)) nilA)))))
def F__law_of : List Val → Store → R Val := funD N__law_of.length g__law_of
theorem b__law_of (FX : Fx P K mg) (d__law_any : DefOk P w K mg base 1 ("_law_any" : Str) [("deal" : Str), ("bound" : Str)] F__law_any) : BodyOk P w K mg base ("_law_of" : Str) s__law_of f N__law_of 1 g__law_of := by
  intro cdv A outer sh H E hr hg
  have h_b_len := FX.b_len
  exact (dss_one (ds_ret (de_ix (dv 1) (de_callD d__law_any (hr.mono (by omega)) hg rfl (da_cons (dv 0) (da_cons (de_blt call_len cd_len rfl h_b_len PySem.boot_len (da_cons (dv 1) da_nil)) da_nil)) (len_consA (len_consA len_nilA))))))
/-! ### _law_names -/
abbrev s__law_names : Stmt := (top 34)
def N__law_names : List Str := [("deal" : Str)]
theorem sc__law_names : FnScope N__law_names [("deal" : Str)] (defScope s__law_names) := ⟨rfl, rfl, rfl, by decide +kernel, rfl, by decide +kernel, by decide +kernel⟩
def g__law_names : SS := (retS (callE F__law_of (consA (varE 0) (consA (lstE (consA (lstE (consA (cE (.str ("x" : Str))) nilA)) (consA (lstE (consA (cE (.str ("x" : Str))) (consA (cE (.str ("y" : Str))) nilA))) (consA (lstE (consA (cE (.str ("x" : Str))) (consA (cE (.str ("y" : Str))) (consA (cE (.str ("z" : Str))) nilA)))) (consA (lstE (consA (cE (.str ("p" : Str))) (consA (cE (.str ("pa" : Str))) (consA (cE (.str ("pb" : Str))) nilA)))) nilA))))) nilA))))
def F__law_names : List Val → Store → R Val := funD N__law_names.length g__law_names
theorem b__law_names (FX : Fx P K mg) (d__law_of : DefOk P w K mg base 2 ("_law_of" : Str) [("deal" : Str), ("some" : Str)] F__law_of) : BodyOk P w K mg base ("_law_names" : Str) s__law_names f N__law_names 2 g__law_names := by
  intro cdv A outer sh H E hr hg
  exact (dss_one (ds_ret (de_callD d__law_of (hr.mono (by omega)) hg rfl (da_cons (dv 0) (da_cons (de_lst (da_cons (de_lst (da_cons de_str da_nil)) (da_cons (de_lst (da_cons de_str (da_cons de_str da_nil))) (da_cons (de_lst (da_cons de_str (da_cons de_str (da_cons de_str da_nil)))) (da_cons (de_lst (da_cons de_str (da_cons de_str (da_cons de_str da_nil)))) da_nil))))) da_nil)) (len_consA (len_consA len_nilA)))))
/-! ### _law_parts -/
abbrev s__law_parts : Stmt := (top 35)
def N__law_parts : List Str := [("deal" : Str), ("modes" : Str), ("names" : Str), ("letter" : Str), ("deep" : Str), ("room" : Str), ("found" : Str), ("turn" : Str), ("sort" : Str)]
theorem sc__law_parts : FnScope N__law_parts [("deal" : Str), ("modes" : Str), ("names" : Str), ("letter" : Str), ("deep" : Str), ("room" : Str)] (defScope s__law_parts) := ⟨rfl, rfl, rfl, by decide +kernel, rfl, by decide +kernel, by decide +kernel⟩
def g__law_parts (F__law_parts : List Val → Store → R Val) : SS := (seqS (setS 6 (newE nilA)) (seqS (forS (rng1I (consA (callE F__law_any (consA (varE 0) (consA (ifE (asB (op2 gtV (varE 4) (cE (.int 0)))) (cE (.int 4)) (cE (.int 3))) nilA))) nilA)) (nameG 7) (seqS (setS 8 (callE F__law_any (consA (varE 0) (consA (cE (.int 6)) nilA)))) (ifS (andT (asB (op2 ltV (varE 8) (cE (.int 2)))) (asB (op2 gtV (varE 4) (cE (.int 0))))) (exprS (appendE (varE 6) (tupE (consA (cE (.str ("node" : Str))) (consA (callE F__law_of (consA (varE 0) (consA (varE 2) nilA))) (consA (callE F__law_parts (consA (varE 0) (consA (varE 1) (consA (varE 2) (consA (varE 3) (consA (op2 subV (varE 4) (cE (.int 1))) (consA (varE 5) nilA))))))) nilA)))))) (ifS (orT (asB (op2 (eqV false) (varE 8) (cE (.int 2)))) (asB (op2 (eqV false) (op2 ixV (varE 5) (cE (.int 0))) (cE (.int 0))))) (exprS (appendE (varE 6) (tupE (consA (cE (.str ("say" : Str))) (consA (callE F__law_of (consA (varE 0) (consA (lstE (consA (cE (.str ("" : Str))) (consA (cE (.str ("s" : Str))) (consA (cE (.str ("x 1" : Str))) nilA)))) nilA))) nilA))))) (ifS (asB (op2 (eqV false) (varE 3) (cE (.str ("" : Str))))) (exprS (appendE (varE 6) (tupE (consA (cE (.str ("keep" : Str))) nilA)))) (seqS (setIxS (varE 5) (cE (.int 0)) (op2 subV (op2 ixV (varE 5) (cE (.int 0))) (cE (.int 1)))) (exprS (appendE (varE 6) (tupE (consA (cE (.str ("go" : Str))) (consA (callE F__law_of (consA (varE 0) (consA (varE 1) nilA))) nilA)))))))))) [7, 8]) (retS (bltE (one tupleV) (consA (varE 6) nilA)))))
def F__law_parts : Nat → List Val → Store → R Val
  | 0 => fun _ _ => .err
  | n + 1 => funD N__law_parts.length (g__law_parts (F__law_parts n))
theorem b__law_parts {k : Nat} (hk : 2 ≤ k) (FX : Fx P K mg) {F__law_parts : List Val → Store → R Val} (d__law_any : DefOk P w K mg base 1 ("_law_any" : Str) [("deal" : Str), ("bound" : Str)] F__law_any) (d__law_parts : DefOk P w K mg base k ("_law_parts" : Str) [("deal" : Str), ("modes" : Str), ("names" : Str), ("letter" : Str), ("deep" : Str), ("room" : Str)] F__law_parts) (d__law_of : DefOk P w K mg base 2 ("_law_of" : Str) [("deal" : Str), ("some" : Str)] F__law_of) : BodyOk P w K mg base ("_law_parts" : Str) s__law_parts f N__law_parts k (g__law_parts F__law_parts) := by
  intro cdv A outer sh H E hr hg
  have h_b_range := FX.b_range
  have h_b_tuple := FX.b_tuple
  exact (dss_cons (ds_set (sc__law_parts).nd rfl (.inl rfl) (de_new da_nil)) (dss_cons (ds_for [7, 8] PassesOwn.never rfl (di_rng1 rfl h_b_range (da_cons (de_callD d__law_any (hr.mono (by omega)) hg rfl (da_cons (dv 0) (da_cons (de_if (dt_cmp (op_gtA) od_gt (dv 4) de_int) de_int de_int) da_nil)) (len_consA (len_consA len_nilA))) da_nil)) (dg_name (sc__law_parts).nd rfl (.inl rfl)) (dss_cons (ds_set (sc__law_parts).nd rfl (.inl rfl) (de_callD d__law_any (hr.mono (by omega)) hg rfl (da_cons (dv 0) (da_cons de_int da_nil)) (len_consA (len_consA len_nilA)))) (dss_one (ds_if (dt_w (dw_and (dt_cmp (op_ltA) od_lt (dv 8) de_int) (dw_and1 (dt_cmp (op_gtA) od_gt (dv 4) de_int)))) (dss_one (ds_expr (de_append (dv 6) (de_tup (da_cons de_str (da_cons (de_callD d__law_of (hr.mono (by omega)) hg rfl (da_cons (dv 0) (da_cons (dv 2) da_nil)) (len_consA (len_consA len_nilA))) (da_cons (de_callD d__law_parts (hr.mono (by omega)) hg rfl (da_cons (dv 0) (da_cons (dv 1) (da_cons (dv 2) (da_cons (dv 3) (da_cons (de_op op_subA od_sub (dv 4) de_int) (da_cons (dv 5) da_nil)))))) (len_consA (len_consA (len_consA (len_consA (len_consA (len_consA len_nilA))))))) da_nil))))))) (dss_one (ds_if (dt_w (dw_or (dt_cmp (op_eqA hr.units) od_eq (dv 8) de_int) (dw_or1 (dt_cmp (op_eqA hr.units) od_eq (de_ix (dv 5) de_int) de_int)))) (dss_one (ds_expr (de_append (dv 6) (de_tup (da_cons de_str (da_cons (de_callD d__law_of (hr.mono (by omega)) hg rfl (da_cons (dv 0) (da_cons (de_lst (da_cons de_str (da_cons de_str (da_cons de_str da_nil)))) da_nil)) (len_consA (len_consA len_nilA))) da_nil)))))) (dss_one (ds_if (dt_cmp (op_eqA hr.units) od_eq (dv 3) de_str) (dss_one (ds_expr (de_append (dv 6) (de_tup (da_cons de_str da_nil))))) (dss_cons (ds_setIx (de_op op_subA od_sub (de_ix (dv 5) de_int) de_int) (dv 5) de_int) (dss_one (ds_expr (de_append (dv 6) (de_tup (da_cons de_str (da_cons (de_callD d__law_of (hr.mono (by omega)) hg rfl (da_cons (dv 0) (da_cons (dv 1) da_nil)) (len_consA (len_consA len_nilA))) da_nil))))))))))))))) (dss_one (ds_ret (de_ty call_tuple_of cd_tuple rfl h_b_tuple PySem.Pv.boot_tuple (da_cons (dv 6) da_nil))))))
/-! ### _law_turning -/
abbrev s__law_turning : Stmt := (top 36)
def N__law_turning : List Str := [("deal" : Str), ("names" : Str), ("most" : Str), ("goes" : Str), ("deep" : Str), ("modes" : Str), ("rules" : Str), ("mode" : Str), ("letter" : Str)]
theorem sc__law_turning : FnScope N__law_turning [("deal" : Str), ("names" : Str), ("most" : Str), ("goes" : Str), ("deep" : Str)] (defScope s__law_turning) := ⟨rfl, rfl, rfl, by decide +kernel, rfl, by decide +kernel, by decide +kernel⟩
def g__law_turning : SS := (seqS (setS 5 (sliceE (callE F__law_of (consA (varE 0) (consA (lstE (consA (lstE (consA (cE (.str ("a" : Str))) (consA (cE (.str ("b" : Str))) (consA (cE (.str ("c" : Str))) nilA)))) (consA (lstE (consA (cE (.str ("k" : Str))) (consA (cE (.str ("ka" : Str))) (consA (cE (.str ("kb" : Str))) nilA)))) (consA (lstE (consA (cE (.str ("m" : Str))) (consA (cE (.str ("n" : Str))) (consA (cE (.str ("nn" : Str))) nilA)))) nilA)))) nilA))) noO (someO (op2 addV (cE (.int 1)) (callE F__law_any (consA (varE 0) (consA (varE 2) nilA))))))) (seqS (setS 6 (newE nilA)) (seqS (forS (seqI (varE 5)) (nameG 7) (forS (seqI (op2 addV (lstE (consA (cE (.str ("" : Str))) nilA)) (varE 1))) (nameG 8) (ifS (asB (op2 gtV (callE F__law_any (consA (varE 0) (consA (cE (.int 4)) nilA))) (cE (.int 0)))) (exprS (appendE (varE 6) (tupE (consA (varE 7) (consA (varE 8) (consA (callE (F__law_parts 12) (consA (varE 0) (consA (varE 5) (consA (op2 addV (varE 1) (lstE (consA (cE (.str ("w" : Str))) nilA))) (consA (varE 8) (consA (varE 4) (consA (newE (consA (varE 3) nilA)) nilA))))))) nilA)))))) nxS) [8]) [7, 8]) (retS (tupE (consA (bltE (one tupleV) (consA (varE 6) nilA)) (consA (callE F__law_of (consA (varE 0) (consA (varE 5) nilA))) nilA)))))))
def F__law_turning : List Val → Store → R Val := funD N__law_turning.length g__law_turning
theorem b__law_turning (FX : Fx P K mg) (d__law_of : DefOk P w K mg base 2 ("_law_of" : Str) [("deal" : Str), ("some" : Str)] F__law_of) (d__law_any : DefOk P w K mg base 1 ("_law_any" : Str) [("deal" : Str), ("bound" : Str)] F__law_any) (d__law_parts : DefOk P w K mg base 14 ("_law_parts" : Str) [("deal" : Str), ("modes" : Str), ("names" : Str), ("letter" : Str), ("deep" : Str), ("room" : Str)] (F__law_parts 12)) : BodyOk P w K mg base ("_law_turning" : Str) s__law_turning f N__law_turning 14 g__law_turning := by
  intro cdv A outer sh H E hr hg
  have h_b_tuple := FX.b_tuple
  exact (dss_cons (ds_set (sc__law_turning).nd rfl (.inl rfl) (de_slice (de_callD d__law_of (hr.mono (by omega)) hg rfl (da_cons (dv 0) (da_cons (de_lst (da_cons (de_lst (da_cons de_str (da_cons de_str (da_cons de_str da_nil)))) (da_cons (de_lst (da_cons de_str (da_cons de_str (da_cons de_str da_nil)))) (da_cons (de_lst (da_cons de_str (da_cons de_str (da_cons de_str da_nil)))) da_nil)))) da_nil)) (len_consA (len_consA len_nilA))) do_none (do_some (de_op op_addA od_add de_int (de_callD d__law_any (hr.mono (by omega)) hg rfl (da_cons (dv 0) (da_cons (dv 2) da_nil)) (len_consA (len_consA len_nilA))))))) (dss_cons (ds_set (sc__law_turning).nd rfl (.inl rfl) (de_new da_nil)) (dss_cons (ds_for [7, 8] PassesOwn.never rfl (di_seq (dv 5)) (dg_name (sc__law_turning).nd rfl (.inl rfl)) (dss_one (ds_for [8] PassesOwn.never rfl (di_seq (de_op op_addA od_add (de_lst (da_cons de_str da_nil)) (dv 1))) (dg_name (sc__law_turning).nd rfl (.inl rfl)) (dss_one (ds_if (dt_cmp (op_gtA) od_gt (de_callD d__law_any (hr.mono (by omega)) hg rfl (da_cons (dv 0) (da_cons de_int da_nil)) (len_consA (len_consA len_nilA))) de_int) (dss_one (ds_expr (de_append (dv 6) (de_tup (da_cons (dv 7) (da_cons (dv 8) (da_cons (de_callD d__law_parts (hr.mono (by omega)) hg rfl (da_cons (dv 0) (da_cons (dv 5) (da_cons (de_op op_addA od_add (dv 1) (de_lst (da_cons de_str da_nil))) (da_cons (dv 8) (da_cons (dv 4) (da_cons (de_new (da_cons (dv 3) da_nil)) da_nil)))))) (len_consA (len_consA (len_consA (len_consA (len_consA (len_consA len_nilA))))))) da_nil))))))) dss_nil))))) (dss_one (ds_ret (de_tup (da_cons (de_ty call_tuple_of cd_tuple rfl h_b_tuple PySem.Pv.boot_tuple (da_cons (dv 6) da_nil)) (da_cons (de_callD d__law_of (hr.mono (by omega)) hg rfl (da_cons (dv 0) (da_cons (dv 5) da_nil)) (len_consA (len_consA len_nilA))) da_nil))))))))
/-! ### _law_words -/
abbrev s__law_words : Stmt := (top 37)
def N__law_words : List Str := [("parts" : Str), ("found" : Str), ("part" : Str)]
theorem sc__law_words : FnScope N__law_words [("parts" : Str)] (defScope s__law_words) := ⟨rfl, rfl, rfl, by decide +kernel, rfl, by decide +kernel, by decide +kernel⟩
def g__law_words (F__law_words : List Val → Store → R Val) : SS := (seqS (setS 1 (newE nilA)) (seqS (forS (seqI (varE 0)) (nameG 2) (ifS (asB (op2 (eqV false) (op2 ixV (varE 2) (cE (.int 0))) (cE (.str ("node" : Str))))) (exprS (appendE (varE 1) (op2 addV (op2 addV (op2 addV (op2 ixV (varE 2) (cE (.int 1))) (cE (.str ("(" : Str)))) (callE F__law_words (consA (op2 ixV (varE 2) (cE (.int 2))) nilA))) (cE (.str (")" : Str)))))) (ifS (asB (op2 (eqV false) (op2 ixV (varE 2) (cE (.int 0))) (cE (.str ("keep" : Str))))) (exprS (appendE (varE 1) (cE (.str ("*" : Str))))) (exprS (appendE (varE 1) (ifE (asB (op2 (eqV false) (op2 ixV (varE 2) (cE (.int 0))) (cE (.str ("go" : Str))))) (op2 addV (cE (.str ("!" : Str))) (op2 ixV (varE 2) (cE (.int 1)))) (op2 addV (op2 addV (cE (.str ("\"" : Str))) (op2 ixV (varE 2) (cE (.int 1)))) (cE (.str ("\"" : Str))))))))) [2]) (retS (tm1E joinV (cE (.str (" " : Str))) (varE 1)))))
def F__law_words : Nat → List Val → Store → R Val
  | 0 => fun _ _ => .err
  | n + 1 => funD N__law_words.length (g__law_words (F__law_words n))
theorem b__law_words {k : Nat} (hk : 0 ≤ k) (FX : Fx P K mg) {F__law_words : List Val → Store → R Val} (d__law_words : DefOk P w K mg base k ("_law_words" : Str) [("parts" : Str)] F__law_words) : BodyOk P w K mg base ("_law_words" : Str) s__law_words f N__law_words k (g__law_words F__law_words) := by
  intro cdv A outer sh H E hr hg
  exact (dss_cons (ds_set (sc__law_words).nd rfl (.inl rfl) (de_new da_nil)) (dss_cons (ds_for [2] PassesOwn.never rfl (di_seq (dv 0)) (dg_name (sc__law_words).nd rfl (.inl rfl)) (dss_one (ds_if (dt_cmp (op_eqA hr.units) od_eq (de_ix (dv 2) de_int) de_str) (dss_one (ds_expr (de_append (dv 1) (de_op op_addA od_add (de_op op_addA od_add (de_op op_addA od_add (de_ix (dv 2) de_int) de_str) (de_callD d__law_words (hr.mono (by omega)) hg rfl (da_cons (de_ix (dv 2) de_int) da_nil) (len_consA len_nilA))) de_str)))) (dss_one (ds_if (dt_cmp (op_eqA hr.units) od_eq (de_ix (dv 2) de_int) de_str) (dss_one (ds_expr (de_append (dv 1) de_str))) (dss_one (ds_expr (de_append (dv 1) (de_if (dt_cmp (op_eqA hr.units) od_eq (de_ix (dv 2) de_int) de_str) (de_op op_addA od_add de_str (de_ix (dv 2) de_int)) (de_op op_addA od_add (de_op op_addA od_add de_str (de_ix (dv 2) de_int)) de_str)))))))))) (dss_one (ds_ret (de_join de_str (dv 1))))))
/-! ### _law_pieces -/
abbrev s__law_pieces : Stmt := (top 38)
def N__law_pieces : List Str := [("rules" : Str), ("mode" : Str), ("found" : Str), ("first" : Str), ("letter" : Str), ("parts" : Str)]
theorem sc__law_pieces : FnScope N__law_pieces [("rules" : Str), ("mode" : Str)] (defScope s__law_pieces) := ⟨rfl, rfl, rfl, by decide +kernel, rfl, by decide +kernel, by decide +kernel⟩
def g__law_pieces : SS := (seqS (setS 2 (newE (consA (varE 1) nilA))) (seqS (forS (seqI (varE 0)) (tupG (consG (nameG 3) (consG (nameG 4) (consG (nameG 5) nilG)))) (exprS (appendE (varE 2) (op2 addV (op2 addV (op2 addV (op2 addV (varE 3) (cE (.str (" " : Str)))) (ifE (asB (op2 (eqV true) (varE 4) (cE (.str ("" : Str))))) (varE 4) (cE (.str ("#" : Str))))) (cE (.str (" " : Str)))) (ifE (asB (op2 (eqV true) (varE 5) (tupE nilA))) (callE (F__law_words 12) (consA (varE 5) nilA)) (cE (.str ("-" : Str))))))) [3, 4, 5]) (retS (varE 2))))
def F__law_pieces : List Val → Store → R Val := funD N__law_pieces.length g__law_pieces
theorem b__law_pieces (FX : Fx P K mg) (d__law_words : DefOk P w K mg base 12 ("_law_words" : Str) [("parts" : Str)] (F__law_words 12)) : BodyOk P w K mg base ("_law_pieces" : Str) s__law_pieces f N__law_pieces 12 g__law_pieces := by
  intro cdv A outer sh H E hr hg
  exact (dss_cons (ds_set (sc__law_pieces).nd rfl (.inl rfl) (de_new (da_cons (dv 1) da_nil))) (dss_cons (ds_for [3, 4, 5] PassesOwn.never rfl (di_seq (dv 0)) (dg_tup rfl (dgs_cons (dg_name (sc__law_pieces).nd rfl (.inl rfl)) (dgs_cons (dg_name (sc__law_pieces).nd rfl (.inl rfl)) (dgs_cons (dg_name (sc__law_pieces).nd rfl (.inl rfl)) dgs_nil))) (len_consG (len_consG (len_consG len_nilG)))) (dss_one (ds_expr (de_append (dv 2) (de_op op_addA od_add (de_op op_addA od_add (de_op op_addA od_add (de_op op_addA od_add (dv 3) de_str) (de_if (dt_cmp (op_neA hr.units) od_eq (dv 4) de_str) (dv 4) de_str)) de_str) (de_if (dt_cmp (op_neA hr.units) od_eq (dv 5) (de_tup da_nil)) (de_callD d__law_words (hr.mono (by omega)) hg rfl (da_cons (dv 5) da_nil) (len_consA len_nilA)) de_str)))))) (dss_one (ds_ret (dv 2)))))
/-! ### _law_told -/
abbrev s__law_told : Stmt := (top 39)
def N__law_told : List Str := [("text" : Str), ("e" : Str)]
theorem sc__law_told : FnScope N__law_told [("text" : Str)] (defScope s__law_told) := ⟨rfl, rfl, rfl, by decide +kernel, rfl, by decide +kernel, by decide +kernel⟩
def suite__law_told : Str → List Str → List D → Store → R Val := fun c ns vs st => match ns, vs with
  | [a], [x] => if a = ("at" : Str) ∧ c = ("InvalidText" : Str) then .ok (.d (.lst [.str ("text" : Str), x, .bl true, .bl false])) st else .err
  | _, _ => .err
theorem suite_ok__law_told {pn : List (Addr × Obj)} {a : Addr} {oe : Obj} {cls : Value} {d : Option Addr} {cdv : Value} {A : Around} {outer : List PySem.Env} {sh : Shared} {H : Hp} {E : XK} (FX : Fx P K mg) (hz : Zc cls d oe) (hf : ∃ vs, oe.data = .fields vs) :
    PSs ((cxOf CX0 P w K mg base N__law_told "_law_told" (defScope s__law_told) f cdv A outer sh H E).nox.suite a ((a, oe) :: pn)) (handlerBody ((defBody s__law_told).getD 0 (.Pass ⟨0, 0, 0, 0⟩))) (tSuite K mg 1 a cls d suite__law_told) := by
  obtain ⟨A1, A2, A3, m1, m2, m3, xf, hno, xc, k1, k2⟩ := FX.told
  by_cases hc : cls = .ref A1
  case neg =>
    refine pss_never.imp fun Z σ H ⟨m, st, c, ns, vs, _, _, x, p⟩ => ?_
    unfold suite__law_told at p
    split at p
    · split at p
      · rename_i q
        have := x.1
        rw [q.2, m1] at this
        exact hc (Option.some.inj this).symm
      · exact p
    · exact p
  subst hc
  refine L2.PSs.imp (pss_one (ps_ret (pe_lst (pa_cons pe_str (pa_cons (pe_xf xf hno hz hf (pe_var (i := 1) rfl (.inl rfl) (by decide) (by decide)))
    (pa_cons (pe_callB (call_isX xc hz hf) rfl FX.b_isinstance PyProof.Rows.boot_isinstance (pa_cons (pe_var (i := 1) rfl (.inl rfl) (by decide) (by decide)) (pa_cons (pe_glob (v := .ref A2) rfl m2 rfl) pa_nil)) (by decide) (by decide))
    (pa_cons (pe_callB (call_isX xc hz hf) rfl FX.b_isinstance PyProof.Rows.boot_isinstance (pa_cons (pe_var (i := 1) rfl (.inl rfl) (by decide) (by decide)) (pa_cons (pe_glob (v := .ref A3) rfl m3 rfl) pa_nil)) (by decide) (by decide)) pa_nil))))))) fun Z σ H ⟨m, st, c, ns, vs, hi, t, x, p⟩ => ?_
  unfold suite__law_told at p
  split at p
  case h_2 => exact p.elim
  split at p
  case isFalse => exact p.elim
  rename_i a' x' q
  obtain ⟨rfl, rfl⟩ := q
  obtain ⟨_, dd, fs, ws, rfl, hd, hn, e1, e2, r⟩ := x
  cases r with
  | cons r r2 =>
    cases r2
    rename_i v
    obtain rfl : fs = [(("at" : Str), v)] := by
      match fs, e1, e2 with
      | [(a, b)], e1, e2 => cases e1; cases e2; rfl
    refine ⟨_, hi, rfl, rfl, dd, _, v, rfl, hd, rfl, _, hi, ⟨⟨dd, _, rfl, hd⟩, _, _, true, rfl, fun u ru => ru, k1, _, hi, ⟨⟨dd, _, rfl, hd⟩, _, _, false, rfl, fun u ru => ru, k2, ?_⟩⟩⟩
    refine ⟨(by show 4 ≤ sizeLine; decide), fun p' hp' => ?_⟩
    exact p.lstN t (.cons (.str _) (.cons r (.cons (.bl _) (.cons (.bl _) .nil)))) p' hp'

def g__law_told : SS := (tryAsS 1 sub_InvalidText (retS (callX F_read_turning (consA (varE 0) nilA))) suite__law_told)
def F__law_told : List Val → Store → R Val := funD N__law_told.length g__law_told
theorem b__law_told (FX : Fx P K mg) (k_read_turning : DefOkKX P w K mg base 17 ("read_turning" : Str) ("text" : Str) F_read_turning) : BodyOk P w K mg base ("_law_told" : Str) s__law_told f N__law_told 17 g__law_told := by
  intro cdv A outer sh H E hr hg
  obtain ⟨A_InvalidText, h_m_x_InvalidText, h_sb_InvalidText⟩ := FX.x_InvalidText
  have h_sub_InvalidText := sub_ok_InvalidText h_m_x_InvalidText h_sb_InvalidText
  exact (dss_one (ds_tryAs (i := 1) rfl rfl (sc__law_told).nd rfl rfl ⟨rfl, by decide, .inl h_m_x_InvalidText⟩ takes_none h_sub_InvalidText (fun W pn xe tk2 ho => (dss_one (ds_ret (de_callDKX k_read_turning tk2 (hr.mono (by omega)) hg rfl (dv 0))))) (fun a oe cls d pn hz hf => suite_ok__law_told FX hz hf)))
/-! ### _law_refused -/
abbrev s__law_refused : Stmt := (top 40)
def N__law_refused : List Str := [("deal" : Str), ("pieces" : Str), ("rules" : Str), ("at" : Str), ("wrong" : Str), ("first" : Str), ("letter" : Str), ("body" : Str), ("later" : Str), ("told" : Str), ("piece" : Str)]
theorem sc__law_refused : FnScope N__law_refused [("deal" : Str), ("pieces" : Str), ("rules" : Str)] (defScope s__law_refused) := ⟨rfl, rfl, rfl, by decide +kernel, rfl, by decide +kernel, by decide +kernel⟩
def g__law_refused : SS := (seqS (setS 3 (callE F__law_any (consA (varE 0) (consA (bltE (one lenV) (consA (varE 1) nilA)) nilA)))) (seqS (setS 4 (lstE (consA (cE (.str ("" : Str))) (consA (cE (.str (" " : Str))) (consA (cE (.str ("A" : Str))) (consA (cE (.str ("a " : Str))) (consA (cE (.str (" a" : Str))) (consA (cE (.str ("a b" : Str))) (consA (cE (.str ("-" : Str))) (consA (cE (.str ("#" : Str))) (consA (cE (.str ("abcdefghi" : Str))) (consA (cE (.str ("a," : Str))) (consA (cE (.str ("," : Str))) (consA (cE (.str ("a1" : Str))) (consA (cE (.str ("!a" : Str))) nilA))))))))))))))) (seqS (ifS (asB (op2 gtV (varE 3) (cE (.int 0)))) (seqS (asgS (sliceE (op2 ixV (varE 2) (op2 subV (varE 3) (cE (.int 1)))) noO (someO (cE (.int 2)))) (tupG (consG (nameG 5) (consG (nameG 6) nilG)))) (seqS (setS 7 (op2 addV (op2 addV (varE 5) (cE (.str (" " : Str)))) (ifE (asB (op2 (eqV true) (varE 6) (cE (.str ("" : Str))))) (varE 6) (cE (.str ("#" : Str)))))) (seqS (setS 4 (lstE (consA (cE (.str ("" : Str))) (consA (varE 5) (consA (varE 7) (consA (op2 addV (varE 7) (cE (.str (" " : Str)))) (consA (op2 addV (op2 addV (cE (.str (" " : Str))) (varE 7)) (cE (.str (" -" : Str)))) (consA (op2 addV (varE 5) (cE (.str ("  -" : Str)))) (consA (op2 addV (varE 7) (cE (.str (" - " : Str)))) (consA (op2 addV (varE 7) (cE (.str (" -  -" : Str)))) (consA (op2 addV (varE 7) (cE (.str ("  -" : Str)))) (consA (op2 addV (varE 7) (cE (.str (" - -" : Str)))) (consA (cE (.str ("A # -" : Str))) nilA))))))))))))) (seqS (setS 4 (op2 addV (varE 4) (lstE (consA (op2 addV (varE 5) (cE (.str (" - -" : Str)))) (consA (op2 addV (varE 7) (cE (.str (" \"" : Str)))) (consA (op2 addV (varE 7) (cE (.str (" \"A\"" : Str)))) (consA (op2 addV (varE 7) (cE (.str (" \"a\"\"b\"" : Str)))) (consA (op2 addV (op2 addV (op2 addV (varE 7) (cE (.str (" \"" : Str)))) (op2 mulSV (cE (.str ("a" : Str))) (cE (.int 17)))) (cE (.str ("\"" : Str)))) (consA (op2 addV (varE 7) (cE (.str (" !" : Str)))) (consA (op2 addV (varE 7) (cE (.str (" !A" : Str)))) (consA (op2 addV (varE 7) (cE (.str (" x" : Str)))) (consA (op2 addV (varE 7) (cE (.str (" x(" : Str)))) nilA)))))))))))) (seqS (setS 4 (op2 addV (varE 4) (lstE (consA (op2 addV (varE 7) (cE (.str (" x( )" : Str)))) (consA (op2 addV (varE 7) (cE (.str (" x(-)" : Str)))) (consA (op2 addV (varE 7) (cE (.str (" x())" : Str)))) (consA (op2 addV (varE 7) (cE (.str (" (x())" : Str)))) (consA (op2 addV (varE 7) (cE (.str (" ()" : Str)))) (consA (op2 addV (varE 7) (cE (.str (" ) (" : Str)))) (consA (op2 addV (varE 7) (cE (.str (" X()" : Str)))) (consA (op2 addV (varE 7) (cE (.str (" x() " : Str)))) (consA (op2 addV (varE 7) (cE (.str ("  x()" : Str)))) nilA)))))))))))) (setS 4 (op2 addV (varE 4) (lstE (consA (op2 addV (varE 7) (cE (.str (" \"\"  \"\"" : Str)))) (consA (op2 addV (varE 7) (ifE (asB (op2 (eqV false) (varE 6) (cE (.str ("" : Str))))) (cE (.str (" !a" : Str))) (cE (.str (" *" : Str))))) (consA (op2 addV (varE 7) (ifE (asB (op2 (eqV false) (varE 6) (cE (.str ("" : Str))))) (cE (.str (" x(!a)" : Str))) (cE (.str (" x(*)" : Str))))) (consA (op2 addV (varE 7) (cE (.str ("," : Str)))) (consA (op2 addV (varE 7) (cE (.str (" abcdefghi()" : Str)))) nilA))))))))))))) nxS) (seqS (ifS (asB (op2 gtV (varE 3) (cE (.int 1)))) (setS 4 (op2 addV (varE 4) (lstE (consA (op2 ixV (varE 1) (op2 subV (varE 3) (cE (.int 1)))) (consA (ifE (asB (op2 (eqV false) (op2 ixV (op2 ixV (varE 2) (op2 subV (varE 3) (cE (.int 2)))) (cE (.int 0))) (varE 5))) (op2 addV (varE 5) (cE (.str (" # -" : Str)))) (op2 ixV (varE 1) (op2 subV (varE 3) (cE (.int 1))))) (consA (op2 addV (op2 ixV (op2 ixV (varE 2) (cE (.int 0))) (cE (.int 0))) (cE (.str (" # -" : Str)))) nilA)))))) nxS) (seqS (setS 8 (lcE (seqI (sliceE (varE 1) (someO (op2 addV (varE 3) (cE (.int 1)))) noO)) (nameG 10) yesT (callE F__law_of (consA (varE 0) (consA (lstE (consA (varE 10) (consA (varE 10) (consA (cE (.str ("" : Str))) nilA)))) nilA))) [10])) (seqS (setS 9 (callE F__law_told (consA (tm1E joinV (cE (.str (", " : Str))) (op2 addV (op2 addV (sliceE (varE 1) noO (someO (varE 3))) (lstE (consA (callE F__law_of (consA (varE 0) (consA (varE 4) nilA))) nilA))) (varE 8))) nilA))) (retS (op2 (eqV false) (bltE (one reprV) (consA (varE 9) nilA)) (bltE (one reprV) (consA (lstE (consA (cE (.str ("text" : Str))) (consA (varE 3) (consA (cE (.bl true)) (consA (cE (.bl false)) nilA))))) nilA))))))))))
def F__law_refused : List Val → Store → R Val := funD N__law_refused.length g__law_refused
theorem b__law_refused (FX : Fx P K mg) (d__law_any : DefOk P w K mg base 1 ("_law_any" : Str) [("deal" : Str), ("bound" : Str)] F__law_any) (d__law_of : DefOk P w K mg base 2 ("_law_of" : Str) [("deal" : Str), ("some" : Str)] F__law_of) (d__law_told : DefOk P w K mg base 18 ("_law_told" : Str) [("text" : Str)] F__law_told) : BodyOk P w K mg base ("_law_refused" : Str) s__law_refused f N__law_refused 18 g__law_refused := by
  intro cdv A outer sh H E hr hg
  have h_b_len := FX.b_len
  have h_b_repr := FX.b_repr
  exact (dss_cons (ds_set (sc__law_refused).nd rfl (.inl rfl) (de_callD d__law_any (hr.mono (by omega)) hg rfl (da_cons (dv 0) (da_cons (de_blt call_len cd_len rfl h_b_len PySem.boot_len (da_cons (dv 1) da_nil)) da_nil)) (len_consA (len_consA len_nilA)))) (dss_cons (ds_set (sc__law_refused).nd rfl (.inl rfl) (de_lst (da_cons de_str (da_cons de_str (da_cons de_str (da_cons de_str (da_cons de_str (da_cons de_str (da_cons de_str (da_cons de_str (da_cons de_str (da_cons de_str (da_cons de_str (da_cons de_str (da_cons de_str da_nil))))))))))))))) (dss_cons (ds_if (dt_cmp (op_gtA) od_gt (dv 3) de_int) (dss_cons (ds_asg (de_slice (de_ix (dv 2) (de_op op_subA od_sub (dv 3) de_int)) do_none (do_some de_int)) (dg_tup rfl (dgs_cons (dg_name (sc__law_refused).nd rfl (.inl rfl)) (dgs_cons (dg_name (sc__law_refused).nd rfl (.inl rfl)) dgs_nil)) (len_consG (len_consG len_nilG)))) (dss_cons (ds_set (sc__law_refused).nd rfl (.inl rfl) (de_op op_addA od_add (de_op op_addA od_add (dv 5) de_str) (de_if (dt_cmp (op_neA hr.units) od_eq (dv 6) de_str) (dv 6) de_str))) (dss_cons (ds_set (sc__law_refused).nd rfl (.inl rfl) (de_lst (da_cons de_str (da_cons (dv 5) (da_cons (dv 7) (da_cons (de_op op_addA od_add (dv 7) de_str) (da_cons (de_op op_addA od_add (de_op op_addA od_add de_str (dv 7)) de_str) (da_cons (de_op op_addA od_add (dv 5) de_str) (da_cons (de_op op_addA od_add (dv 7) de_str) (da_cons (de_op op_addA od_add (dv 7) de_str) (da_cons (de_op op_addA od_add (dv 7) de_str) (da_cons (de_op op_addA od_add (dv 7) de_str) (da_cons de_str da_nil))))))))))))) (dss_cons (ds_set (sc__law_refused).nd rfl (.inl rfl) (de_op op_addA od_add (dv 4) (de_lst (da_cons (de_op op_addA od_add (dv 5) de_str) (da_cons (de_op op_addA od_add (dv 7) de_str) (da_cons (de_op op_addA od_add (dv 7) de_str) (da_cons (de_op op_addA od_add (dv 7) de_str) (da_cons (de_op op_addA od_add (de_op op_addA od_add (de_op op_addA od_add (dv 7) de_str) (de_op op_mulS od_mulS de_str de_int)) de_str) (da_cons (de_op op_addA od_add (dv 7) de_str) (da_cons (de_op op_addA od_add (dv 7) de_str) (da_cons (de_op op_addA od_add (dv 7) de_str) (da_cons (de_op op_addA od_add (dv 7) de_str) da_nil)))))))))))) (dss_cons (ds_set (sc__law_refused).nd rfl (.inl rfl) (de_op op_addA od_add (dv 4) (de_lst (da_cons (de_op op_addA od_add (dv 7) de_str) (da_cons (de_op op_addA od_add (dv 7) de_str) (da_cons (de_op op_addA od_add (dv 7) de_str) (da_cons (de_op op_addA od_add (dv 7) de_str) (da_cons (de_op op_addA od_add (dv 7) de_str) (da_cons (de_op op_addA od_add (dv 7) de_str) (da_cons (de_op op_addA od_add (dv 7) de_str) (da_cons (de_op op_addA od_add (dv 7) de_str) (da_cons (de_op op_addA od_add (dv 7) de_str) da_nil)))))))))))) (dss_one (ds_set (sc__law_refused).nd rfl (.inl rfl) (de_op op_addA od_add (dv 4) (de_lst (da_cons (de_op op_addA od_add (dv 7) de_str) (da_cons (de_op op_addA od_add (dv 7) (de_if (dt_cmp (op_eqA hr.units) od_eq (dv 6) de_str) de_str de_str)) (da_cons (de_op op_addA od_add (dv 7) (de_if (dt_cmp (op_eqA hr.units) od_eq (dv 6) de_str) de_str de_str)) (da_cons (de_op op_addA od_add (dv 7) de_str) (da_cons (de_op op_addA od_add (dv 7) de_str) da_nil)))))))))))))) dss_nil) (dss_cons (ds_if (dt_cmp (op_gtA) od_gt (dv 3) de_int) (dss_one (ds_set (sc__law_refused).nd rfl (.inl rfl) (de_op op_addA od_add (dv 4) (de_lst (da_cons (de_ix (dv 1) (de_op op_subA od_sub (dv 3) de_int)) (da_cons (de_if (dt_cmp (op_eqA hr.units) od_eq (de_ix (de_ix (dv 2) (de_op op_subA od_sub (dv 3) de_int)) de_int) (dv 5)) (de_op op_addA od_add (dv 5) de_str) (de_ix (dv 1) (de_op op_subA od_sub (dv 3) de_int))) (da_cons (de_op op_addA od_add (de_ix (de_ix (dv 2) de_int) de_int) de_str) da_nil))))))) dss_nil) (dss_cons (ds_setLc (own := [(("piece" : Str), 10)]) rfl (sc__law_refused).nd rfl rfl (sw_true rfl rfl rfl (by decide +kernel)) (di_seq (de_slice (dv 1) (do_some (de_op op_addA od_add (dv 3) de_int)) do_none)) (blkOk_by (N := N__law_refused) (sc := defScope s__law_refused) (by decide +kernel)) (fun _ _ _ _ _ => (dg_name (sc__law_refused).nd rfl (.inl rfl))) (fun _ _ _ _ _ => dts_nil) (fun _ _ _ _ _ => (de_callD d__law_of (hr.mono (by omega)) hg rfl (da_cons (dv 0) (da_cons (de_lst (da_cons (dv 10) (da_cons (dv 10) (da_cons de_str da_nil)))) da_nil)) (len_consA (len_consA len_nilA))))) (dss_cons (ds_set (sc__law_refused).nd rfl (.inl rfl) (de_callD d__law_told (hr.mono (by omega)) hg rfl (da_cons (de_join de_str (de_op op_addA od_add (de_op op_addA od_add (de_slice (dv 1) do_none (do_some (dv 3))) (de_lst (da_cons (de_callD d__law_of (hr.mono (by omega)) hg rfl (da_cons (dv 0) (da_cons (dv 4) da_nil)) (len_consA (len_consA len_nilA))) da_nil))) (dv 8))) da_nil) (len_consA len_nilA))) (dss_one (ds_ret (de_cmp (op_eqA hr.units) od_eq (de_blt (call_repr hg (room80 hr)) cd_repr rfl h_b_repr PyProof.Rows.boot_repr (da_cons (dv 9) da_nil)) (de_blt (call_repr hg (room80 hr)) cd_repr rfl h_b_repr PyProof.Rows.boot_repr (da_cons (de_lst (da_cons de_str (da_cons (dv 3) (da_cons de_bl (da_cons de_bl da_nil))))) da_nil)))))))))))
/-! ### law -/
abbrev s_law : Stmt := (top 41)
def N_law : List Str := [("script" : Str), ("deal" : Str), ("turn" : Str), ("rules" : Str), ("mode" : Str), ("pieces" : Str), ("text" : Str), ("told" : Str), ("again" : Str), ("value" : Str)]
theorem sc_law : FnScope N_law [("script" : Str)] (defScope s_law) := ⟨rfl, rfl, rfl, by decide +kernel, rfl, by decide +kernel, by decide +kernel⟩
def g_law : SS := (seqS (setS 1 (callE F__law_deal (consA (varE 0) (consA (cE (.int 50)) nilA)))) (seqS (forS (rng1I (consA (cE (.int 2)) nilA)) (nameG 2) (seqS (asgS (callE F__law_turning (consA (varE 1) (consA (callE F__law_names (consA (varE 1) nilA)) (consA (cE (.int 3)) (consA (cE (.int 3)) (consA (cE (.int 2)) nilA)))))) (tupG (consG (nameG 3) (consG (nameG 4) nilG)))) (seqS (setS 5 (callE F__law_pieces (consA (varE 3) (consA (varE 4) nilA)))) (seqS (setS 6 (tm1E joinV (cE (.str (", " : Str))) (varE 5))) (seqS (setS 7 (callE F__law_told (consA (varE 6) nilA))) (seqS (ifS (orT (asB (op2 (eqV true) (bltE (one reprV) (consA (callE F_turning_text (consA (makeE ("Turning" : Str) [("rules" : Str), ("mode" : Str)] (consA (varE 3) (consA (varE 4) nilA))) nilA)) nilA)) (bltE (one reprV) (consA (varE 6) nilA)))) (notT (asB (isiE tab_Turning (varE 7))))) (retS (cE (.bl false))) nxS) (seqS (ifS (orT (asB (op2 (eqV true) (bltE (one reprV) (consA (tupE (consA (fldE ("Turning" : Str) ("rules" : Str) (varE 7)) (consA (fldE ("Turning" : Str) ("mode" : Str) (varE 7)) nilA))) nilA)) (bltE (one reprV) (consA (tupE (consA (varE 3) (consA (varE 4) nilA))) nilA)))) (notT (asB (op2 (eqIV ("Turning" : Str) F_Turning___eq__) (varE 7) (makeE ("Turning" : Str) [("rules" : Str), ("mode" : Str)] (consA (varE 3) (consA (varE 4) nilA))))))) (retS (cE (.bl false))) nxS) (forS (rng1I (consA (cE (.int 4)) nilA)) (nameG 8) (ifS (notT (asB (callE F__law_refused (consA (varE 1) (consA (varE 5) (consA (varE 3) nilA)))))) (retS (cE (.bl false))) nxS) [8]))))))) [2, 5, 7, 8]) (seqS (forS (seqI (lstE (consA (cE .non) (consA (cE (.int 7)) (consA (tupE (consA (cE (.str ("a" : Str))) nilA)) (consA (lstE (consA (varE 6) nilA)) (consA (cE (.bl true)) (consA (makeE ("Turning" : Str) [("rules" : Str), ("mode" : Str)] (consA (varE 3) (consA (varE 4) nilA))) nilA)))))))) (nameG 9) (ifS (asB (op2 (eqV true) (bltE (one reprV) (consA (callE F__law_told (consA (varE 9) nilA)) nilA)) (bltE (one reprV) (consA (lstE (consA (cE (.str ("text" : Str))) (consA (negE (cE (.int 1))) (consA (cE (.bl true)) (consA (cE (.bl false)) nilA))))) nilA)))) (retS (cE (.bl false))) nxS) [9]) (retS (andE (op2 (eqV false) (callE F_turning_text (consA (makeE ("Turning" : Str) [("rules" : Str), ("mode" : Str)] (consA (tupE nilA) (consA (cE (.str ("abcdefgh" : Str))) nilA))) nilA)) (cE (.str ("abcdefgh" : Str)))) (op2 (eqIV ("Turning" : Str) F_Turning___eq__) (callE F__law_told (consA (cE (.str ("abcdefgh" : Str))) nilA)) (makeE ("Turning" : Str) [("rules" : Str), ("mode" : Str)] (consA (tupE nilA) (consA (cE (.str ("abcdefgh" : Str))) nilA)))))))))
def F_law : List Val → Store → R Val := funD N_law.length g_law
theorem b_law (FX : Fx P K mg) (d__law_deal : DefOk P w K mg base 1 ("_law_deal" : Str) [("script" : Str), ("base" : Str)] F__law_deal) (d__law_names : DefOk P w K mg base 3 ("_law_names" : Str) [("deal" : Str)] F__law_names) (d__law_turning : DefOk P w K mg base 15 ("_law_turning" : Str) [("deal" : Str), ("names" : Str), ("most" : Str), ("goes" : Str), ("deep" : Str)] F__law_turning) (d__law_pieces : DefOk P w K mg base 13 ("_law_pieces" : Str) [("rules" : Str), ("mode" : Str)] F__law_pieces) (d__law_told : DefOk P w K mg base 18 ("_law_told" : Str) [("text" : Str)] F__law_told) (d__law_refused : DefOk P w K mg base 19 ("_law_refused" : Str) [("deal" : Str), ("pieces" : Str), ("rules" : Str)] F__law_refused) (d_turning_text : DefOk P w K mg base 13 ("turning_text" : Str) [("turning" : Str)] F_turning_text) (k_turning_text : DefOkK P w K mg base 13 ("turning_text" : Str) ("turning" : Str) F_turning_text) (mk_Turning : MakeOk P w K mg base 1 ("Turning" : Str) [("self" : Str), ("rules" : Str), ("mode" : Str)] [("rules" : Str), ("mode" : Str)]) (eq_Turning : EqOk P w K mg base 1 ("Turning" : Str) [("self" : Str), ("other" : Str)] F_Turning___eq__) : BodyOk P w K mg base ("law" : Str) s_law f N_law 19 g_law := by
  intro cdv A outer sh H E hr hg
  have h_b_range := FX.b_range
  have h_b_isinstance := FX.b_isinstance
  obtain ⟨A_Turning, h_m_Turning, h_cls_Turning, h_na_Turning_rules, h_na_Turning_mode, h_t_Turning⟩ := FX.c_Turning
  have h_b_repr := FX.b_repr
  exact (dss_cons (ds_set (sc_law).nd rfl (.inl rfl) (de_callD d__law_deal (hr.mono (by omega)) hg rfl (da_cons (dv 0) (da_cons de_int da_nil)) (len_consA (len_consA len_nilA)))) (dss_cons (ds_for [2, 5, 7, 8] PassesOwn.never rfl (di_rng1 rfl h_b_range (da_cons de_int da_nil)) (dg_name (sc_law).nd rfl (.inl rfl)) (dss_cons (ds_asg (de_callD d__law_turning (hr.mono (by omega)) hg rfl (da_cons (dv 1) (da_cons (de_callD d__law_names (hr.mono (by omega)) hg rfl (da_cons (dv 1) da_nil) (len_consA len_nilA)) (da_cons de_int (da_cons de_int (da_cons de_int da_nil))))) (len_consA (len_consA (len_consA (len_consA (len_consA len_nilA)))))) (dg_tup rfl (dgs_cons (dg_name (sc_law).nd rfl (.inl rfl)) (dgs_cons (dg_name (sc_law).nd rfl (.inl rfl)) dgs_nil)) (len_consG (len_consG len_nilG)))) (dss_cons (ds_set (sc_law).nd rfl (.inl rfl) (de_callD d__law_pieces (hr.mono (by omega)) hg rfl (da_cons (dv 3) (da_cons (dv 4) da_nil)) (len_consA (len_consA len_nilA)))) (dss_cons (ds_set (sc_law).nd rfl (.inl rfl) (de_join de_str (dv 5))) (dss_cons (ds_set (sc_law).nd rfl (.inl rfl) (de_callD d__law_told (hr.mono (by omega)) hg rfl (da_cons (dv 6) da_nil) (len_consA len_nilA))) (dss_cons (ds_if (dt_w (dw_or (dt_cmp (op_neA hr.units) od_eq (de_blt (call_repr hg (room80 hr)) cd_repr rfl h_b_repr PyProof.Rows.boot_repr (da_cons (de_callDK k_turning_text (hr.mono (by omega)) hg rfl (de_makeD mk_Turning (hr.mono (by omega)) rfl (da_cons (dv 3) (da_cons (dv 4) da_nil)))) da_nil)) (de_blt (call_repr hg (room80 hr)) cd_repr rfl h_b_repr PyProof.Rows.boot_repr (da_cons (dv 6) da_nil))) (dw_or1 (dt_not (dt_val (de_isi (pe_glob (v := .ref _) rfl h_m_Turning rfl) (.own _) h_t_Turning rfl h_b_isinstance (dv 7))))))) (dss_one (ds_ret de_bl)) dss_nil) (dss_cons (ds_if (dt_w (dw_or (dt_cmp (op_neA hr.units) od_eq (de_blt (call_repr hg (room80 hr)) cd_repr rfl h_b_repr PyProof.Rows.boot_repr (da_cons (de_tup (da_cons (de_fld h_m_Turning h_cls_Turning h_na_Turning_rules (dv 7)) (da_cons (de_fld h_m_Turning h_cls_Turning h_na_Turning_mode (dv 7)) da_nil))) da_nil)) (de_blt (call_repr hg (room80 hr)) cd_repr rfl h_b_repr PyProof.Rows.boot_repr (da_cons (de_tup (da_cons (dv 3) (da_cons (dv 4) da_nil))) da_nil))) (dw_or1 (dt_not (dt_eqI eq_Turning rfl (hr.mono (by omega)) hg (dv 7) (de_makeD mk_Turning (hr.mono (by omega)) rfl (da_cons (dv 3) (da_cons (dv 4) da_nil)))))))) (dss_one (ds_ret de_bl)) dss_nil) (dss_one (ds_for [8] PassesOwn.never rfl (di_rng1 rfl h_b_range (da_cons de_int da_nil)) (dg_name (sc_law).nd rfl (.inl rfl)) (dss_one (ds_if (dt_not (dt_val (de_callD d__law_refused (hr.mono (by omega)) hg rfl (da_cons (dv 1) (da_cons (dv 5) (da_cons (dv 3) da_nil))) (len_consA (len_consA (len_consA len_nilA)))))) (dss_one (ds_ret de_bl)) dss_nil))))))))))) (dss_cons (ds_for [9] PassesOwn.never rfl (di_seq (de_lst (da_cons de_non (da_cons de_int (da_cons (de_tup (da_cons de_str da_nil)) (da_cons (de_lst (da_cons (dv 6) da_nil)) (da_cons de_bl (da_cons (de_makeD mk_Turning (hr.mono (by omega)) rfl (da_cons (dv 3) (da_cons (dv 4) da_nil))) da_nil)))))))) (dg_name (sc_law).nd rfl (.inl rfl)) (dss_one (ds_if (dt_cmp (op_neA hr.units) od_eq (de_blt (call_repr hg (room80 hr)) cd_repr rfl h_b_repr PyProof.Rows.boot_repr (da_cons (de_callD d__law_told (hr.mono (by omega)) hg rfl (da_cons (dv 9) da_nil) (len_consA len_nilA)) da_nil)) (de_blt (call_repr hg (room80 hr)) cd_repr rfl h_b_repr PyProof.Rows.boot_repr (da_cons (de_lst (da_cons de_str (da_cons (de_neg de_int) (da_cons de_bl (da_cons de_bl da_nil))))) da_nil))) (dss_one (ds_ret de_bl)) dss_nil))) (dss_one (ds_ret (de_and (de_cmp (op_eqA hr.units) od_eq (de_callD d_turning_text (hr.mono (by omega)) hg rfl (da_cons (de_makeD mk_Turning (hr.mono (by omega)) rfl (da_cons (de_tup da_nil) (da_cons de_str da_nil))) da_nil) (len_consA len_nilA)) de_str) (de_one (de_eqI eq_Turning rfl (hr.mono (by omega)) hg (de_callD d__law_told (hr.mono (by omega)) hg rfl (da_cons de_str da_nil) (len_consA len_nilA)) (de_makeD mk_Turning (hr.mono (by omega)) rfl (da_cons (de_tup da_nil) (da_cons de_str da_nil)))))))))))
/-! ### the defs, each under those that it calls -/
structure Inst (K : PySem.W.Frag) (mg : Str → Option Value) (x : Str) (st : Stmt) (ps : List Str) : Prop where
  ex : ∃ f fd, Fun K x x st f fd ∧ mg x = some (.ref f) ∧ Binds K fd ps []
structure InstK (K : PySem.W.Frag) (mg : Str → Option Value) (x : Str) (st : Stmt) (a : Str) : Prop where
  ex : ∃ f fd, Fun K x x st f fd ∧ mg x = some (.ref f) ∧ Binds K fd [a] [] ∧ KB K fd [a] [a] (fun ws => ws)
theorem a_is_name (FX : Fx P K mg) (i_is_name : Inst K mg ("is_name" : Str) s_is_name [("value" : Str)])  : DefOk P w K mg base 1 ("is_name" : Str) [("value" : Str)] F_is_name := by
  obtain ⟨f, fd, F, hm, hb⟩ := i_is_name.ex
  exact ⟨⟨f, fd, fn_d F sc_is_name (b_is_name FX), hm, F.kp, hb⟩⟩
theorem a_is_text (FX : Fx P K mg) (i_is_text : Inst K mg ("is_text" : Str) s_is_text [("value" : Str)])  : DefOk P w K mg base 1 ("is_text" : Str) [("value" : Str)] F_is_text := by
  obtain ⟨f, fd, F, hm, hb⟩ := i_is_text.ex
  exact ⟨⟨f, fd, fn_d F sc_is_text (b_is_text FX), hm, F.kp, hb⟩⟩
theorem a_is_tuple_of (FX : Fx P K mg) (i_is_tuple_of : Inst K mg ("is_tuple_of" : Str) s_is_tuple_of [("value" : Str), ("size" : Str)])  : DefOk P w K mg base 1 ("is_tuple_of" : Str) [("value" : Str), ("size" : Str)] F_is_tuple_of := by
  obtain ⟨f, fd, F, hm, hb⟩ := i_is_tuple_of.ex
  exact ⟨⟨f, fd, fn_d F sc_is_tuple_of (b_is_tuple_of FX), hm, F.kp, hb⟩⟩
theorem a_is_letter (FX : Fx P K mg) (i_is_letter : Inst K mg ("is_letter" : Str) s_is_letter [("value" : Str)]) (d_is_name : DefOk P w K mg base 1 ("is_name" : Str) [("value" : Str)] F_is_name) : DefOk P w K mg base 2 ("is_letter" : Str) [("value" : Str)] F_is_letter := by
  obtain ⟨f, fd, F, hm, hb⟩ := i_is_letter.ex
  exact ⟨⟨f, fd, fn_d F sc_is_letter (b_is_letter FX d_is_name), hm, F.kp, hb⟩⟩
theorem a_is_small (FX : Fx P K mg) (i_is_small : Inst K mg ("is_small" : Str) s_is_small [("sign" : Str)])  : DefOk P w K mg base 1 ("is_small" : Str) [("sign" : Str)] F_is_small := by
  obtain ⟨f, fd, F, hm, hb⟩ := i_is_small.ex
  exact ⟨⟨f, fd, fn_d F sc_is_small (b_is_small FX), hm, F.kp, hb⟩⟩
theorem r_is_piece (FX : Fx P K mg) (i_is_piece : Inst K mg ("is_piece" : Str) s_is_piece [("value" : Str), ("letter" : Str)]) (i_are_pieces : Inst K mg ("are_pieces" : Str) s_are_pieces [("value" : Str), ("letter" : Str)]) (d_is_name : DefOk P w K mg base 1 ("is_name" : Str) [("value" : Str)] F_is_name) (d_is_text : DefOk P w K mg base 1 ("is_text" : Str) [("value" : Str)] F_is_text) : ∀ n, DefOk P w K mg base (1 + n) ("is_piece" : Str) [("value" : Str), ("letter" : Str)] (F_is_piece n) ∧ DefOk P w K mg base (1 + n) ("are_pieces" : Str) [("value" : Str), ("letter" : Str)] (F_are_pieces n)
  | 0 => by
    obtain ⟨f_is_piece, fd_is_piece, F_is_piece_, hm_is_piece, hb_is_piece⟩ := i_is_piece.ex
    obtain ⟨f_are_pieces, fd_are_pieces, F_are_pieces_, hm_are_pieces, hb_are_pieces⟩ := i_are_pieces.ex
    exact ⟨⟨⟨f_is_piece, fd_is_piece, FnG.mono fn_none (Nat.zero_le _), hm_is_piece, F_is_piece_.kp, hb_is_piece⟩⟩, ⟨⟨f_are_pieces, fd_are_pieces, FnG.mono fn_none (Nat.zero_le _), hm_are_pieces, F_are_pieces_.kp, hb_are_pieces⟩⟩⟩
  | n + 1 => by
    have ih := r_is_piece FX i_is_piece i_are_pieces d_is_name d_is_text n
    obtain ⟨f_is_piece, fd_is_piece, F_is_piece_, hm_is_piece, hb_is_piece⟩ := i_is_piece.ex
    obtain ⟨f_are_pieces, fd_are_pieces, F_are_pieces_, hm_are_pieces, hb_are_pieces⟩ := i_are_pieces.ex
    exact ⟨⟨⟨f_is_piece, fd_is_piece, fn_d F_is_piece_ sc_is_piece (b_is_piece (k := 1 + n) (Nat.le_add_right _ _) FX ih.2 d_is_name d_is_text), hm_is_piece, F_is_piece_.kp, hb_is_piece⟩⟩, ⟨⟨f_are_pieces, fd_are_pieces, fn_d F_are_pieces_ sc_are_pieces (b_are_pieces (k := 1 + n) (Nat.le_add_right _ _) FX ih.1), hm_are_pieces, F_are_pieces_.kp, hb_are_pieces⟩⟩⟩
theorem a_is_piece (FX : Fx P K mg) (i_is_piece : Inst K mg ("is_piece" : Str) s_is_piece [("value" : Str), ("letter" : Str)]) (i_are_pieces : Inst K mg ("are_pieces" : Str) s_are_pieces [("value" : Str), ("letter" : Str)]) (d_is_name : DefOk P w K mg base 1 ("is_name" : Str) [("value" : Str)] F_is_name) (d_is_text : DefOk P w K mg base 1 ("is_text" : Str) [("value" : Str)] F_is_text) : DefOk P w K mg base 13 ("is_piece" : Str) [("value" : Str), ("letter" : Str)] (F_is_piece 12) := (r_is_piece FX i_is_piece i_are_pieces d_is_name d_is_text 12).1
theorem a_are_pieces (FX : Fx P K mg) (i_is_piece : Inst K mg ("is_piece" : Str) s_is_piece [("value" : Str), ("letter" : Str)]) (i_are_pieces : Inst K mg ("are_pieces" : Str) s_are_pieces [("value" : Str), ("letter" : Str)]) (d_is_name : DefOk P w K mg base 1 ("is_name" : Str) [("value" : Str)] F_is_name) (d_is_text : DefOk P w K mg base 1 ("is_text" : Str) [("value" : Str)] F_is_text) : DefOk P w K mg base 13 ("are_pieces" : Str) [("value" : Str), ("letter" : Str)] (F_are_pieces 12) := (r_is_piece FX i_is_piece i_are_pieces d_is_name d_is_text 12).2
theorem a_is_rule (FX : Fx P K mg) (i_is_rule : Inst K mg ("is_rule" : Str) s_is_rule [("value" : Str)]) (d_is_letter : DefOk P w K mg base 2 ("is_letter" : Str) [("value" : Str)] F_is_letter) (d_is_name : DefOk P w K mg base 1 ("is_name" : Str) [("value" : Str)] F_is_name) (d_is_tuple_of : DefOk P w K mg base 1 ("is_tuple_of" : Str) [("value" : Str), ("size" : Str)] F_is_tuple_of) (d_are_pieces : DefOk P w K mg base 13 ("are_pieces" : Str) [("value" : Str), ("letter" : Str)] (F_are_pieces 12)) : DefOk P w K mg base 14 ("is_rule" : Str) [("value" : Str)] F_is_rule := by
  obtain ⟨f, fd, F, hm, hb⟩ := i_is_rule.ex
  exact ⟨⟨f, fd, fn_d F sc_is_rule (b_is_rule FX d_is_letter d_is_name d_is_tuple_of d_are_pieces), hm, F.kp, hb⟩⟩
theorem r_part_text (FX : Fx P K mg) (i_part_text : Inst K mg ("part_text" : Str) s_part_text [("part" : Str)])  : ∀ n, DefOk P w K mg base (0 + n) ("part_text" : Str) [("part" : Str)] (F_part_text n)
  | 0 => by
    obtain ⟨f_part_text, fd_part_text, F_part_text_, hm_part_text, hb_part_text⟩ := i_part_text.ex
    exact ⟨⟨f_part_text, fd_part_text, FnG.mono fn_none (Nat.zero_le _), hm_part_text, F_part_text_.kp, hb_part_text⟩⟩
  | n + 1 => by
    have ih := r_part_text FX i_part_text  n
    obtain ⟨f_part_text, fd_part_text, F_part_text_, hm_part_text, hb_part_text⟩ := i_part_text.ex
    exact ⟨⟨f_part_text, fd_part_text, fn_d F_part_text_ sc_part_text (b_part_text (k := 0 + n) (Nat.le_add_right _ _) FX ih), hm_part_text, F_part_text_.kp, hb_part_text⟩⟩
theorem a_part_text (FX : Fx P K mg) (i_part_text : Inst K mg ("part_text" : Str) s_part_text [("part" : Str)])  : DefOk P w K mg base 12 ("part_text" : Str) [("part" : Str)] (F_part_text 12) := (r_part_text FX i_part_text  12)
theorem a_turning_text (FX : Fx P K mg) (i_turning_text : Inst K mg ("turning_text" : Str) s_turning_text [("turning" : Str)]) (d_part_text : DefOk P w K mg base 12 ("part_text" : Str) [("part" : Str)] (F_part_text 12)) : DefOk P w K mg base 13 ("turning_text" : Str) [("turning" : Str)] F_turning_text := by
  obtain ⟨f, fd, F, hm, hb⟩ := i_turning_text.ex
  exact ⟨⟨f, fd, fn_d F sc_turning_text (b_turning_text FX d_part_text), hm, F.kp, hb⟩⟩
theorem ak_turning_text (FX : Fx P K mg) (j_turning_text : InstK K mg ("turning_text" : Str) s_turning_text ("turning" : Str)) (d_part_text : DefOk P w K mg base 12 ("part_text" : Str) [("part" : Str)] (F_part_text 12)) : DefOkK P w K mg base 13 ("turning_text" : Str) ("turning" : Str) F_turning_text := by
  obtain ⟨f, fd, F, hm, hb, hkb⟩ := j_turning_text.ex
  exact ⟨⟨f, fd, fn_d F sc_turning_text (b_turning_text FX d_part_text), hm, F.kp, hkb⟩⟩
theorem a_letters_end (FX : Fx P K mg) (i_letters_end : Inst K mg ("letters_end" : Str) s_letters_end [("text" : Str), ("at" : Str)]) (d_is_small : DefOk P w K mg base 1 ("is_small" : Str) [("sign" : Str)] F_is_small) : DefOk P w K mg base 2 ("letters_end" : Str) [("text" : Str), ("at" : Str)] F_letters_end := by
  obtain ⟨f, fd, F, hm, hb⟩ := i_letters_end.ex
  exact ⟨⟨f, fd, fn_d F sc_letters_end (b_letters_end FX d_is_small), hm, F.kp, hb⟩⟩
theorem r_inner_parts (FX : Fx P K mg) (i_inner_parts : Inst K mg ("inner_parts" : Str) s_inner_parts [("text" : Str), ("at" : Str)]) (i_part_at : Inst K mg ("part_at" : Str) s_part_at [("text" : Str), ("at" : Str)]) (r_InvalidText : RaiseOk P K mg ("InvalidText" : Str)) (d_letters_end : DefOk P w K mg base 2 ("letters_end" : Str) [("text" : Str), ("at" : Str)] F_letters_end) : ∀ n, DefOkX P w K mg base (2 + n) ("inner_parts" : Str) [("text" : Str), ("at" : Str)] (F_inner_parts n) ∧ DefOkX P w K mg base (2 + n) ("part_at" : Str) [("text" : Str), ("at" : Str)] (F_part_at n)
  | 0 => by
    obtain ⟨f_inner_parts, fd_inner_parts, F_inner_parts_, hm_inner_parts, hb_inner_parts⟩ := i_inner_parts.ex
    obtain ⟨f_part_at, fd_part_at, F_part_at_, hm_part_at, hb_part_at⟩ := i_part_at.ex
    exact ⟨⟨⟨f_inner_parts, fd_inner_parts, FnG.mono fn_noneX (Nat.zero_le _), hm_inner_parts, F_inner_parts_.kp, hb_inner_parts⟩⟩, ⟨⟨f_part_at, fd_part_at, FnG.mono fn_noneX (Nat.zero_le _), hm_part_at, F_part_at_.kp, hb_part_at⟩⟩⟩
  | n + 1 => by
    have ih := r_inner_parts FX i_inner_parts i_part_at r_InvalidText d_letters_end n
    obtain ⟨f_inner_parts, fd_inner_parts, F_inner_parts_, hm_inner_parts, hb_inner_parts⟩ := i_inner_parts.ex
    obtain ⟨f_part_at, fd_part_at, F_part_at_, hm_part_at, hb_part_at⟩ := i_part_at.ex
    exact ⟨⟨⟨f_inner_parts, fd_inner_parts, fn_x F_inner_parts_ sc_inner_parts (b_inner_parts (k := 2 + n) (Nat.le_add_right _ _) FX ih.2 r_InvalidText), hm_inner_parts, F_inner_parts_.kp, hb_inner_parts⟩⟩, ⟨⟨f_part_at, fd_part_at, fn_x F_part_at_ sc_part_at (b_part_at (k := 2 + n) (Nat.le_add_right _ _) FX d_letters_end ih.1 r_InvalidText), hm_part_at, F_part_at_.kp, hb_part_at⟩⟩⟩
theorem a_inner_parts (FX : Fx P K mg) (i_inner_parts : Inst K mg ("inner_parts" : Str) s_inner_parts [("text" : Str), ("at" : Str)]) (i_part_at : Inst K mg ("part_at" : Str) s_part_at [("text" : Str), ("at" : Str)]) (r_InvalidText : RaiseOk P K mg ("InvalidText" : Str)) (d_letters_end : DefOk P w K mg base 2 ("letters_end" : Str) [("text" : Str), ("at" : Str)] F_letters_end) : DefOkX P w K mg base 14 ("inner_parts" : Str) [("text" : Str), ("at" : Str)] (F_inner_parts 12) := (r_inner_parts FX i_inner_parts i_part_at r_InvalidText d_letters_end 12).1
theorem a_part_at (FX : Fx P K mg) (i_inner_parts : Inst K mg ("inner_parts" : Str) s_inner_parts [("text" : Str), ("at" : Str)]) (i_part_at : Inst K mg ("part_at" : Str) s_part_at [("text" : Str), ("at" : Str)]) (r_InvalidText : RaiseOk P K mg ("InvalidText" : Str)) (d_letters_end : DefOk P w K mg base 2 ("letters_end" : Str) [("text" : Str), ("at" : Str)] F_letters_end) : DefOkX P w K mg base 14 ("part_at" : Str) [("text" : Str), ("at" : Str)] (F_part_at 12) := (r_inner_parts FX i_inner_parts i_part_at r_InvalidText d_letters_end 12).2
theorem a_parts_in (FX : Fx P K mg) (i_parts_in : Inst K mg ("parts_in" : Str) s_parts_in [("words" : Str)]) (d_inner_parts : DefOkX P w K mg base 14 ("inner_parts" : Str) [("text" : Str), ("at" : Str)] (F_inner_parts 12)) : DefOkX P w K mg base 15 ("parts_in" : Str) [("words" : Str)] F_parts_in := by
  obtain ⟨f, fd, F, hm, hb⟩ := i_parts_in.ex
  exact ⟨⟨f, fd, fn_x F sc_parts_in (b_parts_in FX d_inner_parts), hm, F.kp, hb⟩⟩
theorem a_read_rule (FX : Fx P K mg) (i_read_rule : Inst K mg ("read_rule" : Str) s_read_rule [("piece" : Str)]) (d_parts_in : DefOkX P w K mg base 15 ("parts_in" : Str) [("words" : Str)] F_parts_in) (d_is_rule : DefOk P w K mg base 14 ("is_rule" : Str) [("value" : Str)] F_is_rule) : DefOk P w K mg base 16 ("read_rule" : Str) [("piece" : Str)] F_read_rule := by
  obtain ⟨f, fd, F, hm, hb⟩ := i_read_rule.ex
  exact ⟨⟨f, fd, fn_d F sc_read_rule (b_read_rule FX d_parts_in d_is_rule), hm, F.kp, hb⟩⟩
theorem a_read_turning (FX : Fx P K mg) (i_read_turning : Inst K mg ("read_turning" : Str) s_read_turning [("text" : Str)]) (d_is_name : DefOk P w K mg base 1 ("is_name" : Str) [("value" : Str)] F_is_name) (d_read_rule : DefOk P w K mg base 16 ("read_rule" : Str) [("piece" : Str)] F_read_rule) (mk_Turning : MakeOk P w K mg base 1 ("Turning" : Str) [("self" : Str), ("rules" : Str), ("mode" : Str)] [("rules" : Str), ("mode" : Str)]) (r_InvalidText : RaiseOk P K mg ("InvalidText" : Str)) : DefOkX P w K mg base 17 ("read_turning" : Str) [("text" : Str)] F_read_turning := by
  obtain ⟨f, fd, F, hm, hb⟩ := i_read_turning.ex
  exact ⟨⟨f, fd, fn_x F sc_read_turning (b_read_turning FX d_is_name d_read_rule mk_Turning r_InvalidText), hm, F.kp, hb⟩⟩
theorem ak_read_turning (FX : Fx P K mg) (j_read_turning : InstK K mg ("read_turning" : Str) s_read_turning ("text" : Str)) (d_is_name : DefOk P w K mg base 1 ("is_name" : Str) [("value" : Str)] F_is_name) (d_read_rule : DefOk P w K mg base 16 ("read_rule" : Str) [("piece" : Str)] F_read_rule) (mk_Turning : MakeOk P w K mg base 1 ("Turning" : Str) [("self" : Str), ("rules" : Str), ("mode" : Str)] [("rules" : Str), ("mode" : Str)]) (r_InvalidText : RaiseOk P K mg ("InvalidText" : Str)) : DefOkKX P w K mg base 17 ("read_turning" : Str) ("text" : Str) F_read_turning := by
  obtain ⟨f, fd, F, hm, hb, hkb⟩ := j_read_turning.ex
  exact ⟨⟨f, fd, fn_x F sc_read_turning (b_read_turning FX d_is_name d_read_rule mk_Turning r_InvalidText), hm, F.kp, hkb⟩⟩
theorem a__law_deal (FX : Fx P K mg) (i__law_deal : Inst K mg ("_law_deal" : Str) s__law_deal [("script" : Str), ("base" : Str)])  : DefOk P w K mg base 1 ("_law_deal" : Str) [("script" : Str), ("base" : Str)] F__law_deal := by
  obtain ⟨f, fd, F, hm, hb⟩ := i__law_deal.ex
  exact ⟨⟨f, fd, fn_k F sc__law_deal (b__law_deal FX), hm, F.kp, hb⟩⟩
theorem a__law_any (FX : Fx P K mg) (i__law_any : Inst K mg ("_law_any" : Str) s__law_any [("deal" : Str), ("bound" : Str)])  : DefOk P w K mg base 1 ("_law_any" : Str) [("deal" : Str), ("bound" : Str)] F__law_any := by
  obtain ⟨f, fd, F, hm, hb⟩ := i__law_any.ex
  exact ⟨⟨f, fd, fn_d F sc__law_any (b__law_any FX), hm, F.kp, hb⟩⟩
theorem a__law_of (FX : Fx P K mg) (i__law_of : Inst K mg ("_law_of" : Str) s__law_of [("deal" : Str), ("some" : Str)]) (d__law_any : DefOk P w K mg base 1 ("_law_any" : Str) [("deal" : Str), ("bound" : Str)] F__law_any) : DefOk P w K mg base 2 ("_law_of" : Str) [("deal" : Str), ("some" : Str)] F__law_of := by
  obtain ⟨f, fd, F, hm, hb⟩ := i__law_of.ex
  exact ⟨⟨f, fd, fn_d F sc__law_of (b__law_of FX d__law_any), hm, F.kp, hb⟩⟩
theorem a__law_names (FX : Fx P K mg) (i__law_names : Inst K mg ("_law_names" : Str) s__law_names [("deal" : Str)]) (d__law_of : DefOk P w K mg base 2 ("_law_of" : Str) [("deal" : Str), ("some" : Str)] F__law_of) : DefOk P w K mg base 3 ("_law_names" : Str) [("deal" : Str)] F__law_names := by
  obtain ⟨f, fd, F, hm, hb⟩ := i__law_names.ex
  exact ⟨⟨f, fd, fn_d F sc__law_names (b__law_names FX d__law_of), hm, F.kp, hb⟩⟩
theorem r__law_parts (FX : Fx P K mg) (i__law_parts : Inst K mg ("_law_parts" : Str) s__law_parts [("deal" : Str), ("modes" : Str), ("names" : Str), ("letter" : Str), ("deep" : Str), ("room" : Str)]) (d__law_any : DefOk P w K mg base 1 ("_law_any" : Str) [("deal" : Str), ("bound" : Str)] F__law_any) (d__law_of : DefOk P w K mg base 2 ("_law_of" : Str) [("deal" : Str), ("some" : Str)] F__law_of) : ∀ n, DefOk P w K mg base (2 + n) ("_law_parts" : Str) [("deal" : Str), ("modes" : Str), ("names" : Str), ("letter" : Str), ("deep" : Str), ("room" : Str)] (F__law_parts n)
  | 0 => by
    obtain ⟨f__law_parts, fd__law_parts, F__law_parts_, hm__law_parts, hb__law_parts⟩ := i__law_parts.ex
    exact ⟨⟨f__law_parts, fd__law_parts, FnG.mono fn_none (Nat.zero_le _), hm__law_parts, F__law_parts_.kp, hb__law_parts⟩⟩
  | n + 1 => by
    have ih := r__law_parts FX i__law_parts d__law_any d__law_of n
    obtain ⟨f__law_parts, fd__law_parts, F__law_parts_, hm__law_parts, hb__law_parts⟩ := i__law_parts.ex
    exact ⟨⟨f__law_parts, fd__law_parts, fn_d F__law_parts_ sc__law_parts (b__law_parts (k := 2 + n) (Nat.le_add_right _ _) FX d__law_any ih d__law_of), hm__law_parts, F__law_parts_.kp, hb__law_parts⟩⟩
theorem a__law_parts (FX : Fx P K mg) (i__law_parts : Inst K mg ("_law_parts" : Str) s__law_parts [("deal" : Str), ("modes" : Str), ("names" : Str), ("letter" : Str), ("deep" : Str), ("room" : Str)]) (d__law_any : DefOk P w K mg base 1 ("_law_any" : Str) [("deal" : Str), ("bound" : Str)] F__law_any) (d__law_of : DefOk P w K mg base 2 ("_law_of" : Str) [("deal" : Str), ("some" : Str)] F__law_of) : DefOk P w K mg base 14 ("_law_parts" : Str) [("deal" : Str), ("modes" : Str), ("names" : Str), ("letter" : Str), ("deep" : Str), ("room" : Str)] (F__law_parts 12) := (r__law_parts FX i__law_parts d__law_any d__law_of 12)
theorem a__law_turning (FX : Fx P K mg) (i__law_turning : Inst K mg ("_law_turning" : Str) s__law_turning [("deal" : Str), ("names" : Str), ("most" : Str), ("goes" : Str), ("deep" : Str)]) (d__law_of : DefOk P w K mg base 2 ("_law_of" : Str) [("deal" : Str), ("some" : Str)] F__law_of) (d__law_any : DefOk P w K mg base 1 ("_law_any" : Str) [("deal" : Str), ("bound" : Str)] F__law_any) (d__law_parts : DefOk P w K mg base 14 ("_law_parts" : Str) [("deal" : Str), ("modes" : Str), ("names" : Str), ("letter" : Str), ("deep" : Str), ("room" : Str)] (F__law_parts 12)) : DefOk P w K mg base 15 ("_law_turning" : Str) [("deal" : Str), ("names" : Str), ("most" : Str), ("goes" : Str), ("deep" : Str)] F__law_turning := by
  obtain ⟨f, fd, F, hm, hb⟩ := i__law_turning.ex
  exact ⟨⟨f, fd, fn_d F sc__law_turning (b__law_turning FX d__law_of d__law_any d__law_parts), hm, F.kp, hb⟩⟩
theorem r__law_words (FX : Fx P K mg) (i__law_words : Inst K mg ("_law_words" : Str) s__law_words [("parts" : Str)])  : ∀ n, DefOk P w K mg base (0 + n) ("_law_words" : Str) [("parts" : Str)] (F__law_words n)
  | 0 => by
    obtain ⟨f__law_words, fd__law_words, F__law_words_, hm__law_words, hb__law_words⟩ := i__law_words.ex
    exact ⟨⟨f__law_words, fd__law_words, FnG.mono fn_none (Nat.zero_le _), hm__law_words, F__law_words_.kp, hb__law_words⟩⟩
  | n + 1 => by
    have ih := r__law_words FX i__law_words  n
    obtain ⟨f__law_words, fd__law_words, F__law_words_, hm__law_words, hb__law_words⟩ := i__law_words.ex
    exact ⟨⟨f__law_words, fd__law_words, fn_d F__law_words_ sc__law_words (b__law_words (k := 0 + n) (Nat.le_add_right _ _) FX ih), hm__law_words, F__law_words_.kp, hb__law_words⟩⟩
theorem a__law_words (FX : Fx P K mg) (i__law_words : Inst K mg ("_law_words" : Str) s__law_words [("parts" : Str)])  : DefOk P w K mg base 12 ("_law_words" : Str) [("parts" : Str)] (F__law_words 12) := (r__law_words FX i__law_words  12)
theorem a__law_pieces (FX : Fx P K mg) (i__law_pieces : Inst K mg ("_law_pieces" : Str) s__law_pieces [("rules" : Str), ("mode" : Str)]) (d__law_words : DefOk P w K mg base 12 ("_law_words" : Str) [("parts" : Str)] (F__law_words 12)) : DefOk P w K mg base 13 ("_law_pieces" : Str) [("rules" : Str), ("mode" : Str)] F__law_pieces := by
  obtain ⟨f, fd, F, hm, hb⟩ := i__law_pieces.ex
  exact ⟨⟨f, fd, fn_d F sc__law_pieces (b__law_pieces FX d__law_words), hm, F.kp, hb⟩⟩
theorem a__law_told (FX : Fx P K mg) (i__law_told : Inst K mg ("_law_told" : Str) s__law_told [("text" : Str)]) (k_read_turning : DefOkKX P w K mg base 17 ("read_turning" : Str) ("text" : Str) F_read_turning) : DefOk P w K mg base 18 ("_law_told" : Str) [("text" : Str)] F__law_told := by
  obtain ⟨f, fd, F, hm, hb⟩ := i__law_told.ex
  exact ⟨⟨f, fd, fn_d F sc__law_told (b__law_told FX k_read_turning), hm, F.kp, hb⟩⟩
theorem a__law_refused (FX : Fx P K mg) (i__law_refused : Inst K mg ("_law_refused" : Str) s__law_refused [("deal" : Str), ("pieces" : Str), ("rules" : Str)]) (d__law_any : DefOk P w K mg base 1 ("_law_any" : Str) [("deal" : Str), ("bound" : Str)] F__law_any) (d__law_of : DefOk P w K mg base 2 ("_law_of" : Str) [("deal" : Str), ("some" : Str)] F__law_of) (d__law_told : DefOk P w K mg base 18 ("_law_told" : Str) [("text" : Str)] F__law_told) : DefOk P w K mg base 19 ("_law_refused" : Str) [("deal" : Str), ("pieces" : Str), ("rules" : Str)] F__law_refused := by
  obtain ⟨f, fd, F, hm, hb⟩ := i__law_refused.ex
  exact ⟨⟨f, fd, fn_d F sc__law_refused (b__law_refused FX d__law_any d__law_of d__law_told), hm, F.kp, hb⟩⟩
end
end K50
end

section
set_option Elab.async false
set_option linter.all false
set_option autoImplicit false
set_option maxRecDepth 100000
set_option maxHeartbeats 4000000
/-! KP0: evaluation of the combinators, equation by equation. -/
namespace DL
open PySem
section
variable {α β : Type} {a : α} {s : Store} {c : Str} {ns : List Str} {vs : List D} {ρ : Env} {n : Nat} {v : Val} {x : D}
theorem bindR_ok {k : α → Store → R β} : bindR (.ok a s) k = k a s := rfl
theorem bindR_exc {k : α → Store → R β} : bindR (.exc c ns vs s) k = .exc c ns vs s := rfl
theorem bindR_err {k : α → Store → R β} : bindR .err k = .err := rfl
theorem bindS_ok {k : α → Store → RS} : bindS ρ (.ok a s) k = k a s := rfl
theorem bindS_exc {k : α → Store → RS} : bindS ρ (.exc c ns vs s) k = .exc ρ c ns vs s := rfl
theorem bindS_err {k : α → Store → RS} : bindS ρ .err k = .err := rfl
theorem seqR_nx {k : Env → Store → RS} : seqR (.nx ρ s) k = k ρ s := rfl
theorem seqR_ret {k : Env → Store → RS} : seqR (.ret v s) k = .ret v s := rfl
theorem seqR_exc {k : Env → Store → RS} : seqR (.exc ρ c ns vs s) k = .exc ρ c ns vs s := rfl
theorem seqR_brk {k : Env → Store → RS} : seqR (.brk ρ s) k = .brk ρ s := rfl
theorem seqR_cnt {k : Env → Store → RS} : seqR (.cnt ρ s) k = .cnt ρ s := rfl
theorem seqR_err {k : Env → Store → RS} : seqR .err k = .err := rfl
theorem fin_nx : fin n (.nx ρ s) = .ok (.d .non) (s.take n) := rfl
theorem fin_d : fin n (.ret (.d x) s) = .ok (.d x) (s.take n) := rfl
theorem fin_scr {xs : List D} : fin n (.ret (.scr xs) s) = .ok (.scr xs) (s.take n) := rfl
theorem fin_exc : fin n (.exc ρ c ns vs s) = .exc c ns vs (s.take n) := rfl
theorem loopR_nx {fg : List Nat} {k : Env → Store → RS} : loopR (.nx ρ s) fg k = k (forget fg ρ) s := rfl
theorem loopR_ret {fg : List Nat} {k : Env → Store → RS} : loopR (.ret v s) fg k = .ret v s := rfl
theorem loopR_exc {fg : List Nat} {k : Env → Store → RS} : loopR (.exc ρ c ns vs s) fg k = .exc ρ c ns vs s := rfl
theorem asDs_nil : asDs [] = some [] := rfl
theorem asDs_cons {xs : List Val} : asDs (.d x :: xs) = (asDs xs).map (x :: ·) := rfl
theorem eq_str {p q : Str} : eqV false (.d (.str p)) (.d (.str q)) s = .ok (.d (.bl (decide (p = q)))) s := rfl
theorem ne_str {p q : Str} : eqV true (.d (.str p)) (.d (.str q)) s = .ok (.d (.bl (!decide (p = q)))) s := rfl
theorem eq_int {p q : Int} : eqV false (.d (.int p)) (.d (.int q)) s = .ok (.d (.bl (decide (p = q)))) s := rfl
theorem ne_int {p q : Int} : eqV true (.d (.int p)) (.d (.int q)) s = .ok (.d (.bl (!decide (p = q)))) s := rfl
theorem len_str {z : Str} (h : z.length ≤ sizeLine) : lenV (.d (.str z)) s = .ok (.d (.int z.length)) s := by unfold lenV; exact if_pos h
theorem le_int {p q : Int} : leV (.d (.int p)) (.d (.int q)) s = .ok (.d (.bl (decide (p ≤ q)))) s := rfl
theorem le_str {p q : Str} : leV (.d (.str p)) (.d (.str q)) s = .ok (.d (.bl (!decide (q.cps.toList < p.cps.toList)))) s := rfl
theorem lt_int {p q : Int} : ltV (.d (.int p)) (.d (.int q)) s = .ok (.d (.bl (decide (p < q)))) s := rfl
theorem gt_int {p q : Int} : gtV (.d (.int p)) (.d (.int q)) s = .ok (.d (.bl (decide (q < p)))) s := rfl
theorem add_int {p q : Int} : addV (.d (.int p)) (.d (.int q)) s = .ok (.d (.int (p + q))) s := rfl
theorem add_str {p q : Str} (h : p.length + q.length ≤ sizeLine) : addV (.d (.str p)) (.d (.str q)) s = .ok (.d (.str (p ++ q))) s := by unfold addV; exact if_pos h
theorem tyV_d : tyV (.d x) s = some (tyD x) := rfl
def andK (h : Store → R Val) : Val → Store → R Val := fun a st => match a with
  | .d (.bl true) => h st
  | .d (.bl false) => .ok (.d (.bl false)) st
  | _ => .err
theorem andE_eq {f g : SE} {st : Store} : andE f g ρ st = bindR (f ρ st) (andK (g ρ)) := rfl
theorem andK_bl {h : Store → R Val} {b : Bool} {st : Store} : andK h (.d (.bl b)) st = if b = true then h st else .ok (.d (.bl false)) st := by cases b <;> rfl
def orK (h : Store → R Val) : Val → Store → R Val := fun a st => match a with
  | .d (.bl true) => .ok (.d (.bl true)) st
  | .d (.bl false) => h st
  | _ => .err
theorem orE_eq {f g : SE} {st : Store} : orE f g ρ st = bindR (f ρ st) (orK (g ρ)) := rfl
theorem orK_bl {h : Store → R Val} {b : Bool} {st : Store} : orK h (.d (.bl b)) st = if b = true then .ok (.d (.bl true)) st else h st := by cases b <;> rfl
def asK : Val → Store → R Bool := fun a st => match a with
  | .d (.bl b) => .ok b st
  | _ => .err
theorem asB_eq {f : SE} {st : Store} : asB f ρ st = bindR (f ρ st) asK := rfl
theorem asK_bl {b : Bool} {st : Store} : asK (.d (.bl b)) st = .ok b st := rfl
theorem chain_bl {g g' : Val → Val → Store → R Val} {fa fb fc : SE} {a b : Val} {z : Bool} {s1 s2 s3 st : Store} (h1 : fa ρ st = .ok a s1) (h2 : fb ρ s1 = .ok b s2) (h3 : g a b s2 = .ok (.d (.bl z)) s3) : chainE g g' fa fb fc ρ st = if z = true then bindR (fc ρ s3) (fun c st => g' b c st) else .ok (.d (.bl false)) s3 := by
  unfold chainE
  rw [h1, bindR_ok, h2, bindR_ok, h3, bindR_ok]
  cases z <;> rfl
theorem sz1 : (1 ≤ sizeLine) = True := eq_true (by decide)
theorem sz2 : (2 ≤ sizeLine) = True := eq_true (by decide)
theorem sz3 : (3 ≤ sizeLine) = True := eq_true (by decide)
theorem sz4 : (4 ≤ sizeLine) = True := eq_true (by decide)
theorem cst1 : ((((1 : Nat) : Int)) = 1) = True := eq_true rfl
theorem cst2 : ((((2 : Nat) : Int)) = 2) = True := eq_true rfl
theorem cst3 : ((((3 : Nat) : Int)) = 3) = True := eq_true rfl
def negK : Val → Store → R Val := fun a st => match a with
  | .d (.int i) => .ok (.d (.int (-i))) st
  | _ => .err
theorem isi_d {tab : Ty → Option Bool} {f : SE} {st s1 : Store} {b : Bool} (h : f ρ st = .ok (.d x) s1) (ht : tab (tyD x) = some b) : isiE tab f ρ st = .ok (.d (.bl b)) s1 := by
  unfold isiE
  rw [h, bindR_ok]
  show (match tab (tyD x) with | some b => R.ok (Val.d (.bl b)) s1 | none => .err) = _
  rw [ht]
end
end DL
end

section
set_option Elab.async false
set_option linter.all false
set_option autoImplicit false
set_option maxRecDepth 100000
set_option maxHeartbeats 4000000
/-! KP1: signs of a text; is_small, letters_end. -/
namespace K50
open PySem DL
abbrev T := List Nat
def S (l : T) : Str := ⟨l.toArray⟩
theorem S_inj {a b : T} : S a = S b ↔ a = b := ⟨fun h => by have := congrArg (fun z : Str => z.cps.toList) h; simpa [S] using this, fun h => by rw [h]⟩
theorem S_len (a : T) : (S a).length = a.length := by simp [S, Str.length]
theorem S_cps (a : T) : (S a).cps.toList = a := by simp [S]
theorem S_of (z : Str) : S z.cps.toList = z := by simp [S]
theorem S_app (a b : T) : S a ++ S b = S (a ++ b) := by
  have h := (S_of (S a ++ S b)).symm
  rw [h]
  congr 1
  have : TL.tl (S a ++ S b) = TL.tl (S a) ++ TL.tl (S b) := TL.tl_append _ _
  exact this
theorem small_size {n : Nat} (h : n ≤ 100000) : n ≤ sizeLine := Nat.le_trans h (by decide)
/-- text[k:k+1] -/
def sg (t : T) (k : Nat) : T := (t.drop k).take 1
theorem cut_S (t : T) (i j : Nat) : L2.cutS (S t) (some (i : Int)) (some (j : Int)) = S ((t.drop i).take (j - i)) := by
  unfold L2.cutS
  rw [HT.sIx_nat, HT.sIx_nat, S_len, S_cps]
  unfold S
  congr 2
  by_cases hi : i ≤ t.length
  · rw [Nat.min_eq_left hi]
    apply List.ext_getElem?
    intro n
    rw [List.getElem?_take, List.getElem?_take, List.getElem?_drop]
    by_cases c : n < j - i
    · rw [if_pos c]
      by_cases d : n < min j t.length - i
      · rw [if_pos d]
      · rw [if_neg d, List.getElem?_eq_none_iff.mpr (show t.length ≤ i + n by omega)]
    · rw [if_neg c, if_neg (by omega)]
  · rw [Nat.min_eq_right (show t.length ≤ i by omega), List.drop_eq_nil_of_le (Nat.le_refl _), List.drop_eq_nil_of_le (show t.length ≤ i by omega)]
    simp
theorem sl_S {t : T} (h : t.length ≤ sizeLine) (i j : Nat) (st : Store) : slV (.d (.str (S t))) (some (i : Int)) (some (j : Int)) st = .ok (.d (.str (S ((t.drop i).take (j - i))))) st := by
  show (if (S t).length ≤ sizeLine then R.ok (Val.d (.str (L2.cutS (S t) (some (i : Int)) (some (j : Int))))) st else .err) = _
  rw [S_len, if_pos h, cut_S]
theorem eint (b : Nat) : ((b : Int) + 1) = ((b + 1 : Nat) : Int) := rfl
theorem sl1 {t : T} (h : t.length ≤ sizeLine) (k : Nat) (st : Store) : slV (.d (.str (S t))) (some (k : Int)) (some ((k + 1 : Nat) : Int)) st = .ok (.d (.str (S (sg t k)))) st := by
  have := sl_S h k (k + 1) st
  rw [Nat.add_sub_cancel_left] at this
  exact this
def small (c : Nat) : Bool := decide (97 ≤ c) && decide (c ≤ 122)
def smAt (t : T) (k : Nat) : Bool := match t[k]? with
  | some c => small c
  | none => false
theorem sg_some {t : T} {k c : Nat} (h : t[k]? = some c) : sg t k = [c] := by
  unfold sg
  obtain ⟨hk, e⟩ := List.getElem?_eq_some_iff.mp h
  rw [List.drop_eq_getElem_cons hk, e]
  rfl
theorem sg_none {t : T} {k : Nat} (h : t[k]? = none) : sg t k = [] := by
  unfold sg
  rw [List.drop_eq_nil_of_le (List.getElem?_eq_none_iff.mp h)]
  rfl
theorem cps_a : ("a" : Str).cps.toList = [97] := by decide +kernel
theorem cps_z : ("z" : Str).cps.toList = [122] := by decide +kernel
theorem f_is_small (t : T) (k : Nat) (st : Store) : F_is_small [.d (.str (S (sg t k)))] st = .ok (.d (.bl (smAt t k))) st := by
  unfold smAt
  cases h : t[k]? with
  | none =>
    rw [sg_none h]
    have e : (S []).length ≤ sizeLine := by rw [S_len]; exact Nat.zero_le _
    have e2 : (((S []).length : Nat) : Int) = 0 := by rw [S_len]; rfl
    simp only [F_is_small, g_is_small, N_is_small, len_str e, e2, funD, funX, funK, env0, retS, retN, exprS, setS, seqS, ifS, asgS, parS, nxS, raiseS, varE, cE, op2, andT, orT, notT, notE, ifE, nilA, consA, tupE, lstE, asDs_nil, asDs_cons, asDs_map, callE, callX, bltE, one, truE, sliceE, noO, someO, nameG, tupG, consG, nilG, okIf, negE, bindR_ok, bindR_exc, bindR_err, bindS_ok, bindS_exc, bindS_err, seqR_nx, seqR_ret, seqR_exc, seqR_brk, seqR_cnt, seqR_err, noX_ok, fin_nx, fin_d, fin_exc, fin_scr, eq_str, ne_str, eq_int, ne_int, List.map_cons, List.map_nil, List.cons_append, List.nil_append, List.getElem?_cons_zero, List.getElem?_cons_succ, List.length_cons, List.length_nil, Nat.reduceAdd, Nat.reduceSub, List.replicate_zero, List.replicate_succ, List.set_cons_zero, List.set_cons_succ, List.take_length, Option.bind_some, Bool.not_true, Bool.not_false, if_true, if_false, Bool.false_eq_true, ite_true, ite_false, ite_self, decide_true, decide_false, Nat.zero_le, reduceCtorEq, andE_eq, andK_bl, orE_eq, orK_bl, asB_eq, asK_bl, Option.map_some, sz1, sz2, sz3, sz4, cst1, cst2, cst3]
    rw [if_neg (by decide)]
    simp only [funD, funX, funK, env0, retS, retN, exprS, setS, seqS, ifS, asgS, parS, nxS, raiseS, varE, cE, op2, andT, orT, notT, notE, ifE, nilA, consA, tupE, lstE, asDs_nil, asDs_cons, asDs_map, callE, callX, bltE, one, truE, sliceE, noO, someO, nameG, tupG, consG, nilG, okIf, negE, bindR_ok, bindR_exc, bindR_err, bindS_ok, bindS_exc, bindS_err, seqR_nx, seqR_ret, seqR_exc, seqR_brk, seqR_cnt, seqR_err, noX_ok, fin_nx, fin_d, fin_exc, fin_scr, eq_str, ne_str, eq_int, ne_int, List.map_cons, List.map_nil, List.cons_append, List.nil_append, List.getElem?_cons_zero, List.getElem?_cons_succ, List.length_cons, List.length_nil, Nat.reduceAdd, Nat.reduceSub, List.replicate_zero, List.replicate_succ, List.set_cons_zero, List.set_cons_succ, List.take_length, Option.bind_some, Bool.not_true, Bool.not_false, if_true, if_false, Bool.false_eq_true, ite_true, ite_false, ite_self, decide_true, decide_false, Nat.zero_le, reduceCtorEq, andE_eq, andK_bl, orE_eq, orK_bl, asB_eq, asK_bl, Option.map_some, sz1, sz2, sz3, sz4, cst1, cst2, cst3]
  | some c =>
    rw [sg_some h]
    have e : (S [c]).length ≤ sizeLine := by rw [S_len]; exact small_size (by simp)
    have e2 : (((S [c]).length : Nat) : Int) = 1 := by rw [S_len]; rfl
    have a1 : ([c] < [97]) ↔ c < 97 := by simp [List.cons_lt_cons_iff]
    have a2 : ([122] < [c]) ↔ 122 < c := by simp [List.cons_lt_cons_iff]
    have ch : ∀ ρ : DL.Env, ρ[0]? = some (some (Val.d (.str (S [c])))) → chainE leV leV (cE (.str ("a" : Str))) (varE 0) (cE (.str ("z" : Str))) ρ st = .ok (.d (.bl (small c))) st := fun ρ hρ => by
      have hv : varE 0 ρ st = .ok (.d (.str (S [c]))) st := by unfold varE; rw [hρ]
      rw [chain_bl (g := leV) rfl hv le_str]
      show _ = _
      rw [cps_a, S_cps]
      unfold small
      by_cases h1 : 97 ≤ c
      · have b1 : ¬ ([c] < [97]) := by rw [a1]; omega
        simp only [cE, bindR_ok, le_str, cps_z, S_cps]
        by_cases h2 : c ≤ 122
        · have b2 : ¬ ([122] < [c]) := by rw [a2]; omega
          simp [b1, b2, h1, h2]
        · have b2 : ([122] < [c]) := by rw [a2]; omega
          simp [b1, b2, h1, h2]
      · have b1 : ([c] < [97]) := by rw [a1]; omega
        simp [b1, h1]
    simp only [F_is_small, g_is_small, N_is_small, len_str e, e2, funD, funX, funK, env0, retS, retN, exprS, setS, seqS, ifS, asgS, parS, nxS, raiseS, varE, cE, op2, andT, orT, notT, notE, ifE, nilA, consA, tupE, lstE, asDs_nil, asDs_cons, asDs_map, callE, callX, bltE, one, truE, sliceE, noO, someO, nameG, tupG, consG, nilG, okIf, negE, bindR_ok, bindR_exc, bindR_err, bindS_ok, bindS_exc, bindS_err, seqR_nx, seqR_ret, seqR_exc, seqR_brk, seqR_cnt, seqR_err, noX_ok, fin_nx, fin_d, fin_exc, fin_scr, eq_str, ne_str, eq_int, ne_int, List.map_cons, List.map_nil, List.cons_append, List.nil_append, List.getElem?_cons_zero, List.getElem?_cons_succ, List.length_cons, List.length_nil, Nat.reduceAdd, Nat.reduceSub, List.replicate_zero, List.replicate_succ, List.set_cons_zero, List.set_cons_succ, List.take_length, Option.bind_some, Bool.not_true, Bool.not_false, if_true, if_false, Bool.false_eq_true, ite_true, ite_false, ite_self, decide_true, decide_false, Nat.zero_le, reduceCtorEq, andE_eq, andK_bl, orE_eq, orK_bl, asB_eq, asK_bl, Option.map_some, sz1, sz2, sz3, sz4, cst1, cst2, cst3]
    rw [ch _ rfl]
    simp only [funD, funX, funK, env0, retS, retN, exprS, setS, seqS, ifS, asgS, parS, nxS, raiseS, varE, cE, op2, andT, orT, notT, notE, ifE, nilA, consA, tupE, lstE, asDs_nil, asDs_cons, asDs_map, callE, callX, bltE, one, truE, sliceE, noO, someO, nameG, tupG, consG, nilG, okIf, negE, bindR_ok, bindR_exc, bindR_err, bindS_ok, bindS_exc, bindS_err, seqR_nx, seqR_ret, seqR_exc, seqR_brk, seqR_cnt, seqR_err, noX_ok, fin_nx, fin_d, fin_exc, fin_scr, eq_str, ne_str, eq_int, ne_int, List.map_cons, List.map_nil, List.cons_append, List.nil_append, List.getElem?_cons_zero, List.getElem?_cons_succ, List.length_cons, List.length_nil, Nat.reduceAdd, Nat.reduceSub, List.replicate_zero, List.replicate_succ, List.set_cons_zero, List.set_cons_succ, List.take_length, Option.bind_some, Bool.not_true, Bool.not_false, if_true, if_false, Bool.false_eq_true, ite_true, ite_false, ite_self, decide_true, decide_false, Nat.zero_le, reduceCtorEq, andE_eq, andK_bl, orE_eq, orK_bl, asB_eq, asK_bl, Option.map_some, sz1, sz2, sz3, sz4, cst1, cst2, cst3]
/-- where the run of small letters ends -/
def lend (t : T) : Nat → Nat → Option Nat
  | 0, _ => none
  | f + 1, k => if smAt t k = true then lend t f (k + 1) else some k
theorem f_letters_end {t : T} (h : t.length ≤ sizeLine) (k : Nat) (st : Store) : F_letters_end [.d (.str (S t)), .d (.int k)] st = match lend t 40 k with
    | some j => .ok (.d (.int j)) st
    | none => .err := by
  have run : ∀ (f k : Nat), whileL (asB (callE F_is_small (consA (sliceE (varE 0) (someO (varE 1)) (someO (op2 addV (varE 1) (cE (.int 1))))) nilA))) (augS 1 (cE (.int 1))) [] f [some (.d (.str (S t))), some (.d (.int k))] st = match lend t f k with
      | some j => .nx [some (.d (.str (S t))), some (.d (.int j))] st
      | none => .err := fun f => by
    induction f with
    | zero => intro k; rfl
    | succ f ih =>
      intro k
      unfold whileL lend
      simp only [add_int, eint, sl1 h, f_is_small, funD, funX, funK, env0, retS, retN, exprS, setS, seqS, ifS, asgS, parS, nxS, raiseS, varE, cE, op2, andT, orT, notT, notE, ifE, nilA, consA, tupE, lstE, asDs_nil, asDs_cons, asDs_map, callE, callX, bltE, one, truE, sliceE, noO, someO, nameG, tupG, consG, nilG, okIf, negE, bindR_ok, bindR_exc, bindR_err, bindS_ok, bindS_exc, bindS_err, seqR_nx, seqR_ret, seqR_exc, seqR_brk, seqR_cnt, seqR_err, noX_ok, fin_nx, fin_d, fin_exc, fin_scr, eq_str, ne_str, eq_int, ne_int, List.map_cons, List.map_nil, List.cons_append, List.nil_append, List.getElem?_cons_zero, List.getElem?_cons_succ, List.length_cons, List.length_nil, Nat.reduceAdd, Nat.reduceSub, List.replicate_zero, List.replicate_succ, List.set_cons_zero, List.set_cons_succ, List.take_length, Option.bind_some, Bool.not_true, Bool.not_false, if_true, if_false, Bool.false_eq_true, ite_true, ite_false, ite_self, decide_true, decide_false, Nat.zero_le, reduceCtorEq, andE_eq, andK_bl, orE_eq, orK_bl, asB_eq, asK_bl, Option.map_some, sz1, sz2, sz3, sz4, cst1, cst2, cst3]
      cases smAt t k with
      | false => simp only [if_false, Bool.false_eq_true]
      | true =>
        simp only [if_true, augS, bindS_ok, cE, List.getElem?_cons_zero, List.getElem?_cons_succ, List.set_cons_zero, List.set_cons_succ, loopR_nx, forget]
        exact ih (k + 1)
  have e := run 40 k
  simp only [F_letters_end, g_letters_end, N_letters_end, whileS, funD, funX, funK, env0, retS, retN, exprS, setS, seqS, ifS, asgS, parS, nxS, raiseS, varE, cE, op2, andT, orT, notT, notE, ifE, nilA, consA, tupE, lstE, asDs_nil, asDs_cons, asDs_map, callE, callX, bltE, one, truE, sliceE, noO, someO, nameG, tupG, consG, nilG, okIf, negE, bindR_ok, bindR_exc, bindR_err, bindS_ok, bindS_exc, bindS_err, seqR_nx, seqR_ret, seqR_exc, seqR_brk, seqR_cnt, seqR_err, noX_ok, fin_nx, fin_d, fin_exc, fin_scr, eq_str, ne_str, eq_int, ne_int, List.map_cons, List.map_nil, List.cons_append, List.nil_append, List.getElem?_cons_zero, List.getElem?_cons_succ, List.length_cons, List.length_nil, Nat.reduceAdd, Nat.reduceSub, List.replicate_zero, List.replicate_succ, List.set_cons_zero, List.set_cons_succ, List.take_length, Option.bind_some, Bool.not_true, Bool.not_false, if_true, if_false, Bool.false_eq_true, ite_true, ite_false, ite_self, decide_true, decide_false, Nat.zero_le, reduceCtorEq, andE_eq, andK_bl, orE_eq, orK_bl, asB_eq, asK_bl, Option.map_some, sz1, sz2, sz3, sz4, cst1, cst2, cst3]
  rw [e]
  cases lend t 40 k with
  | none => rfl
  | some j => simp only [funD, funX, funK, env0, retS, retN, exprS, setS, seqS, ifS, asgS, parS, nxS, raiseS, varE, cE, op2, andT, orT, notT, notE, ifE, nilA, consA, tupE, lstE, asDs_nil, asDs_cons, asDs_map, callE, callX, bltE, one, truE, sliceE, noO, someO, nameG, tupG, consG, nilG, okIf, negE, bindR_ok, bindR_exc, bindR_err, bindS_ok, bindS_exc, bindS_err, seqR_nx, seqR_ret, seqR_exc, seqR_brk, seqR_cnt, seqR_err, noX_ok, fin_nx, fin_d, fin_exc, fin_scr, eq_str, ne_str, eq_int, ne_int, List.map_cons, List.map_nil, List.cons_append, List.nil_append, List.getElem?_cons_zero, List.getElem?_cons_succ, List.length_cons, List.length_nil, Nat.reduceAdd, Nat.reduceSub, List.replicate_zero, List.replicate_succ, List.set_cons_zero, List.set_cons_succ, List.take_length, Option.bind_some, Bool.not_true, Bool.not_false, if_true, if_false, Bool.false_eq_true, ite_true, ite_false, ite_self, decide_true, decide_false, Nat.zero_le, reduceCtorEq, andE_eq, andK_bl, orE_eq, orK_bl, asB_eq, asK_bl, Option.map_some, sz1, sz2, sz3, sz4, cst1, cst2, cst3]
end K50
end

section
set_option Elab.async false
set_option linter.all false
set_option autoImplicit false
set_option maxRecDepth 100000
set_option maxHeartbeats 4000000
/-! KP2: part_at, inner_parts as plain functions. -/
namespace DL
open PySem
theorem new_nil {ρ : Env} {st : Store} : newE nilA ρ st = .ok (.ref st.length) (st ++ [some (.lst [])]) := by
  unfold newE nilA
  rw [bindR_ok]
  exact if_pos ⟨Nat.zero_le _, rfl⟩
theorem append_ok {fo f : SE} {ρ : Env} {s0 s1 : Store} {n : Nat} {xs ys : List Val} {x : D} (h1 : fo ρ s0 = .ok (.ref n) s0) (h2 : s0[n]? = some (some (.lst ys))) (h3 : f ρ s0 = .ok (.d x) s1) (h4 : s1[n]? = some (some (.lst xs))) (h5 : xs.length < sizeLine) :
    appendE fo f ρ s0 = .ok (.d .non) (s1.set n (some (.lst (xs ++ [.d x])))) := by
  unfold appendE
  rw [h1, bindR_ok]
  have c : isCell s0 (.ref n) = true := by unfold isCell; simp only [h2]
  rw [if_pos c, h3, bindR_ok]
  simp only [h4]
  exact if_pos ⟨h5, rfl⟩
theorem at_new {st : Store} {c : Option Cell} : (st ++ [c])[st.length]? = some c := by simp
theorem set_new {st : Store} {c d : Option Cell} : (st ++ [c]).set st.length d = st ++ [d] := by simp
theorem tuple_ref {st : Store} {n : Nat} {xs : List D} (h : st[n]? = some (some (.lst (xs.map Val.d)))) : tupleV (.ref n) st = .ok (.d (.tup xs)) st := by
  have : listOrScr st (.ref n) = some xs := by
    unfold listOrScr listOf
    simp only [h, asDs_map]
  unfold tupleV
  simp only [this]
end DL
namespace K50
open PySem DL
inductive Part where
  | keep | say (w : T) | go (w : T) | node (w : T) (ps : List Part)
mutual
def toD : Part → D
  | .keep => .tup [.str ("keep" : Str)]
  | .say w => .tup [.str ("say" : Str), .str (S w)]
  | .go w => .tup [.str ("go" : Str), .str (S w)]
  | .node w ps => .tup [.str ("node" : Str), .str (S w), .tup (toDs ps)]
def toDs : List Part → List D
  | [] => []
  | p :: ps => toD p :: toDs ps
end
theorem toDs_map : ∀ ps : List Part, toDs ps = ps.map toD
  | [] => rfl
  | p :: ps => by rw [toDs, toDs_map ps]; rfl
inductive PR (α : Type) where
  | ok (p : α) (b : Nat) | bad (a : Nat) | err
inductive LR where
  | done (ps : List Part) (b : Nat) | bad (a : Nat) | err
def inW (pa : T → Nat → PR Part) (t : T) : Nat → List Part → Nat → LR
  | 0, _, _ => .err
  | f + 1, acc, b => if sg t b = [32] then (match pa t (b + 1) with
    | .ok p b' => inW pa t f (acc ++ [p]) b'
    | .bad a => .bad a
    | .err => .err) else .done acc b
def innerP (pa : T → Nat → PR Part) (t : T) (k : Nat) : PR (List Part) :=
  if sg t k = [40] then (if sg t (k + 1) = [41] then .ok [] (k + 1 + 1) else match pa t (k + 1) with
    | .ok p b => (match inW pa t 40 [p] b with
      | .done ps b => if sg t b = [41] then .ok ps (b + 1) else .bad b
      | .bad a => .bad a
      | .err => .err)
    | .bad a => .bad a
    | .err => .err) else .bad k
def fndL : T → Nat → Option Nat
  | [], _ => none
  | c :: r, k => if c = 34 then some k else fndL r (k + 1)
def fnd (t : T) (k : Nat) : Option Nat := fndL (t.drop k) k
def cut (t : T) (i j : Nat) : T := (t.drop i).take (j - i)
def partP (ip : T → Nat → PR (List Part)) (t : T) (k : Nat) : PR Part :=
  if sg t k = [42] then .ok .keep (k + 1)
  else if sg t k = [34] then (match fnd t (k + 1) with
    | some e => .ok (.say (cut t (k + 1) e)) (e + 1)
    | none => .bad k)
  else if sg t k = [33] then (match lend t 40 (k + 1) with
    | some e => .ok (.go (cut t (k + 1) e)) e
    | none => .err)
  else match lend t 40 k with
    | none => .err
    | some e => match ip t e with
      | .ok ps b => .ok (.node (cut t k e) ps) b
      | .bad a => .bad a
      | .err => .err
mutual
def IP : Nat → T → Nat → PR (List Part)
  | 0, _, _ => .err
  | n + 1, t, k => innerP (PA n) t k
def PA : Nat → T → Nat → PR Part
  | 0, _, _ => .err
  | n + 1, t, k => partP (IP n) t k
end
def dTup (ps : List Part) : D := .tup (ps.map toD)
def toR {α : Type} (d : α → D) (r : PR α) (st : Store) : R Val := match r with
  | .ok p b => .ok (.d (.tup [d p, .int b])) st
  | .bad a => .exc ("InvalidText" : Str) [("at" : Str)] [.int a] st
  | .err => .err
theorem c_open : ("(" : Str) = S [40] := by decide +kernel
theorem c_close : (")" : Str) = S [41] := by decide +kernel
theorem c_blank : (" " : Str) = S [32] := by decide +kernel
theorem c_star : ("*" : Str) = S [42] := by decide +kernel
theorem c_quote : ("\"" : Str) = S [34] := by decide +kernel
theorem c_bang : ("!" : Str) = S [33] := by decide +kernel
theorem fndL_spec : ∀ (l : T) (k : Nat), (fndL l k = none ∧ ∀ i, i < l.length → l[i]? ≠ some 34) ∨ ∃ e, fndL l k = some (k + e) ∧ l[e]? = some 34 ∧ ∀ i, i < e → l[i]? ≠ some 34
  | [], k => .inl ⟨rfl, fun i h => by cases h⟩
  | c :: r, k => by
    unfold fndL
    by_cases h : c = 34
    · rw [if_pos h]
      exact .inr ⟨0, rfl, by simp [h], fun i hi => by cases hi⟩
    · rw [if_neg h]
      rcases fndL_spec r (k + 1) with ⟨e1, e2⟩ | ⟨e, e1, e2, e3⟩
      · refine .inl ⟨e1, fun i hi => ?_⟩
        cases i with
        | zero => simpa using h
        | succ i => simpa using e2 i (by simpa using hi)
      · refine .inr ⟨e + 1, by rw [e1]; congr 1; omega, by simpa using e2, fun i hi => ?_⟩
        cases i with
        | zero => simpa using h
        | succ i => simpa using e3 i (by omega)
theorem getD_S {t : T} {v : Nat} (h : v < t.length) : t[v]? = some ((S t).cps.getD v 0) := by
  have : (S t).cps.getD v 0 = t[v] := by simp [S, Array.getD, h]
  rw [this, List.getElem?_eq_getElem h]
theorem find_S (t : T) (k : Nat) : Txt.find3 (S t) (S [34]) (k : Int) = match fnd t k with
    | some e => (e : Int)
    | none => -1 := by
  have hf : PySem.fromIndex (S t).length (k : Int) = k := by
    unfold PySem.fromIndex
    rw [if_neg (by omega)]
    omega
  have hlen := S_len t
  have spec := PySem.StrLaws.find3_spec (S t) 34 (k : Int)
  rw [hf] at spec
  have spec2 := fndL_spec (t.drop k) k
  unfold fnd
  rcases spec with ⟨e1, e2⟩ | ⟨j, e1, e2, e3, e4, e5⟩
  · rcases spec2 with ⟨g1, g2⟩ | ⟨e, g1, g2, g3⟩
    · rw [g1]; exact e1
    · exfalso
      rw [List.getElem?_drop] at g2
      have hlt : k + e < t.length := (List.getElem?_eq_some_iff.mp g2).1
      have := getD_S hlt
      rw [g2] at this
      exact e2 (k + e) (by omega) (by omega) (Option.some.inj this).symm
  · have hj : j < t.length := by omega
    have q := getD_S hj
    rw [e4] at q
    rcases spec2 with ⟨g1, g2⟩ | ⟨e, g1, g2, g3⟩
    · exfalso
      refine g2 (j - k) (by rw [List.length_drop]; omega) ?_
      rw [List.getElem?_drop, show k + (j - k) = j by omega]
      exact q
    · rw [g1]
      rw [List.getElem?_drop] at g2
      have hlt : k + e < t.length := (List.getElem?_eq_some_iff.mp g2).1
      have q2 := getD_S hlt
      rw [g2] at q2
      have : j = k + e := by
        rcases Nat.lt_trichotomy j (k + e) with c | c | c
        · exfalso
          refine g3 (j - k) (by omega) ?_
          rw [List.getElem?_drop, show k + (j - k) = j by omega]
          exact q
        · exact c
        · exact absurd (Option.some.inj q2).symm (e5 (k + e) (by omega) c)
      rw [← this]
      exact e1
theorem f_find {t : T} {ρ : DL.Env} {st : Store} {k : Nat} {fo fi : SE} (h1 : fo ρ st = .ok (.d (.str (S t))) st) (h2 : fi ρ st = .ok (.d (.int k)) st) : tmAE findV fo (consA (cE (.str ("\"" : Str))) (consA fi nilA)) ρ st = .ok (.d (.int (match fnd t k with
    | some e => (e : Int)
    | none => -1))) st := by
  unfold tmAE
  simp only [h1, h2, findV, c_quote, find_S, funD, funX, funK, env0, retS, retN, exprS, setS, seqS, ifS, asgS, parS, nxS, raiseS, varE, cE, op2, andT, orT, notT, notE, ifE, nilA, consA, tupE, lstE, asDs_nil, asDs_cons, asDs_map, callE, callX, bltE, one, truE, sliceE, noO, someO, nameG, tupG, consG, nilG, okIf, negE, bindR_ok, bindR_exc, bindR_err, bindS_ok, bindS_exc, bindS_err, seqR_nx, seqR_ret, seqR_exc, seqR_brk, seqR_cnt, seqR_err, noX_ok, fin_nx, fin_d, fin_exc, fin_scr, eq_str, ne_str, eq_int, ne_int, List.map_cons, List.map_nil, List.cons_append, List.nil_append, List.getElem?_cons_zero, List.getElem?_cons_succ, List.length_cons, List.length_nil, Nat.reduceAdd, Nat.reduceSub, List.replicate_zero, List.replicate_succ, List.set_cons_zero, List.set_cons_succ, List.take_length, Option.bind_some, Bool.not_true, Bool.not_false, if_true, if_false, Bool.false_eq_true, ite_true, ite_false, ite_self, decide_true, decide_false, Nat.zero_le, reduceCtorEq, andE_eq, andK_bl, orE_eq, orK_bl, asB_eq, asK_bl, Option.map_some, sz1, sz2, sz3, sz4, cst1, cst2, cst3]
section
variable {t : T}
theorem f_inner {n : Nat} {F : List Val → Store → R Val} (ht : t.length ≤ sizeLine) (hF : ∀ (k : Nat) (st : Store), F [.d (.str (S t)), .d (.int k)] st = toR toD (PA n t k) st) (k : Nat) (st : Store) : funX N_inner_parts.length (g_inner_parts F) [.d (.str (S t)), .d (.int k)] st = toR dTup (innerP (PA n) t k) st := by
  have run : ∀ (f : Nat) (acc : List Part) (b : Nat) (x4 : Option Val), acc.length + f ≤ 1000 → match inW (PA n) t f acc b with
      | .done ps c => ∃ x, whileL (asB (op2 (eqV false) (sliceE (varE 0) (someO (varE 3)) (someO (op2 addV (varE 3) (cE (.int 1))))) (cE (.str (" " : Str))))) (seqS (asgS (callX F (consA (varE 0) (consA (op2 addV (varE 3) (cE (.int 1))) nilA))) (tupG (consG (nameG 4) (consG (nameG 3) nilG)))) (exprS (appendE (varE 2) (varE 4)))) [4] f
        [some (.d (.str (S t))), some (.d (.int k)), some (.ref st.length), some (.d (.int b)), x4] (st ++ [some (.lst ((acc.map toD).map Val.d))]) = .nx [some (.d (.str (S t))), some (.d (.int k)), some (.ref st.length), some (.d (.int c)), x] (st ++ [some (.lst ((ps.map toD).map Val.d))])
      | .bad a => ∃ ρ c, whileL (asB (op2 (eqV false) (sliceE (varE 0) (someO (varE 3)) (someO (op2 addV (varE 3) (cE (.int 1))))) (cE (.str (" " : Str))))) (seqS (asgS (callX F (consA (varE 0) (consA (op2 addV (varE 3) (cE (.int 1))) nilA))) (tupG (consG (nameG 4) (consG (nameG 3) nilG)))) (exprS (appendE (varE 2) (varE 4)))) [4] f
        [some (.d (.str (S t))), some (.d (.int k)), some (.ref st.length), some (.d (.int b)), x4] (st ++ [some (.lst ((acc.map toD).map Val.d))]) = .exc ρ ("InvalidText" : Str) [("at" : Str)] [.int a] (st ++ [c])
      | .err => whileL (asB (op2 (eqV false) (sliceE (varE 0) (someO (varE 3)) (someO (op2 addV (varE 3) (cE (.int 1))))) (cE (.str (" " : Str))))) (seqS (asgS (callX F (consA (varE 0) (consA (op2 addV (varE 3) (cE (.int 1))) nilA))) (tupG (consG (nameG 4) (consG (nameG 3) nilG)))) (exprS (appendE (varE 2) (varE 4)))) [4] f
        [some (.d (.str (S t))), some (.d (.int k)), some (.ref st.length), some (.d (.int b)), x4] (st ++ [some (.lst ((acc.map toD).map Val.d))]) = .err := by
    intro f
    induction f with
    | zero => intro acc b x4 _; rfl
    | succ f ih =>
      intro acc b x4 hf
      unfold inW
      simp only [whileL, add_int, eint, sl1 ht, c_blank, S_inj, hF, funD, funX, funK, env0, retS, retN, exprS, setS, seqS, ifS, asgS, parS, nxS, raiseS, varE, cE, op2, andT, orT, notT, notE, ifE, nilA, consA, tupE, lstE, asDs_nil, asDs_cons, asDs_map, callE, callX, bltE, one, truE, sliceE, noO, someO, nameG, tupG, consG, nilG, okIf, negE, bindR_ok, bindR_exc, bindR_err, bindS_ok, bindS_exc, bindS_err, seqR_nx, seqR_ret, seqR_exc, seqR_brk, seqR_cnt, seqR_err, noX_ok, fin_nx, fin_d, fin_exc, fin_scr, eq_str, ne_str, eq_int, ne_int, List.map_cons, List.map_nil, List.cons_append, List.nil_append, List.getElem?_cons_zero, List.getElem?_cons_succ, List.length_cons, List.length_nil, Nat.reduceAdd, Nat.reduceSub, List.replicate_zero, List.replicate_succ, List.set_cons_zero, List.set_cons_succ, List.take_length, Option.bind_some, Bool.not_true, Bool.not_false, if_true, if_false, Bool.false_eq_true, ite_true, ite_false, ite_self, decide_true, decide_false, Nat.zero_le, reduceCtorEq, andE_eq, andK_bl, orE_eq, orK_bl, asB_eq, asK_bl, Option.map_some, sz1, sz2, sz3, sz4, cst1, cst2, cst3]
      by_cases h : sg t b = [32]
      · simp only [h, if_true, decide_true]
        cases hp : PA n t (b + 1) with
        | err => simp only [toR, bindS_err, seqR_err]; rfl
        | bad a =>
          simp only [toR, bindS_exc, seqR_exc, loopR_exc]
          exact ⟨_, _, rfl⟩
        | ok p b' =>
          simp only [toR, funD, funX, funK, env0, retS, retN, exprS, setS, seqS, ifS, asgS, parS, nxS, raiseS, varE, cE, op2, andT, orT, notT, notE, ifE, nilA, consA, tupE, lstE, asDs_nil, asDs_cons, asDs_map, callE, callX, bltE, one, truE, sliceE, noO, someO, nameG, tupG, consG, nilG, okIf, negE, bindR_ok, bindR_exc, bindR_err, bindS_ok, bindS_exc, bindS_err, seqR_nx, seqR_ret, seqR_exc, seqR_brk, seqR_cnt, seqR_err, noX_ok, fin_nx, fin_d, fin_exc, fin_scr, eq_str, ne_str, eq_int, ne_int, List.map_cons, List.map_nil, List.cons_append, List.nil_append, List.getElem?_cons_zero, List.getElem?_cons_succ, List.length_cons, List.length_nil, Nat.reduceAdd, Nat.reduceSub, List.replicate_zero, List.replicate_succ, List.set_cons_zero, List.set_cons_succ, List.take_length, Option.bind_some, Bool.not_true, Bool.not_false, if_true, if_false, Bool.false_eq_true, ite_true, ite_false, ite_self, decide_true, decide_false, Nat.zero_le, reduceCtorEq, andE_eq, andK_bl, orE_eq, orK_bl, asB_eq, asK_bl, Option.map_some, sz1, sz2, sz3, sz4, cst1, cst2, cst3]
          rw [append_ok (n := st.length) (xs := (acc.map toD).map Val.d) (x := toD p) rfl at_new rfl at_new (by rw [List.length_map, List.length_map]; exact Nat.lt_of_lt_of_le (show acc.length < 100000 by omega) (small_size (Nat.le_refl _)))]
          simp only [funD, funX, funK, env0, retS, retN, exprS, setS, seqS, ifS, asgS, parS, nxS, raiseS, varE, cE, op2, andT, orT, notT, notE, ifE, nilA, consA, tupE, lstE, asDs_nil, asDs_cons, asDs_map, callE, callX, bltE, one, truE, sliceE, noO, someO, nameG, tupG, consG, nilG, okIf, negE, bindR_ok, bindR_exc, bindR_err, bindS_ok, bindS_exc, bindS_err, seqR_nx, seqR_ret, seqR_exc, seqR_brk, seqR_cnt, seqR_err, noX_ok, fin_nx, fin_d, fin_exc, fin_scr, eq_str, ne_str, eq_int, ne_int, List.map_cons, List.map_nil, List.cons_append, List.nil_append, List.getElem?_cons_zero, List.getElem?_cons_succ, List.length_cons, List.length_nil, Nat.reduceAdd, Nat.reduceSub, List.replicate_zero, List.replicate_succ, List.set_cons_zero, List.set_cons_succ, List.take_length, Option.bind_some, Bool.not_true, Bool.not_false, if_true, if_false, Bool.false_eq_true, ite_true, ite_false, ite_self, decide_true, decide_false, Nat.zero_le, reduceCtorEq, andE_eq, andK_bl, orE_eq, orK_bl, asB_eq, asK_bl, Option.map_some, sz1, sz2, sz3, sz4, cst1, cst2, cst3, loopR_nx, forget, set_new]
          have em : (acc.map toD).map Val.d ++ [Val.d (toD p)] = ((acc ++ [p]).map toD).map Val.d := by simp
          rw [em]
          exact ih (acc ++ [p]) b' none (by rw [List.length_append, List.length_singleton]; omega)
      · simp only [h, if_false, decide_false, Bool.false_eq_true]
        exact ⟨_, rfl⟩
  unfold innerP
  simp only [g_inner_parts, N_inner_parts, add_int, eint, sl1 ht, c_open, c_close, S_inj, new_nil, funD, funX, funK, env0, retS, retN, exprS, setS, seqS, ifS, asgS, parS, nxS, raiseS, varE, cE, op2, andT, orT, notT, notE, ifE, nilA, consA, tupE, lstE, asDs_nil, asDs_cons, asDs_map, callE, callX, bltE, one, truE, sliceE, noO, someO, nameG, tupG, consG, nilG, okIf, negE, bindR_ok, bindR_exc, bindR_err, bindS_ok, bindS_exc, bindS_err, seqR_nx, seqR_ret, seqR_exc, seqR_brk, seqR_cnt, seqR_err, noX_ok, fin_nx, fin_d, fin_exc, fin_scr, eq_str, ne_str, eq_int, ne_int, List.map_cons, List.map_nil, List.cons_append, List.nil_append, List.getElem?_cons_zero, List.getElem?_cons_succ, List.length_cons, List.length_nil, Nat.reduceAdd, Nat.reduceSub, List.replicate_zero, List.replicate_succ, List.set_cons_zero, List.set_cons_succ, List.take_length, Option.bind_some, Bool.not_true, Bool.not_false, if_true, if_false, Bool.false_eq_true, ite_true, ite_false, ite_self, decide_true, decide_false, Nat.zero_le, reduceCtorEq, andE_eq, andK_bl, orE_eq, orK_bl, asB_eq, asK_bl, Option.map_some, sz1, sz2, sz3, sz4, cst1, cst2, cst3]
  by_cases h : sg t k = [40]
  case neg =>
    simp only [h, if_false, decide_false, Bool.not_false, if_true, Bool.false_eq_true, funD, funX, funK, env0, retS, retN, exprS, setS, seqS, ifS, asgS, parS, nxS, raiseS, varE, cE, op2, andT, orT, notT, notE, ifE, nilA, consA, tupE, lstE, asDs_nil, asDs_cons, asDs_map, callE, callX, bltE, one, truE, sliceE, noO, someO, nameG, tupG, consG, nilG, okIf, negE, bindR_ok, bindR_exc, bindR_err, bindS_ok, bindS_exc, bindS_err, seqR_nx, seqR_ret, seqR_exc, seqR_brk, seqR_cnt, seqR_err, noX_ok, fin_nx, fin_d, fin_exc, fin_scr, eq_str, ne_str, eq_int, ne_int, List.map_cons, List.map_nil, List.cons_append, List.nil_append, List.getElem?_cons_zero, List.getElem?_cons_succ, List.length_cons, List.length_nil, Nat.reduceAdd, Nat.reduceSub, List.replicate_zero, List.replicate_succ, List.set_cons_zero, List.set_cons_succ, List.take_length, Option.bind_some, Bool.not_true, Bool.not_false, if_true, if_false, Bool.false_eq_true, ite_true, ite_false, ite_self, decide_true, decide_false, Nat.zero_le, reduceCtorEq, andE_eq, andK_bl, orE_eq, orK_bl, asB_eq, asK_bl, Option.map_some, sz1, sz2, sz3, sz4, cst1, cst2, cst3]
    rfl
  simp only [h, if_true, decide_true, Bool.not_true, Bool.false_eq_true, if_false, eint, add_int, new_nil, sl1 ht, S_inj, funD, funX, funK, env0, retS, retN, exprS, setS, seqS, ifS, asgS, parS, nxS, raiseS, varE, cE, op2, andT, orT, notT, notE, ifE, nilA, consA, tupE, lstE, asDs_nil, asDs_cons, asDs_map, callE, callX, bltE, one, truE, sliceE, noO, someO, nameG, tupG, consG, nilG, okIf, negE, bindR_ok, bindR_exc, bindR_err, bindS_ok, bindS_exc, bindS_err, seqR_nx, seqR_ret, seqR_exc, seqR_brk, seqR_cnt, seqR_err, noX_ok, fin_nx, fin_d, fin_exc, fin_scr, eq_str, ne_str, eq_int, ne_int, List.map_cons, List.map_nil, List.cons_append, List.nil_append, List.getElem?_cons_zero, List.getElem?_cons_succ, List.length_cons, List.length_nil, Nat.reduceAdd, Nat.reduceSub, List.replicate_zero, List.replicate_succ, List.set_cons_zero, List.set_cons_succ, List.take_length, Option.bind_some, Bool.not_true, Bool.not_false, if_true, if_false, Bool.false_eq_true, ite_true, ite_false, ite_self, decide_true, decide_false, Nat.zero_le, reduceCtorEq, andE_eq, andK_bl, orE_eq, orK_bl, asB_eq, asK_bl, Option.map_some, sz1, sz2, sz3, sz4, cst1, cst2, cst3]
  by_cases h2 : sg t (k + 1) = [41]
  · simp only [h2, if_true, decide_true, add_int, eint, List.take_left, toR, dTup, List.map_nil, toD, toDs_map, funD, funX, funK, env0, retS, retN, exprS, setS, seqS, ifS, asgS, parS, nxS, raiseS, varE, cE, op2, andT, orT, notT, notE, ifE, nilA, consA, tupE, lstE, asDs_nil, asDs_cons, asDs_map, callE, callX, bltE, one, truE, sliceE, noO, someO, nameG, tupG, consG, nilG, okIf, negE, bindR_ok, bindR_exc, bindR_err, bindS_ok, bindS_exc, bindS_err, seqR_nx, seqR_ret, seqR_exc, seqR_brk, seqR_cnt, seqR_err, noX_ok, fin_nx, fin_d, fin_exc, fin_scr, eq_str, ne_str, eq_int, ne_int, List.map_cons, List.map_nil, List.cons_append, List.nil_append, List.getElem?_cons_zero, List.getElem?_cons_succ, List.length_cons, List.length_nil, Nat.reduceAdd, Nat.reduceSub, List.replicate_zero, List.replicate_succ, List.set_cons_zero, List.set_cons_succ, List.take_length, Option.bind_some, Bool.not_true, Bool.not_false, if_true, if_false, Bool.false_eq_true, ite_true, ite_false, ite_self, decide_true, decide_false, Nat.zero_le, reduceCtorEq, andE_eq, andK_bl, orE_eq, orK_bl, asB_eq, asK_bl, Option.map_some, sz1, sz2, sz3, sz4, cst1, cst2, cst3]
  simp only [h2, if_false, decide_false, Bool.false_eq_true, add_int, eint, hF, funD, funX, funK, env0, retS, retN, exprS, setS, seqS, ifS, asgS, parS, nxS, raiseS, varE, cE, op2, andT, orT, notT, notE, ifE, nilA, consA, tupE, lstE, asDs_nil, asDs_cons, asDs_map, callE, callX, bltE, one, truE, sliceE, noO, someO, nameG, tupG, consG, nilG, okIf, negE, bindR_ok, bindR_exc, bindR_err, bindS_ok, bindS_exc, bindS_err, seqR_nx, seqR_ret, seqR_exc, seqR_brk, seqR_cnt, seqR_err, noX_ok, fin_nx, fin_d, fin_exc, fin_scr, eq_str, ne_str, eq_int, ne_int, List.map_cons, List.map_nil, List.cons_append, List.nil_append, List.getElem?_cons_zero, List.getElem?_cons_succ, List.length_cons, List.length_nil, Nat.reduceAdd, Nat.reduceSub, List.replicate_zero, List.replicate_succ, List.set_cons_zero, List.set_cons_succ, List.take_length, Option.bind_some, Bool.not_true, Bool.not_false, if_true, if_false, Bool.false_eq_true, ite_true, ite_false, ite_self, decide_true, decide_false, Nat.zero_le, reduceCtorEq, andE_eq, andK_bl, orE_eq, orK_bl, asB_eq, asK_bl, Option.map_some, sz1, sz2, sz3, sz4, cst1, cst2, cst3]
  cases hp : PA n t (k + 1) with
  | err => simp only [toR, funD, funX, funK, env0, retS, retN, exprS, setS, seqS, ifS, asgS, parS, nxS, raiseS, varE, cE, op2, andT, orT, notT, notE, ifE, nilA, consA, tupE, lstE, asDs_nil, asDs_cons, asDs_map, callE, callX, bltE, one, truE, sliceE, noO, someO, nameG, tupG, consG, nilG, okIf, negE, bindR_ok, bindR_exc, bindR_err, bindS_ok, bindS_exc, bindS_err, seqR_nx, seqR_ret, seqR_exc, seqR_brk, seqR_cnt, seqR_err, noX_ok, fin_nx, fin_d, fin_exc, fin_scr, eq_str, ne_str, eq_int, ne_int, List.map_cons, List.map_nil, List.cons_append, List.nil_append, List.getElem?_cons_zero, List.getElem?_cons_succ, List.length_cons, List.length_nil, Nat.reduceAdd, Nat.reduceSub, List.replicate_zero, List.replicate_succ, List.set_cons_zero, List.set_cons_succ, List.take_length, Option.bind_some, Bool.not_true, Bool.not_false, if_true, if_false, Bool.false_eq_true, ite_true, ite_false, ite_self, decide_true, decide_false, Nat.zero_le, reduceCtorEq, andE_eq, andK_bl, orE_eq, orK_bl, asB_eq, asK_bl, Option.map_some, sz1, sz2, sz3, sz4, cst1, cst2, cst3]; rfl
  | bad a => simp only [toR, List.take_left, funD, funX, funK, env0, retS, retN, exprS, setS, seqS, ifS, asgS, parS, nxS, raiseS, varE, cE, op2, andT, orT, notT, notE, ifE, nilA, consA, tupE, lstE, asDs_nil, asDs_cons, asDs_map, callE, callX, bltE, one, truE, sliceE, noO, someO, nameG, tupG, consG, nilG, okIf, negE, bindR_ok, bindR_exc, bindR_err, bindS_ok, bindS_exc, bindS_err, seqR_nx, seqR_ret, seqR_exc, seqR_brk, seqR_cnt, seqR_err, noX_ok, fin_nx, fin_d, fin_exc, fin_scr, eq_str, ne_str, eq_int, ne_int, List.map_cons, List.map_nil, List.cons_append, List.nil_append, List.getElem?_cons_zero, List.getElem?_cons_succ, List.length_cons, List.length_nil, Nat.reduceAdd, Nat.reduceSub, List.replicate_zero, List.replicate_succ, List.set_cons_zero, List.set_cons_succ, List.take_length, Option.bind_some, Bool.not_true, Bool.not_false, if_true, if_false, Bool.false_eq_true, ite_true, ite_false, ite_self, decide_true, decide_false, Nat.zero_le, reduceCtorEq, andE_eq, andK_bl, orE_eq, orK_bl, asB_eq, asK_bl, Option.map_some, sz1, sz2, sz3, sz4, cst1, cst2, cst3]
  | ok p b =>
    simp only [toR, funD, funX, funK, env0, retS, retN, exprS, setS, seqS, ifS, asgS, parS, nxS, raiseS, varE, cE, op2, andT, orT, notT, notE, ifE, nilA, consA, tupE, lstE, asDs_nil, asDs_cons, asDs_map, callE, callX, bltE, one, truE, sliceE, noO, someO, nameG, tupG, consG, nilG, okIf, negE, bindR_ok, bindR_exc, bindR_err, bindS_ok, bindS_exc, bindS_err, seqR_nx, seqR_ret, seqR_exc, seqR_brk, seqR_cnt, seqR_err, noX_ok, fin_nx, fin_d, fin_exc, fin_scr, eq_str, ne_str, eq_int, ne_int, List.map_cons, List.map_nil, List.cons_append, List.nil_append, List.getElem?_cons_zero, List.getElem?_cons_succ, List.length_cons, List.length_nil, Nat.reduceAdd, Nat.reduceSub, List.replicate_zero, List.replicate_succ, List.set_cons_zero, List.set_cons_succ, List.take_length, Option.bind_some, Bool.not_true, Bool.not_false, if_true, if_false, Bool.false_eq_true, ite_true, ite_false, ite_self, decide_true, decide_false, Nat.zero_le, reduceCtorEq, andE_eq, andK_bl, orE_eq, orK_bl, asB_eq, asK_bl, Option.map_some, sz1, sz2, sz3, sz4, cst1, cst2, cst3]
    rw [append_ok (n := st.length) (xs := []) (x := toD p) rfl at_new rfl at_new (by decide)]
    simp only [funD, funX, funK, env0, retS, retN, exprS, setS, seqS, ifS, asgS, parS, nxS, raiseS, varE, cE, op2, andT, orT, notT, notE, ifE, nilA, consA, tupE, lstE, asDs_nil, asDs_cons, asDs_map, callE, callX, bltE, one, truE, sliceE, noO, someO, nameG, tupG, consG, nilG, okIf, negE, bindR_ok, bindR_exc, bindR_err, bindS_ok, bindS_exc, bindS_err, seqR_nx, seqR_ret, seqR_exc, seqR_brk, seqR_cnt, seqR_err, noX_ok, fin_nx, fin_d, fin_exc, fin_scr, eq_str, ne_str, eq_int, ne_int, List.map_cons, List.map_nil, List.cons_append, List.nil_append, List.getElem?_cons_zero, List.getElem?_cons_succ, List.length_cons, List.length_nil, Nat.reduceAdd, Nat.reduceSub, List.replicate_zero, List.replicate_succ, List.set_cons_zero, List.set_cons_succ, List.take_length, Option.bind_some, Bool.not_true, Bool.not_false, if_true, if_false, Bool.false_eq_true, ite_true, ite_false, ite_self, decide_true, decide_false, Nat.zero_le, reduceCtorEq, andE_eq, andK_bl, orE_eq, orK_bl, asB_eq, asK_bl, Option.map_some, sz1, sz2, sz3, sz4, cst1, cst2, cst3, set_new, whileS]
    have r := run 40 [p] b (some (.d (toD p))) (by simp)
    cases hw : inW (PA n) t 40 [p] b with
    | err =>
      rw [hw] at r
      simp only [List.map_cons, List.map_nil] at r
      rw [r]
      simp only [funD, funX, funK, env0, retS, retN, exprS, setS, seqS, ifS, asgS, parS, nxS, raiseS, varE, cE, op2, andT, orT, notT, notE, ifE, nilA, consA, tupE, lstE, asDs_nil, asDs_cons, asDs_map, callE, callX, bltE, one, truE, sliceE, noO, someO, nameG, tupG, consG, nilG, okIf, negE, bindR_ok, bindR_exc, bindR_err, bindS_ok, bindS_exc, bindS_err, seqR_nx, seqR_ret, seqR_exc, seqR_brk, seqR_cnt, seqR_err, noX_ok, fin_nx, fin_d, fin_exc, fin_scr, eq_str, ne_str, eq_int, ne_int, List.map_cons, List.map_nil, List.cons_append, List.nil_append, List.getElem?_cons_zero, List.getElem?_cons_succ, List.length_cons, List.length_nil, Nat.reduceAdd, Nat.reduceSub, List.replicate_zero, List.replicate_succ, List.set_cons_zero, List.set_cons_succ, List.take_length, Option.bind_some, Bool.not_true, Bool.not_false, if_true, if_false, Bool.false_eq_true, ite_true, ite_false, ite_self, decide_true, decide_false, Nat.zero_le, reduceCtorEq, andE_eq, andK_bl, orE_eq, orK_bl, asB_eq, asK_bl, Option.map_some, sz1, sz2, sz3, sz4, cst1, cst2, cst3]
      rfl
    | bad a =>
      rw [hw] at r
      obtain ⟨ρ, c, r⟩ := r
      simp only [List.map_cons, List.map_nil] at r
      rw [r]
      simp only [funD, funX, funK, env0, retS, retN, exprS, setS, seqS, ifS, asgS, parS, nxS, raiseS, varE, cE, op2, andT, orT, notT, notE, ifE, nilA, consA, tupE, lstE, asDs_nil, asDs_cons, asDs_map, callE, callX, bltE, one, truE, sliceE, noO, someO, nameG, tupG, consG, nilG, okIf, negE, bindR_ok, bindR_exc, bindR_err, bindS_ok, bindS_exc, bindS_err, seqR_nx, seqR_ret, seqR_exc, seqR_brk, seqR_cnt, seqR_err, noX_ok, fin_nx, fin_d, fin_exc, fin_scr, eq_str, ne_str, eq_int, ne_int, List.map_cons, List.map_nil, List.cons_append, List.nil_append, List.getElem?_cons_zero, List.getElem?_cons_succ, List.length_cons, List.length_nil, Nat.reduceAdd, Nat.reduceSub, List.replicate_zero, List.replicate_succ, List.set_cons_zero, List.set_cons_succ, List.take_length, Option.bind_some, Bool.not_true, Bool.not_false, if_true, if_false, Bool.false_eq_true, ite_true, ite_false, ite_self, decide_true, decide_false, Nat.zero_le, reduceCtorEq, andE_eq, andK_bl, orE_eq, orK_bl, asB_eq, asK_bl, Option.map_some, sz1, sz2, sz3, sz4, cst1, cst2, cst3, List.take_left, toR, dTup]
    | done ps c =>
      rw [hw] at r
      obtain ⟨x, r⟩ := r
      simp only [List.map_cons, List.map_nil] at r
      rw [r]
      simp only [funD, funX, funK, env0, retS, retN, exprS, setS, seqS, ifS, asgS, parS, nxS, raiseS, varE, cE, op2, andT, orT, notT, notE, ifE, nilA, consA, tupE, lstE, asDs_nil, asDs_cons, asDs_map, callE, callX, bltE, one, truE, sliceE, noO, someO, nameG, tupG, consG, nilG, okIf, negE, bindR_ok, bindR_exc, bindR_err, bindS_ok, bindS_exc, bindS_err, seqR_nx, seqR_ret, seqR_exc, seqR_brk, seqR_cnt, seqR_err, noX_ok, fin_nx, fin_d, fin_exc, fin_scr, eq_str, ne_str, eq_int, ne_int, List.map_cons, List.map_nil, List.cons_append, List.nil_append, List.getElem?_cons_zero, List.getElem?_cons_succ, List.length_cons, List.length_nil, Nat.reduceAdd, Nat.reduceSub, List.replicate_zero, List.replicate_succ, List.set_cons_zero, List.set_cons_succ, List.take_length, Option.bind_some, Bool.not_true, Bool.not_false, if_true, if_false, Bool.false_eq_true, ite_true, ite_false, ite_self, decide_true, decide_false, Nat.zero_le, reduceCtorEq, andE_eq, andK_bl, orE_eq, orK_bl, asB_eq, asK_bl, Option.map_some, sz1, sz2, sz3, sz4, cst1, cst2, cst3, sl1 ht, S_inj, add_int, eint]
      by_cases h3 : sg t c = [41]
      · simp only [h3, decide_true, Bool.not_true, Bool.false_eq_true, if_false, add_int, eint, funD, funX, funK, env0, retS, retN, exprS, setS, seqS, ifS, asgS, parS, nxS, raiseS, varE, cE, op2, andT, orT, notT, notE, ifE, nilA, consA, tupE, lstE, asDs_nil, asDs_cons, asDs_map, callE, callX, bltE, one, truE, sliceE, noO, someO, nameG, tupG, consG, nilG, okIf, negE, bindR_ok, bindR_exc, bindR_err, bindS_ok, bindS_exc, bindS_err, seqR_nx, seqR_ret, seqR_exc, seqR_brk, seqR_cnt, seqR_err, noX_ok, fin_nx, fin_d, fin_exc, fin_scr, eq_str, ne_str, eq_int, ne_int, List.map_cons, List.map_nil, List.cons_append, List.nil_append, List.getElem?_cons_zero, List.getElem?_cons_succ, List.length_cons, List.length_nil, Nat.reduceAdd, Nat.reduceSub, List.replicate_zero, List.replicate_succ, List.set_cons_zero, List.set_cons_succ, List.take_length, Option.bind_some, Bool.not_true, Bool.not_false, if_true, if_false, Bool.false_eq_true, ite_true, ite_false, ite_self, decide_true, decide_false, Nat.zero_le, reduceCtorEq, andE_eq, andK_bl, orE_eq, orK_bl, asB_eq, asK_bl, Option.map_some, sz1, sz2, sz3, sz4, cst1, cst2, cst3]
        rw [tuple_ref at_new]
        simp only [funD, funX, funK, env0, retS, retN, exprS, setS, seqS, ifS, asgS, parS, nxS, raiseS, varE, cE, op2, andT, orT, notT, notE, ifE, nilA, consA, tupE, lstE, asDs_nil, asDs_cons, asDs_map, callE, callX, bltE, one, truE, sliceE, noO, someO, nameG, tupG, consG, nilG, okIf, negE, bindR_ok, bindR_exc, bindR_err, bindS_ok, bindS_exc, bindS_err, seqR_nx, seqR_ret, seqR_exc, seqR_brk, seqR_cnt, seqR_err, noX_ok, fin_nx, fin_d, fin_exc, fin_scr, eq_str, ne_str, eq_int, ne_int, List.map_cons, List.map_nil, List.cons_append, List.nil_append, List.getElem?_cons_zero, List.getElem?_cons_succ, List.length_cons, List.length_nil, Nat.reduceAdd, Nat.reduceSub, List.replicate_zero, List.replicate_succ, List.set_cons_zero, List.set_cons_succ, List.take_length, Option.bind_some, Bool.not_true, Bool.not_false, if_true, if_false, Bool.false_eq_true, ite_true, ite_false, ite_self, decide_true, decide_false, Nat.zero_le, reduceCtorEq, andE_eq, andK_bl, orE_eq, orK_bl, asB_eq, asK_bl, Option.map_some, sz1, sz2, sz3, sz4, cst1, cst2, cst3, add_int, eint, List.take_left, toR, dTup]
      · simp only [h3, decide_false, Bool.not_false, if_true, if_false, funD, funX, funK, env0, retS, retN, exprS, setS, seqS, ifS, asgS, parS, nxS, raiseS, varE, cE, op2, andT, orT, notT, notE, ifE, nilA, consA, tupE, lstE, asDs_nil, asDs_cons, asDs_map, callE, callX, bltE, one, truE, sliceE, noO, someO, nameG, tupG, consG, nilG, okIf, negE, bindR_ok, bindR_exc, bindR_err, bindS_ok, bindS_exc, bindS_err, seqR_nx, seqR_ret, seqR_exc, seqR_brk, seqR_cnt, seqR_err, noX_ok, fin_nx, fin_d, fin_exc, fin_scr, eq_str, ne_str, eq_int, ne_int, List.map_cons, List.map_nil, List.cons_append, List.nil_append, List.getElem?_cons_zero, List.getElem?_cons_succ, List.length_cons, List.length_nil, Nat.reduceAdd, Nat.reduceSub, List.replicate_zero, List.replicate_succ, List.set_cons_zero, List.set_cons_succ, List.take_length, Option.bind_some, Bool.not_true, Bool.not_false, if_true, if_false, Bool.false_eq_true, ite_true, ite_false, ite_self, decide_true, decide_false, Nat.zero_le, reduceCtorEq, andE_eq, andK_bl, orE_eq, orK_bl, asB_eq, asK_bl, Option.map_some, sz1, sz2, sz3, sz4, cst1, cst2, cst3, List.take_left, toR, dTup]
theorem f_part {n : Nat} {F : List Val → Store → R Val} (ht : t.length ≤ sizeLine) (hF : ∀ (k : Nat) (st : Store), F [.d (.str (S t)), .d (.int k)] st = toR dTup (IP n t k) st) (k : Nat) (st : Store) : funX N_part_at.length (g_part_at F) [.d (.str (S t)), .d (.int k)] st = toR toD (partP (IP n) t k) st := by
  unfold partP
  simp only [g_part_at, N_part_at, add_int, sl1 ht, c_star, c_quote, c_bang, S_inj, eint, funD, funX, funK, env0, retS, retN, exprS, setS, seqS, ifS, asgS, parS, nxS, raiseS, varE, cE, op2, andT, orT, notT, notE, ifE, nilA, consA, tupE, lstE, asDs_nil, asDs_cons, asDs_map, callE, callX, bltE, one, truE, sliceE, noO, someO, nameG, tupG, consG, nilG, okIf, negE, bindR_ok, bindR_exc, bindR_err, bindS_ok, bindS_exc, bindS_err, seqR_nx, seqR_ret, seqR_exc, seqR_brk, seqR_cnt, seqR_err, noX_ok, fin_nx, fin_d, fin_exc, fin_scr, eq_str, ne_str, eq_int, ne_int, List.map_cons, List.map_nil, List.cons_append, List.nil_append, List.getElem?_cons_zero, List.getElem?_cons_succ, List.length_cons, List.length_nil, Nat.reduceAdd, Nat.reduceSub, List.replicate_zero, List.replicate_succ, List.set_cons_zero, List.set_cons_succ, List.take_length, Option.bind_some, Bool.not_true, Bool.not_false, if_true, if_false, Bool.false_eq_true, ite_true, ite_false, ite_self, decide_true, decide_false, Nat.zero_le, reduceCtorEq, andE_eq, andK_bl, orE_eq, orK_bl, asB_eq, asK_bl, Option.map_some, sz1, sz2, sz3, sz4, cst1, cst2, cst3]
  by_cases h : sg t k = [42]
  · simp only [h, if_true, decide_true, add_int, eint, toR, toD, funD, funX, funK, env0, retS, retN, exprS, setS, seqS, ifS, asgS, parS, nxS, raiseS, varE, cE, op2, andT, orT, notT, notE, ifE, nilA, consA, tupE, lstE, asDs_nil, asDs_cons, asDs_map, callE, callX, bltE, one, truE, sliceE, noO, someO, nameG, tupG, consG, nilG, okIf, negE, bindR_ok, bindR_exc, bindR_err, bindS_ok, bindS_exc, bindS_err, seqR_nx, seqR_ret, seqR_exc, seqR_brk, seqR_cnt, seqR_err, noX_ok, fin_nx, fin_d, fin_exc, fin_scr, eq_str, ne_str, eq_int, ne_int, List.map_cons, List.map_nil, List.cons_append, List.nil_append, List.getElem?_cons_zero, List.getElem?_cons_succ, List.length_cons, List.length_nil, Nat.reduceAdd, Nat.reduceSub, List.replicate_zero, List.replicate_succ, List.set_cons_zero, List.set_cons_succ, List.take_length, Option.bind_some, Bool.not_true, Bool.not_false, if_true, if_false, Bool.false_eq_true, ite_true, ite_false, ite_self, decide_true, decide_false, Nat.zero_le, reduceCtorEq, andE_eq, andK_bl, orE_eq, orK_bl, asB_eq, asK_bl, Option.map_some, sz1, sz2, sz3, sz4, cst1, cst2, cst3]
  simp only [h, if_false, decide_false, Bool.false_eq_true, funD, funX, funK, env0, retS, retN, exprS, setS, seqS, ifS, asgS, parS, nxS, raiseS, varE, cE, op2, andT, orT, notT, notE, ifE, nilA, consA, tupE, lstE, asDs_nil, asDs_cons, asDs_map, callE, callX, bltE, one, truE, sliceE, noO, someO, nameG, tupG, consG, nilG, okIf, negE, bindR_ok, bindR_exc, bindR_err, bindS_ok, bindS_exc, bindS_err, seqR_nx, seqR_ret, seqR_exc, seqR_brk, seqR_cnt, seqR_err, noX_ok, fin_nx, fin_d, fin_exc, fin_scr, eq_str, ne_str, eq_int, ne_int, List.map_cons, List.map_nil, List.cons_append, List.nil_append, List.getElem?_cons_zero, List.getElem?_cons_succ, List.length_cons, List.length_nil, Nat.reduceAdd, Nat.reduceSub, List.replicate_zero, List.replicate_succ, List.set_cons_zero, List.set_cons_succ, List.take_length, Option.bind_some, Bool.not_true, Bool.not_false, if_true, if_false, Bool.false_eq_true, ite_true, ite_false, ite_self, decide_true, decide_false, Nat.zero_le, reduceCtorEq, andE_eq, andK_bl, orE_eq, orK_bl, asB_eq, asK_bl, Option.map_some, sz1, sz2, sz3, sz4, cst1, cst2, cst3]
  by_cases h2 : sg t k = [34]
  · simp only [h2, if_true, decide_true, tmAE, findV, c_quote, add_int, eint, find_S, lt_int, funD, funX, funK, env0, retS, retN, exprS, setS, seqS, ifS, asgS, parS, nxS, raiseS, varE, cE, op2, andT, orT, notT, notE, ifE, nilA, consA, tupE, lstE, asDs_nil, asDs_cons, asDs_map, callE, callX, bltE, one, truE, sliceE, noO, someO, nameG, tupG, consG, nilG, okIf, negE, bindR_ok, bindR_exc, bindR_err, bindS_ok, bindS_exc, bindS_err, seqR_nx, seqR_ret, seqR_exc, seqR_brk, seqR_cnt, seqR_err, noX_ok, fin_nx, fin_d, fin_exc, fin_scr, eq_str, ne_str, eq_int, ne_int, List.map_cons, List.map_nil, List.cons_append, List.nil_append, List.getElem?_cons_zero, List.getElem?_cons_succ, List.length_cons, List.length_nil, Nat.reduceAdd, Nat.reduceSub, List.replicate_zero, List.replicate_succ, List.set_cons_zero, List.set_cons_succ, List.take_length, Option.bind_some, Bool.not_true, Bool.not_false, if_true, if_false, Bool.false_eq_true, ite_true, ite_false, ite_self, decide_true, decide_false, Nat.zero_le, reduceCtorEq, andE_eq, andK_bl, orE_eq, orK_bl, asB_eq, asK_bl, Option.map_some, sz1, sz2, sz3, sz4, cst1, cst2, cst3]
    cases fnd t (k + 1) with
    | none =>
      rw [if_pos (by decide)]
      simp only [toR, funD, funX, funK, env0, retS, retN, exprS, setS, seqS, ifS, asgS, parS, nxS, raiseS, varE, cE, op2, andT, orT, notT, notE, ifE, nilA, consA, tupE, lstE, asDs_nil, asDs_cons, asDs_map, callE, callX, bltE, one, truE, sliceE, noO, someO, nameG, tupG, consG, nilG, okIf, negE, bindR_ok, bindR_exc, bindR_err, bindS_ok, bindS_exc, bindS_err, seqR_nx, seqR_ret, seqR_exc, seqR_brk, seqR_cnt, seqR_err, noX_ok, fin_nx, fin_d, fin_exc, fin_scr, eq_str, ne_str, eq_int, ne_int, List.map_cons, List.map_nil, List.cons_append, List.nil_append, List.getElem?_cons_zero, List.getElem?_cons_succ, List.length_cons, List.length_nil, Nat.reduceAdd, Nat.reduceSub, List.replicate_zero, List.replicate_succ, List.set_cons_zero, List.set_cons_succ, List.take_length, Option.bind_some, Bool.not_true, Bool.not_false, if_true, if_false, Bool.false_eq_true, ite_true, ite_false, ite_self, decide_true, decide_false, Nat.zero_le, reduceCtorEq, andE_eq, andK_bl, orE_eq, orK_bl, asB_eq, asK_bl, Option.map_some, sz1, sz2, sz3, sz4, cst1, cst2, cst3]
    | some e =>
      rw [if_neg (by simp)]
      simp only [add_int, eint, sl_S ht, cut, toR, toD, funD, funX, funK, env0, retS, retN, exprS, setS, seqS, ifS, asgS, parS, nxS, raiseS, varE, cE, op2, andT, orT, notT, notE, ifE, nilA, consA, tupE, lstE, asDs_nil, asDs_cons, asDs_map, callE, callX, bltE, one, truE, sliceE, noO, someO, nameG, tupG, consG, nilG, okIf, negE, bindR_ok, bindR_exc, bindR_err, bindS_ok, bindS_exc, bindS_err, seqR_nx, seqR_ret, seqR_exc, seqR_brk, seqR_cnt, seqR_err, noX_ok, fin_nx, fin_d, fin_exc, fin_scr, eq_str, ne_str, eq_int, ne_int, List.map_cons, List.map_nil, List.cons_append, List.nil_append, List.getElem?_cons_zero, List.getElem?_cons_succ, List.length_cons, List.length_nil, Nat.reduceAdd, Nat.reduceSub, List.replicate_zero, List.replicate_succ, List.set_cons_zero, List.set_cons_succ, List.take_length, Option.bind_some, Bool.not_true, Bool.not_false, if_true, if_false, Bool.false_eq_true, ite_true, ite_false, ite_self, decide_true, decide_false, Nat.zero_le, reduceCtorEq, andE_eq, andK_bl, orE_eq, orK_bl, asB_eq, asK_bl, Option.map_some, sz1, sz2, sz3, sz4, cst1, cst2, cst3]
  simp only [h2, if_false, decide_false, Bool.false_eq_true, funD, funX, funK, env0, retS, retN, exprS, setS, seqS, ifS, asgS, parS, nxS, raiseS, varE, cE, op2, andT, orT, notT, notE, ifE, nilA, consA, tupE, lstE, asDs_nil, asDs_cons, asDs_map, callE, callX, bltE, one, truE, sliceE, noO, someO, nameG, tupG, consG, nilG, okIf, negE, bindR_ok, bindR_exc, bindR_err, bindS_ok, bindS_exc, bindS_err, seqR_nx, seqR_ret, seqR_exc, seqR_brk, seqR_cnt, seqR_err, noX_ok, fin_nx, fin_d, fin_exc, fin_scr, eq_str, ne_str, eq_int, ne_int, List.map_cons, List.map_nil, List.cons_append, List.nil_append, List.getElem?_cons_zero, List.getElem?_cons_succ, List.length_cons, List.length_nil, Nat.reduceAdd, Nat.reduceSub, List.replicate_zero, List.replicate_succ, List.set_cons_zero, List.set_cons_succ, List.take_length, Option.bind_some, Bool.not_true, Bool.not_false, if_true, if_false, Bool.false_eq_true, ite_true, ite_false, ite_self, decide_true, decide_false, Nat.zero_le, reduceCtorEq, andE_eq, andK_bl, orE_eq, orK_bl, asB_eq, asK_bl, Option.map_some, sz1, sz2, sz3, sz4, cst1, cst2, cst3]
  by_cases h3 : sg t k = [33]
  · have n33 : (([33] : T) = [34]) = False := eq_false (by decide)
    simp only [h3, S_inj, n33, if_true, decide_true, add_int, eint, f_letters_end ht, funD, funX, funK, env0, retS, retN, exprS, setS, seqS, ifS, asgS, parS, nxS, raiseS, varE, cE, op2, andT, orT, notT, notE, ifE, nilA, consA, tupE, lstE, asDs_nil, asDs_cons, asDs_map, callE, callX, bltE, one, truE, sliceE, noO, someO, nameG, tupG, consG, nilG, okIf, negE, bindR_ok, bindR_exc, bindR_err, bindS_ok, bindS_exc, bindS_err, seqR_nx, seqR_ret, seqR_exc, seqR_brk, seqR_cnt, seqR_err, noX_ok, fin_nx, fin_d, fin_exc, fin_scr, eq_str, ne_str, eq_int, ne_int, List.map_cons, List.map_nil, List.cons_append, List.nil_append, List.getElem?_cons_zero, List.getElem?_cons_succ, List.length_cons, List.length_nil, Nat.reduceAdd, Nat.reduceSub, List.replicate_zero, List.replicate_succ, List.set_cons_zero, List.set_cons_succ, List.take_length, Option.bind_some, Bool.not_true, Bool.not_false, if_true, if_false, Bool.false_eq_true, ite_true, ite_false, ite_self, decide_true, decide_false, Nat.zero_le, reduceCtorEq, andE_eq, andK_bl, orE_eq, orK_bl, asB_eq, asK_bl, Option.map_some, sz1, sz2, sz3, sz4, cst1, cst2, cst3]
    cases lend t 40 (k + 1) with
    | none => simp only [funD, funX, funK, env0, retS, retN, exprS, setS, seqS, ifS, asgS, parS, nxS, raiseS, varE, cE, op2, andT, orT, notT, notE, ifE, nilA, consA, tupE, lstE, asDs_nil, asDs_cons, asDs_map, callE, callX, bltE, one, truE, sliceE, noO, someO, nameG, tupG, consG, nilG, okIf, negE, bindR_ok, bindR_exc, bindR_err, bindS_ok, bindS_exc, bindS_err, seqR_nx, seqR_ret, seqR_exc, seqR_brk, seqR_cnt, seqR_err, noX_ok, fin_nx, fin_d, fin_exc, fin_scr, eq_str, ne_str, eq_int, ne_int, List.map_cons, List.map_nil, List.cons_append, List.nil_append, List.getElem?_cons_zero, List.getElem?_cons_succ, List.length_cons, List.length_nil, Nat.reduceAdd, Nat.reduceSub, List.replicate_zero, List.replicate_succ, List.set_cons_zero, List.set_cons_succ, List.take_length, Option.bind_some, Bool.not_true, Bool.not_false, if_true, if_false, Bool.false_eq_true, ite_true, ite_false, ite_self, decide_true, decide_false, Nat.zero_le, reduceCtorEq, andE_eq, andK_bl, orE_eq, orK_bl, asB_eq, asK_bl, Option.map_some, sz1, sz2, sz3, sz4, cst1, cst2, cst3]; rfl
    | some e =>
      simp only [funD, funX, funK, env0, retS, retN, exprS, setS, seqS, ifS, asgS, parS, nxS, raiseS, varE, cE, op2, andT, orT, notT, notE, ifE, nilA, consA, tupE, lstE, asDs_nil, asDs_cons, asDs_map, callE, callX, bltE, one, truE, sliceE, noO, someO, nameG, tupG, consG, nilG, okIf, negE, bindR_ok, bindR_exc, bindR_err, bindS_ok, bindS_exc, bindS_err, seqR_nx, seqR_ret, seqR_exc, seqR_brk, seqR_cnt, seqR_err, noX_ok, fin_nx, fin_d, fin_exc, fin_scr, eq_str, ne_str, eq_int, ne_int, List.map_cons, List.map_nil, List.cons_append, List.nil_append, List.getElem?_cons_zero, List.getElem?_cons_succ, List.length_cons, List.length_nil, Nat.reduceAdd, Nat.reduceSub, List.replicate_zero, List.replicate_succ, List.set_cons_zero, List.set_cons_succ, List.take_length, Option.bind_some, Bool.not_true, Bool.not_false, if_true, if_false, Bool.false_eq_true, ite_true, ite_false, ite_self, decide_true, decide_false, Nat.zero_le, reduceCtorEq, andE_eq, andK_bl, orE_eq, orK_bl, asB_eq, asK_bl, Option.map_some, sz1, sz2, sz3, sz4, cst1, cst2, cst3, add_int, eint, sl_S ht, toR, toD, cut]
  simp only [h2, h3, S_inj, if_false, decide_false, Bool.false_eq_true, f_letters_end ht, funD, funX, funK, env0, retS, retN, exprS, setS, seqS, ifS, asgS, parS, nxS, raiseS, varE, cE, op2, andT, orT, notT, notE, ifE, nilA, consA, tupE, lstE, asDs_nil, asDs_cons, asDs_map, callE, callX, bltE, one, truE, sliceE, noO, someO, nameG, tupG, consG, nilG, okIf, negE, bindR_ok, bindR_exc, bindR_err, bindS_ok, bindS_exc, bindS_err, seqR_nx, seqR_ret, seqR_exc, seqR_brk, seqR_cnt, seqR_err, noX_ok, fin_nx, fin_d, fin_exc, fin_scr, eq_str, ne_str, eq_int, ne_int, List.map_cons, List.map_nil, List.cons_append, List.nil_append, List.getElem?_cons_zero, List.getElem?_cons_succ, List.length_cons, List.length_nil, Nat.reduceAdd, Nat.reduceSub, List.replicate_zero, List.replicate_succ, List.set_cons_zero, List.set_cons_succ, List.take_length, Option.bind_some, Bool.not_true, Bool.not_false, if_true, if_false, Bool.false_eq_true, ite_true, ite_false, ite_self, decide_true, decide_false, Nat.zero_le, reduceCtorEq, andE_eq, andK_bl, orE_eq, orK_bl, asB_eq, asK_bl, Option.map_some, sz1, sz2, sz3, sz4, cst1, cst2, cst3]
  cases he : lend t 40 k with
  | none => simp only [funD, funX, funK, env0, retS, retN, exprS, setS, seqS, ifS, asgS, parS, nxS, raiseS, varE, cE, op2, andT, orT, notT, notE, ifE, nilA, consA, tupE, lstE, asDs_nil, asDs_cons, asDs_map, callE, callX, bltE, one, truE, sliceE, noO, someO, nameG, tupG, consG, nilG, okIf, negE, bindR_ok, bindR_exc, bindR_err, bindS_ok, bindS_exc, bindS_err, seqR_nx, seqR_ret, seqR_exc, seqR_brk, seqR_cnt, seqR_err, noX_ok, fin_nx, fin_d, fin_exc, fin_scr, eq_str, ne_str, eq_int, ne_int, List.map_cons, List.map_nil, List.cons_append, List.nil_append, List.getElem?_cons_zero, List.getElem?_cons_succ, List.length_cons, List.length_nil, Nat.reduceAdd, Nat.reduceSub, List.replicate_zero, List.replicate_succ, List.set_cons_zero, List.set_cons_succ, List.take_length, Option.bind_some, Bool.not_true, Bool.not_false, if_true, if_false, Bool.false_eq_true, ite_true, ite_false, ite_self, decide_true, decide_false, Nat.zero_le, reduceCtorEq, andE_eq, andK_bl, orE_eq, orK_bl, asB_eq, asK_bl, Option.map_some, sz1, sz2, sz3, sz4, cst1, cst2, cst3]; rfl
  | some e =>
    simp only [hF, funD, funX, funK, env0, retS, retN, exprS, setS, seqS, ifS, asgS, parS, nxS, raiseS, varE, cE, op2, andT, orT, notT, notE, ifE, nilA, consA, tupE, lstE, asDs_nil, asDs_cons, asDs_map, callE, callX, bltE, one, truE, sliceE, noO, someO, nameG, tupG, consG, nilG, okIf, negE, bindR_ok, bindR_exc, bindR_err, bindS_ok, bindS_exc, bindS_err, seqR_nx, seqR_ret, seqR_exc, seqR_brk, seqR_cnt, seqR_err, noX_ok, fin_nx, fin_d, fin_exc, fin_scr, eq_str, ne_str, eq_int, ne_int, List.map_cons, List.map_nil, List.cons_append, List.nil_append, List.getElem?_cons_zero, List.getElem?_cons_succ, List.length_cons, List.length_nil, Nat.reduceAdd, Nat.reduceSub, List.replicate_zero, List.replicate_succ, List.set_cons_zero, List.set_cons_succ, List.take_length, Option.bind_some, Bool.not_true, Bool.not_false, if_true, if_false, Bool.false_eq_true, ite_true, ite_false, ite_self, decide_true, decide_false, Nat.zero_le, reduceCtorEq, andE_eq, andK_bl, orE_eq, orK_bl, asB_eq, asK_bl, Option.map_some, sz1, sz2, sz3, sz4, cst1, cst2, cst3]
    cases IP n t e with
    | err => simp only [toR, funD, funX, funK, env0, retS, retN, exprS, setS, seqS, ifS, asgS, parS, nxS, raiseS, varE, cE, op2, andT, orT, notT, notE, ifE, nilA, consA, tupE, lstE, asDs_nil, asDs_cons, asDs_map, callE, callX, bltE, one, truE, sliceE, noO, someO, nameG, tupG, consG, nilG, okIf, negE, bindR_ok, bindR_exc, bindR_err, bindS_ok, bindS_exc, bindS_err, seqR_nx, seqR_ret, seqR_exc, seqR_brk, seqR_cnt, seqR_err, noX_ok, fin_nx, fin_d, fin_exc, fin_scr, eq_str, ne_str, eq_int, ne_int, List.map_cons, List.map_nil, List.cons_append, List.nil_append, List.getElem?_cons_zero, List.getElem?_cons_succ, List.length_cons, List.length_nil, Nat.reduceAdd, Nat.reduceSub, List.replicate_zero, List.replicate_succ, List.set_cons_zero, List.set_cons_succ, List.take_length, Option.bind_some, Bool.not_true, Bool.not_false, if_true, if_false, Bool.false_eq_true, ite_true, ite_false, ite_self, decide_true, decide_false, Nat.zero_le, reduceCtorEq, andE_eq, andK_bl, orE_eq, orK_bl, asB_eq, asK_bl, Option.map_some, sz1, sz2, sz3, sz4, cst1, cst2, cst3]; rfl
    | bad a => simp only [toR, funD, funX, funK, env0, retS, retN, exprS, setS, seqS, ifS, asgS, parS, nxS, raiseS, varE, cE, op2, andT, orT, notT, notE, ifE, nilA, consA, tupE, lstE, asDs_nil, asDs_cons, asDs_map, callE, callX, bltE, one, truE, sliceE, noO, someO, nameG, tupG, consG, nilG, okIf, negE, bindR_ok, bindR_exc, bindR_err, bindS_ok, bindS_exc, bindS_err, seqR_nx, seqR_ret, seqR_exc, seqR_brk, seqR_cnt, seqR_err, noX_ok, fin_nx, fin_d, fin_exc, fin_scr, eq_str, ne_str, eq_int, ne_int, List.map_cons, List.map_nil, List.cons_append, List.nil_append, List.getElem?_cons_zero, List.getElem?_cons_succ, List.length_cons, List.length_nil, Nat.reduceAdd, Nat.reduceSub, List.replicate_zero, List.replicate_succ, List.set_cons_zero, List.set_cons_succ, List.take_length, Option.bind_some, Bool.not_true, Bool.not_false, if_true, if_false, Bool.false_eq_true, ite_true, ite_false, ite_self, decide_true, decide_false, Nat.zero_le, reduceCtorEq, andE_eq, andK_bl, orE_eq, orK_bl, asB_eq, asK_bl, Option.map_some, sz1, sz2, sz3, sz4, cst1, cst2, cst3]
    | ok p b => simp only [toR, toD, dTup, toDs_map, sl_S ht, cut, funD, funX, funK, env0, retS, retN, exprS, setS, seqS, ifS, asgS, parS, nxS, raiseS, varE, cE, op2, andT, orT, notT, notE, ifE, nilA, consA, tupE, lstE, asDs_nil, asDs_cons, asDs_map, callE, callX, bltE, one, truE, sliceE, noO, someO, nameG, tupG, consG, nilG, okIf, negE, bindR_ok, bindR_exc, bindR_err, bindS_ok, bindS_exc, bindS_err, seqR_nx, seqR_ret, seqR_exc, seqR_brk, seqR_cnt, seqR_err, noX_ok, fin_nx, fin_d, fin_exc, fin_scr, eq_str, ne_str, eq_int, ne_int, List.map_cons, List.map_nil, List.cons_append, List.nil_append, List.getElem?_cons_zero, List.getElem?_cons_succ, List.length_cons, List.length_nil, Nat.reduceAdd, Nat.reduceSub, List.replicate_zero, List.replicate_succ, List.set_cons_zero, List.set_cons_succ, List.take_length, Option.bind_some, Bool.not_true, Bool.not_false, if_true, if_false, Bool.false_eq_true, ite_true, ite_false, ite_self, decide_true, decide_false, Nat.zero_le, reduceCtorEq, andE_eq, andK_bl, orE_eq, orK_bl, asB_eq, asK_bl, Option.map_some, sz1, sz2, sz3, sz4, cst1, cst2, cst3]
theorem f_both (ht : t.length ≤ sizeLine) : ∀ (n : Nat), (∀ (k : Nat) (st : Store), F_inner_parts n [.d (.str (S t)), .d (.int k)] st = toR dTup (IP n t k) st) ∧ (∀ (k : Nat) (st : Store), F_part_at n [.d (.str (S t)), .d (.int k)] st = toR toD (PA n t k) st)
  | 0 => ⟨fun _ _ => rfl, fun _ _ => rfl⟩
  | n + 1 => ⟨fun k st => f_inner ht (f_both ht n).2 k st, fun k st => f_part ht (f_both ht n).1 k st⟩
end
end K50
end

section
set_option Elab.async false
set_option linter.all false
set_option autoImplicit false
set_option maxRecDepth 100000
set_option maxHeartbeats 4000000
/-! KP3: is_name, is_text, is_letter, is_piece, is_rule as plain functions. -/
namespace DL
open PySem
theorem lc_map {g : SG} {f : SE} {ρ0 : Env} {st : Store} {h : Val → D} : ∀ (xs : List Val) (acc : List D), (∀ x ∈ xs, ∃ ρ1, g x ρ0 = some ρ1 ∧ f ρ1 st = .ok (.d (h x)) st) → acc.length + xs.length ≤ sizeLine → lcL g yesT f ρ0 xs acc st = .ok (acc ++ xs.map h) st
  | [], acc, _, _ => by simp [lcL]
  | x :: xs, acc, hx, hl => by
    obtain ⟨ρ1, e1, e2⟩ := hx x List.mem_cons_self
    have hl' : acc.length < sizeLine := by rw [List.length_cons] at hl; omega
    unfold lcL
    rw [e1]
    simp only [yesT, noX_ok, bindR_ok, if_true, e2, if_pos hl']
    rw [lc_map xs (acc ++ [h x]) (fun y hy => hx y (List.mem_cons_of_mem _ hy)) (by rw [List.length_append, List.length_singleton]; rw [List.length_cons] at hl; omega)]
    simp
theorem bools_map {α : Type} (h : α → Bool) : ∀ xs : List α, boolsOf (xs.map fun x => D.bl (h x)) = some (xs.map h)
  | [] => rfl
  | x :: xs => by
    show (boolsOf (xs.map fun x => D.bl (h x))).map (h x :: ·) = _
    rw [bools_map h xs]
    rfl
theorem all_lst {xs : List D} {bs : List Bool} {st : Store} (h : boolsOf xs = some bs) : allV true (.d (.lst xs)) st = .ok (.d (.bl (bs.all id))) st := by
  unfold allV
  show (match some xs with | some xs => (match boolsOf xs with | some bs => R.ok (Val.d (.bl (if true then bs.all id else bs.any id))) st | none => .err) | none => .err) = _
  simp only [h]
  rfl
theorem isi_str {f : SE} {ρ : Env} {st : Store} {z : Str} (h : f ρ st = .ok (.d (.str z)) st) : isiE K50.tab_str f ρ st = .ok (.d (.bl true)) st := isi_d h (show K50.tab_str (.b "str") = some true by decide +kernel)
end DL
namespace K50
open PySem DL
def letL : T := [97, 98, 99, 100, 101, 102, 103, 104, 105, 106, 107, 108, 109, 110, 111, 112, 113, 114, 115, 116, 117, 118, 119, 120, 121, 122]
def sgnL : T := letL ++ [48, 49, 50, 51, 52, 53, 54, 55, 56, 57, 32]
theorem cps_letters : ("abcdefghijklmnopqrstuvwxyz" : Str).cps.toList = letL := by decide +kernel
theorem cps_signs : ("abcdefghijklmnopqrstuvwxyz0123456789 " : Str).cps.toList = sgnL := by decide +kernel
theorem mem_letL (c : Nat) : decide (c ∈ letL) = small c := by
  unfold small letL
  by_cases h1 : 97 ≤ c
  · by_cases h2 : c ≤ 122
    · have : c ∈ ([97, 98, 99, 100, 101, 102, 103, 104, 105, 106, 107, 108, 109, 110, 111, 112, 113, 114, 115, 116, 117, 118, 119, 120, 121, 122] : T) := by simp; omega
      simp only [this, h1, h2, decide_true, Bool.and_self]
    · have : ¬ c ∈ ([97, 98, 99, 100, 101, 102, 103, 104, 105, 106, 107, 108, 109, 110, 111, 112, 113, 114, 115, 116, 117, 118, 119, 120, 121, 122] : T) := by simp; omega
      simp only [this, h1, h2, decide_true, decide_false, Bool.and_false]
  · have : ¬ c ∈ ([97, 98, 99, 100, 101, 102, 103, 104, 105, 106, 107, 108, 109, 110, 111, 112, 113, 114, 115, 116, 117, 118, 119, 120, 121, 122] : T) := by simp; omega
    simp only [this, h1, decide_true, decide_false, Bool.false_and]
def nameB (w : T) : Bool := decide (1 ≤ w.length) && decide (w.length ≤ 8) && w.all small
def textB (w : T) : Bool := decide (w.length ≤ 16) && w.all fun c => decide (c ∈ sgnL)
theorem in_sign (c : Nat) (z : Str) (st : Store) : inV false (.d (.str ⟨#[c]⟩)) (.d (.str z)) st = .ok (.d (.bl (decide (c ∈ z.cps.toList)))) st := rfl
/-- [sign in z for sign in w] -/
theorem lc_signs {w : T} {z : Str} (hl : w.length ≤ sizeLine) (ρ : DL.Env) (st : Store) (h0 : ρ[0]? = some (some (.d (.str (S w))))) (h1 : 1 < ρ.length) : lcE (seqI (varE 0)) (nameG 1) yesT (op2 (inV false) (varE 1) (cE (.str z))) [1] ρ st = .ok (.d (.lst (w.map fun c => .bl (decide (c ∈ z.cps.toList))))) st := by
  unfold lcE seqI
  have hv : varE 0 ρ st = .ok (.d (.str (S w))) st := by unfold varE; rw [h0]
  rw [hv]
  simp only [bindR_ok, itemsOf, S_cps]
  have e := lc_map (g := nameG 1) (f := op2 (inV false) (varE 1) (cE (.str z))) (ρ0 := DL.forget [1] ρ) (st := st) (h := fun v => match v with
    | .d (.str ⟨a⟩) => .bl (decide (a.toList.headD 0 ∈ z.cps.toList))
    | _ => .non) (w.map fun c => Val.d (.str ⟨#[c]⟩)) [] (fun x hx => by
      obtain ⟨c, _, rfl⟩ := List.mem_map.mp hx
      refine ⟨_, rfl, ?_⟩
      have hs : ((DL.forget [1] ρ).set 1 (some (Val.d (.str ⟨#[c]⟩))))[1]? = some (some (Val.d (.str ⟨#[c]⟩))) := List.getElem?_set_self (by simp [DL.forget, h1])
      simp only [op2, varE, hs, cE, bindR_ok, in_sign]
      rfl) (by simpa using hl)
  rw [e]
  simp only [bindR_ok, lcK, List.nil_append, List.map_map]
  rfl
theorem f_is_name {w : T} (hl : w.length ≤ sizeLine) (st : Store) : F_is_name [.d (.str (S w))] st = .ok (.d (.bl (nameB w))) st := by
  have e : (S w).length ≤ sizeLine := by rw [S_len]; exact hl
  have ch : ∀ ρ : DL.Env, ρ[0]? = some (some (Val.d (.str (S w)))) → chainE leV leV (cE (.int 1)) (bltE (one lenV) (consA (varE 0) nilA)) (cE (.int 8)) ρ st = .ok (.d (.bl (decide (1 ≤ w.length) && decide (w.length ≤ 8)))) st := fun ρ hρ => by
    have hv : bltE (one lenV) (consA (varE 0) nilA) ρ st = .ok (.d (.int w.length)) st := by
      simp only [bltE, one, consA, nilA, varE, hρ, bindR_ok, len_str e, S_len]
    rw [chain_bl (g := leV) rfl hv le_int]
    simp only [cE, bindR_ok, le_int]
    have q1 : decide ((1 : Int) ≤ (w.length : Int)) = decide (1 ≤ w.length) := by congr 1; exact propext (by omega)
    have q2 : decide ((w.length : Int) ≤ (8 : Int)) = decide (w.length ≤ 8) := by congr 1; exact propext (by omega)
    rw [q1, q2]
    cases decide (1 ≤ w.length) <;> simp
  have lc := lc_signs (z := ("abcdefghijklmnopqrstuvwxyz" : Str)) hl
  rw [cps_letters] at lc
  unfold F_is_name g_is_name
  simp only [N_is_name, funD, funX, funK, env0, retS, retN, exprS, setS, seqS, ifS, asgS, parS, nxS, raiseS, varE, cE, op2, andT, orT, notT, notE, ifE, nilA, consA, tupE, lstE, asDs_nil, asDs_cons, asDs_map, callE, callX, bltE, one, truE, sliceE, noO, someO, nameG, tupG, consG, nilG, okIf, negE, bindR_ok, bindR_exc, bindR_err, bindS_ok, bindS_exc, bindS_err, seqR_nx, seqR_ret, seqR_exc, seqR_brk, seqR_cnt, seqR_err, noX_ok, fin_nx, fin_d, fin_exc, fin_scr, eq_str, ne_str, eq_int, ne_int, List.map_cons, List.map_nil, List.cons_append, List.nil_append, List.getElem?_cons_zero, List.getElem?_cons_succ, List.length_cons, List.length_nil, Nat.reduceAdd, Nat.reduceSub, List.replicate_zero, List.replicate_succ, List.set_cons_zero, List.set_cons_succ, List.take_length, Option.bind_some, Bool.not_true, Bool.not_false, if_true, if_false, Bool.false_eq_true, ite_true, ite_false, ite_self, decide_true, decide_false, Nat.zero_le, reduceCtorEq, andE_eq, andK_bl, orE_eq, orK_bl, asB_eq, asK_bl, Option.map_some, sz1, sz2, sz3, sz4, cst1, cst2, cst3]
  rw [isi_str (z := S w) (by rfl)]
  simp only [funD, funX, funK, env0, retS, retN, exprS, setS, seqS, ifS, asgS, parS, nxS, raiseS, varE, cE, op2, andT, orT, notT, notE, ifE, nilA, consA, tupE, lstE, asDs_nil, asDs_cons, asDs_map, callE, callX, bltE, one, truE, sliceE, noO, someO, nameG, tupG, consG, nilG, okIf, negE, bindR_ok, bindR_exc, bindR_err, bindS_ok, bindS_exc, bindS_err, seqR_nx, seqR_ret, seqR_exc, seqR_brk, seqR_cnt, seqR_err, noX_ok, fin_nx, fin_d, fin_exc, fin_scr, eq_str, ne_str, eq_int, ne_int, List.map_cons, List.map_nil, List.cons_append, List.nil_append, List.getElem?_cons_zero, List.getElem?_cons_succ, List.length_cons, List.length_nil, Nat.reduceAdd, Nat.reduceSub, List.replicate_zero, List.replicate_succ, List.set_cons_zero, List.set_cons_succ, List.take_length, Option.bind_some, Bool.not_true, Bool.not_false, if_true, if_false, Bool.false_eq_true, ite_true, ite_false, ite_self, decide_true, decide_false, Nat.zero_le, reduceCtorEq, andE_eq, andK_bl, orE_eq, orK_bl, asB_eq, asK_bl, Option.map_some, sz1, sz2, sz3, sz4, cst1, cst2, cst3]
  rw [ch _ rfl]
  simp only [funD, funX, funK, env0, retS, retN, exprS, setS, seqS, ifS, asgS, parS, nxS, raiseS, varE, cE, op2, andT, orT, notT, notE, ifE, nilA, consA, tupE, lstE, asDs_nil, asDs_cons, asDs_map, callE, callX, bltE, one, truE, sliceE, noO, someO, nameG, tupG, consG, nilG, okIf, negE, bindR_ok, bindR_exc, bindR_err, bindS_ok, bindS_exc, bindS_err, seqR_nx, seqR_ret, seqR_exc, seqR_brk, seqR_cnt, seqR_err, noX_ok, fin_nx, fin_d, fin_exc, fin_scr, eq_str, ne_str, eq_int, ne_int, List.map_cons, List.map_nil, List.cons_append, List.nil_append, List.getElem?_cons_zero, List.getElem?_cons_succ, List.length_cons, List.length_nil, Nat.reduceAdd, Nat.reduceSub, List.replicate_zero, List.replicate_succ, List.set_cons_zero, List.set_cons_succ, List.take_length, Option.bind_some, Bool.not_true, Bool.not_false, if_true, if_false, Bool.false_eq_true, ite_true, ite_false, ite_self, decide_true, decide_false, Nat.zero_le, reduceCtorEq, andE_eq, andK_bl, orE_eq, orK_bl, asB_eq, asK_bl, Option.map_some, sz1, sz2, sz3, sz4, cst1, cst2, cst3]
  unfold nameB
  cases hb : (decide (1 ≤ w.length) && decide (w.length ≤ 8)) with
  | false =>
    simp only [Bool.not_false, if_true, Bool.false_and, funD, funX, funK, env0, retS, retN, exprS, setS, seqS, ifS, asgS, parS, nxS, raiseS, varE, cE, op2, andT, orT, notT, notE, ifE, nilA, consA, tupE, lstE, asDs_nil, asDs_cons, asDs_map, callE, callX, bltE, one, truE, sliceE, noO, someO, nameG, tupG, consG, nilG, okIf, negE, bindR_ok, bindR_exc, bindR_err, bindS_ok, bindS_exc, bindS_err, seqR_nx, seqR_ret, seqR_exc, seqR_brk, seqR_cnt, seqR_err, noX_ok, fin_nx, fin_d, fin_exc, fin_scr, eq_str, ne_str, eq_int, ne_int, List.map_cons, List.map_nil, List.cons_append, List.nil_append, List.getElem?_cons_zero, List.getElem?_cons_succ, List.length_cons, List.length_nil, Nat.reduceAdd, Nat.reduceSub, List.replicate_zero, List.replicate_succ, List.set_cons_zero, List.set_cons_succ, List.take_length, Option.bind_some, Bool.not_true, Bool.not_false, if_true, if_false, Bool.false_eq_true, ite_true, ite_false, ite_self, decide_true, decide_false, Nat.zero_le, reduceCtorEq, andE_eq, andK_bl, orE_eq, orK_bl, asB_eq, asK_bl, Option.map_some, sz1, sz2, sz3, sz4, cst1, cst2, cst3]
  | true =>
    simp only [Bool.not_true, Bool.false_eq_true, if_false, Bool.true_and, funD, funX, funK, env0, retS, retN, exprS, setS, seqS, ifS, asgS, parS, nxS, raiseS, varE, cE, op2, andT, orT, notT, notE, ifE, nilA, consA, tupE, lstE, asDs_nil, asDs_cons, asDs_map, callE, callX, bltE, one, truE, sliceE, noO, someO, nameG, tupG, consG, nilG, okIf, negE, bindR_ok, bindR_exc, bindR_err, bindS_ok, bindS_exc, bindS_err, seqR_nx, seqR_ret, seqR_exc, seqR_brk, seqR_cnt, seqR_err, noX_ok, fin_nx, fin_d, fin_exc, fin_scr, eq_str, ne_str, eq_int, ne_int, List.map_cons, List.map_nil, List.cons_append, List.nil_append, List.getElem?_cons_zero, List.getElem?_cons_succ, List.length_cons, List.length_nil, Nat.reduceAdd, Nat.reduceSub, List.replicate_zero, List.replicate_succ, List.set_cons_zero, List.set_cons_succ, List.take_length, Option.bind_some, Bool.not_true, Bool.not_false, if_true, if_false, Bool.false_eq_true, ite_true, ite_false, ite_self, decide_true, decide_false, Nat.zero_le, reduceCtorEq, andE_eq, andK_bl, orE_eq, orK_bl, asB_eq, asK_bl, Option.map_some, sz1, sz2, sz3, sz4, cst1, cst2, cst3]
    rw [lc _ st rfl (by show 1 < 2; decide)]
    simp only [funD, funX, funK, env0, retS, retN, exprS, setS, seqS, ifS, asgS, parS, nxS, raiseS, varE, cE, op2, andT, orT, notT, notE, ifE, nilA, consA, tupE, lstE, asDs_nil, asDs_cons, asDs_map, callE, callX, bltE, one, truE, sliceE, noO, someO, nameG, tupG, consG, nilG, okIf, negE, bindR_ok, bindR_exc, bindR_err, bindS_ok, bindS_exc, bindS_err, seqR_nx, seqR_ret, seqR_exc, seqR_brk, seqR_cnt, seqR_err, noX_ok, fin_nx, fin_d, fin_exc, fin_scr, eq_str, ne_str, eq_int, ne_int, List.map_cons, List.map_nil, List.cons_append, List.nil_append, List.getElem?_cons_zero, List.getElem?_cons_succ, List.length_cons, List.length_nil, Nat.reduceAdd, Nat.reduceSub, List.replicate_zero, List.replicate_succ, List.set_cons_zero, List.set_cons_succ, List.take_length, Option.bind_some, Bool.not_true, Bool.not_false, if_true, if_false, Bool.false_eq_true, ite_true, ite_false, ite_self, decide_true, decide_false, Nat.zero_le, reduceCtorEq, andE_eq, andK_bl, orE_eq, orK_bl, asB_eq, asK_bl, Option.map_some, sz1, sz2, sz3, sz4, cst1, cst2, cst3]
    rw [all_lst (bools_map _ _)]
    simp only [funD, funX, funK, env0, retS, retN, exprS, setS, seqS, ifS, asgS, parS, nxS, raiseS, varE, cE, op2, andT, orT, notT, notE, ifE, nilA, consA, tupE, lstE, asDs_nil, asDs_cons, asDs_map, callE, callX, bltE, one, truE, sliceE, noO, someO, nameG, tupG, consG, nilG, okIf, negE, bindR_ok, bindR_exc, bindR_err, bindS_ok, bindS_exc, bindS_err, seqR_nx, seqR_ret, seqR_exc, seqR_brk, seqR_cnt, seqR_err, noX_ok, fin_nx, fin_d, fin_exc, fin_scr, eq_str, ne_str, eq_int, ne_int, List.map_cons, List.map_nil, List.cons_append, List.nil_append, List.getElem?_cons_zero, List.getElem?_cons_succ, List.length_cons, List.length_nil, Nat.reduceAdd, Nat.reduceSub, List.replicate_zero, List.replicate_succ, List.set_cons_zero, List.set_cons_succ, List.take_length, Option.bind_some, Bool.not_true, Bool.not_false, if_true, if_false, Bool.false_eq_true, ite_true, ite_false, ite_self, decide_true, decide_false, Nat.zero_le, reduceCtorEq, andE_eq, andK_bl, orE_eq, orK_bl, asB_eq, asK_bl, Option.map_some, sz1, sz2, sz3, sz4, cst1, cst2, cst3, mem_letL, List.all_map]
    rfl
theorem f_is_text {w : T} (hl : w.length ≤ sizeLine) (st : Store) : F_is_text [.d (.str (S w))] st = .ok (.d (.bl (textB w))) st := by
  have e : (S w).length ≤ sizeLine := by rw [S_len]; exact hl
  have lc := lc_signs (z := ("abcdefghijklmnopqrstuvwxyz0123456789 " : Str)) hl
  rw [cps_signs] at lc
  unfold F_is_text g_is_text
  simp only [N_is_text, funD, funX, funK, env0, retS, retN, exprS, setS, seqS, ifS, asgS, parS, nxS, raiseS, varE, cE, op2, andT, orT, notT, notE, ifE, nilA, consA, tupE, lstE, asDs_nil, asDs_cons, asDs_map, callE, callX, bltE, one, truE, sliceE, noO, someO, nameG, tupG, consG, nilG, okIf, negE, bindR_ok, bindR_exc, bindR_err, bindS_ok, bindS_exc, bindS_err, seqR_nx, seqR_ret, seqR_exc, seqR_brk, seqR_cnt, seqR_err, noX_ok, fin_nx, fin_d, fin_exc, fin_scr, eq_str, ne_str, eq_int, ne_int, List.map_cons, List.map_nil, List.cons_append, List.nil_append, List.getElem?_cons_zero, List.getElem?_cons_succ, List.length_cons, List.length_nil, Nat.reduceAdd, Nat.reduceSub, List.replicate_zero, List.replicate_succ, List.set_cons_zero, List.set_cons_succ, List.take_length, Option.bind_some, Bool.not_true, Bool.not_false, if_true, if_false, Bool.false_eq_true, ite_true, ite_false, ite_self, decide_true, decide_false, Nat.zero_le, reduceCtorEq, andE_eq, andK_bl, orE_eq, orK_bl, asB_eq, asK_bl, Option.map_some, sz1, sz2, sz3, sz4, cst1, cst2, cst3]
  rw [isi_str (z := S w) (by rfl)]
  simp only [len_str e, S_len, gt_int, funD, funX, funK, env0, retS, retN, exprS, setS, seqS, ifS, asgS, parS, nxS, raiseS, varE, cE, op2, andT, orT, notT, notE, ifE, nilA, consA, tupE, lstE, asDs_nil, asDs_cons, asDs_map, callE, callX, bltE, one, truE, sliceE, noO, someO, nameG, tupG, consG, nilG, okIf, negE, bindR_ok, bindR_exc, bindR_err, bindS_ok, bindS_exc, bindS_err, seqR_nx, seqR_ret, seqR_exc, seqR_brk, seqR_cnt, seqR_err, noX_ok, fin_nx, fin_d, fin_exc, fin_scr, eq_str, ne_str, eq_int, ne_int, List.map_cons, List.map_nil, List.cons_append, List.nil_append, List.getElem?_cons_zero, List.getElem?_cons_succ, List.length_cons, List.length_nil, Nat.reduceAdd, Nat.reduceSub, List.replicate_zero, List.replicate_succ, List.set_cons_zero, List.set_cons_succ, List.take_length, Option.bind_some, Bool.not_true, Bool.not_false, if_true, if_false, Bool.false_eq_true, ite_true, ite_false, ite_self, decide_true, decide_false, Nat.zero_le, reduceCtorEq, andE_eq, andK_bl, orE_eq, orK_bl, asB_eq, asK_bl, Option.map_some, sz1, sz2, sz3, sz4, cst1, cst2, cst3]
  unfold textB
  have q2 : decide ((16 : Int) < (w.length : Int)) = !decide (w.length ≤ 16) := by
    by_cases h : w.length ≤ 16
    · simp [h]; omega
    · simp [h]; omega
  rw [q2]
  cases hb : decide (w.length ≤ 16) with
  | false => simp only [Bool.not_false, if_true, Bool.false_and, funD, funX, funK, env0, retS, retN, exprS, setS, seqS, ifS, asgS, parS, nxS, raiseS, varE, cE, op2, andT, orT, notT, notE, ifE, nilA, consA, tupE, lstE, asDs_nil, asDs_cons, asDs_map, callE, callX, bltE, one, truE, sliceE, noO, someO, nameG, tupG, consG, nilG, okIf, negE, bindR_ok, bindR_exc, bindR_err, bindS_ok, bindS_exc, bindS_err, seqR_nx, seqR_ret, seqR_exc, seqR_brk, seqR_cnt, seqR_err, noX_ok, fin_nx, fin_d, fin_exc, fin_scr, eq_str, ne_str, eq_int, ne_int, List.map_cons, List.map_nil, List.cons_append, List.nil_append, List.getElem?_cons_zero, List.getElem?_cons_succ, List.length_cons, List.length_nil, Nat.reduceAdd, Nat.reduceSub, List.replicate_zero, List.replicate_succ, List.set_cons_zero, List.set_cons_succ, List.take_length, Option.bind_some, Bool.not_true, Bool.not_false, if_true, if_false, Bool.false_eq_true, ite_true, ite_false, ite_self, decide_true, decide_false, Nat.zero_le, reduceCtorEq, andE_eq, andK_bl, orE_eq, orK_bl, asB_eq, asK_bl, Option.map_some, sz1, sz2, sz3, sz4, cst1, cst2, cst3]
  | true =>
    simp only [Bool.not_true, Bool.false_eq_true, if_false, Bool.true_and, funD, funX, funK, env0, retS, retN, exprS, setS, seqS, ifS, asgS, parS, nxS, raiseS, varE, cE, op2, andT, orT, notT, notE, ifE, nilA, consA, tupE, lstE, asDs_nil, asDs_cons, asDs_map, callE, callX, bltE, one, truE, sliceE, noO, someO, nameG, tupG, consG, nilG, okIf, negE, bindR_ok, bindR_exc, bindR_err, bindS_ok, bindS_exc, bindS_err, seqR_nx, seqR_ret, seqR_exc, seqR_brk, seqR_cnt, seqR_err, noX_ok, fin_nx, fin_d, fin_exc, fin_scr, eq_str, ne_str, eq_int, ne_int, List.map_cons, List.map_nil, List.cons_append, List.nil_append, List.getElem?_cons_zero, List.getElem?_cons_succ, List.length_cons, List.length_nil, Nat.reduceAdd, Nat.reduceSub, List.replicate_zero, List.replicate_succ, List.set_cons_zero, List.set_cons_succ, List.take_length, Option.bind_some, Bool.not_true, Bool.not_false, if_true, if_false, Bool.false_eq_true, ite_true, ite_false, ite_self, decide_true, decide_false, Nat.zero_le, reduceCtorEq, andE_eq, andK_bl, orE_eq, orK_bl, asB_eq, asK_bl, Option.map_some, sz1, sz2, sz3, sz4, cst1, cst2, cst3]
    rw [lc _ st rfl (by show 1 < 2; decide)]
    simp only [funD, funX, funK, env0, retS, retN, exprS, setS, seqS, ifS, asgS, parS, nxS, raiseS, varE, cE, op2, andT, orT, notT, notE, ifE, nilA, consA, tupE, lstE, asDs_nil, asDs_cons, asDs_map, callE, callX, bltE, one, truE, sliceE, noO, someO, nameG, tupG, consG, nilG, okIf, negE, bindR_ok, bindR_exc, bindR_err, bindS_ok, bindS_exc, bindS_err, seqR_nx, seqR_ret, seqR_exc, seqR_brk, seqR_cnt, seqR_err, noX_ok, fin_nx, fin_d, fin_exc, fin_scr, eq_str, ne_str, eq_int, ne_int, List.map_cons, List.map_nil, List.cons_append, List.nil_append, List.getElem?_cons_zero, List.getElem?_cons_succ, List.length_cons, List.length_nil, Nat.reduceAdd, Nat.reduceSub, List.replicate_zero, List.replicate_succ, List.set_cons_zero, List.set_cons_succ, List.take_length, Option.bind_some, Bool.not_true, Bool.not_false, if_true, if_false, Bool.false_eq_true, ite_true, ite_false, ite_self, decide_true, decide_false, Nat.zero_le, reduceCtorEq, andE_eq, andK_bl, orE_eq, orK_bl, asB_eq, asK_bl, Option.map_some, sz1, sz2, sz3, sz4, cst1, cst2, cst3]
    rw [all_lst (bools_map _ _)]
    simp only [funD, funX, funK, env0, retS, retN, exprS, setS, seqS, ifS, asgS, parS, nxS, raiseS, varE, cE, op2, andT, orT, notT, notE, ifE, nilA, consA, tupE, lstE, asDs_nil, asDs_cons, asDs_map, callE, callX, bltE, one, truE, sliceE, noO, someO, nameG, tupG, consG, nilG, okIf, negE, bindR_ok, bindR_exc, bindR_err, bindS_ok, bindS_exc, bindS_err, seqR_nx, seqR_ret, seqR_exc, seqR_brk, seqR_cnt, seqR_err, noX_ok, fin_nx, fin_d, fin_exc, fin_scr, eq_str, ne_str, eq_int, ne_int, List.map_cons, List.map_nil, List.cons_append, List.nil_append, List.getElem?_cons_zero, List.getElem?_cons_succ, List.length_cons, List.length_nil, Nat.reduceAdd, Nat.reduceSub, List.replicate_zero, List.replicate_succ, List.set_cons_zero, List.set_cons_succ, List.take_length, Option.bind_some, Bool.not_true, Bool.not_false, if_true, if_false, Bool.false_eq_true, ite_true, ite_false, ite_self, decide_true, decide_false, Nat.zero_le, reduceCtorEq, andE_eq, andK_bl, orE_eq, orK_bl, asB_eq, asK_bl, Option.map_some, sz1, sz2, sz3, sz4, cst1, cst2, cst3, List.all_map]
    rfl
def letB (w : T) : Bool := decide (w = []) || nameB w
theorem s_nil : ("" : Str) = S [] := by decide +kernel
theorem f_is_letter {w : T} (hl : w.length ≤ sizeLine) (st : Store) : F_is_letter [.d (.str (S w))] st = .ok (.d (.bl (letB w))) st := by
  unfold F_is_letter g_is_letter letB
  simp only [N_is_letter, s_nil, S_inj, f_is_name hl, funD, funX, funK, env0, retS, retN, exprS, setS, seqS, ifS, asgS, parS, nxS, raiseS, varE, cE, op2, andT, orT, notT, notE, ifE, nilA, consA, tupE, lstE, asDs_nil, asDs_cons, asDs_map, callE, callX, bltE, one, truE, sliceE, noO, someO, nameG, tupG, consG, nilG, okIf, negE, bindR_ok, bindR_exc, bindR_err, bindS_ok, bindS_exc, bindS_err, seqR_nx, seqR_ret, seqR_exc, seqR_brk, seqR_cnt, seqR_err, noX_ok, fin_nx, fin_d, fin_exc, fin_scr, eq_str, ne_str, eq_int, ne_int, List.map_cons, List.map_nil, List.cons_append, List.nil_append, List.getElem?_cons_zero, List.getElem?_cons_succ, List.length_cons, List.length_nil, Nat.reduceAdd, Nat.reduceSub, List.replicate_zero, List.replicate_succ, List.set_cons_zero, List.set_cons_succ, List.take_length, Option.bind_some, Bool.not_true, Bool.not_false, if_true, if_false, Bool.false_eq_true, ite_true, ite_false, ite_self, decide_true, decide_false, Nat.zero_le, reduceCtorEq, andE_eq, andK_bl, orE_eq, orK_bl, asB_eq, asK_bl, Option.map_some, sz1, sz2, sz3, sz4, cst1, cst2, cst3]
  cases decide (w = []) <;> simp only [Bool.true_or, Bool.false_or, if_true, if_false, Bool.false_eq_true, funD, funX, funK, env0, retS, retN, exprS, setS, seqS, ifS, asgS, parS, nxS, raiseS, varE, cE, op2, andT, orT, notT, notE, ifE, nilA, consA, tupE, lstE, asDs_nil, asDs_cons, asDs_map, callE, callX, bltE, one, truE, sliceE, noO, someO, nameG, tupG, consG, nilG, okIf, negE, bindR_ok, bindR_exc, bindR_err, bindS_ok, bindS_exc, bindS_err, seqR_nx, seqR_ret, seqR_exc, seqR_brk, seqR_cnt, seqR_err, noX_ok, fin_nx, fin_d, fin_exc, fin_scr, eq_str, ne_str, eq_int, ne_int, List.map_cons, List.map_nil, List.cons_append, List.nil_append, List.getElem?_cons_zero, List.getElem?_cons_succ, List.length_cons, List.length_nil, Nat.reduceAdd, Nat.reduceSub, List.replicate_zero, List.replicate_succ, List.set_cons_zero, List.set_cons_succ, List.take_length, Option.bind_some, Bool.not_true, Bool.not_false, if_true, if_false, Bool.false_eq_true, ite_true, ite_false, ite_self, decide_true, decide_false, Nat.zero_le, reduceCtorEq, andE_eq, andK_bl, orE_eq, orK_bl, asB_eq, asK_bl, Option.map_some, sz1, sz2, sz3, sz4, cst1, cst2, cst3]
/-! ### pieces -/
theorem len_tup {xs : List D} {st : Store} : lenV (.d (.tup xs)) st = .ok (.d (.int xs.length)) st := by simp [lenV, valsOf]
theorem isi_tup {f : SE} {ρ : DL.Env} {st : Store} {xs : List D} (h : f ρ st = .ok (.d (.tup xs)) st) : isiE tab_tuple f ρ st = .ok (.d (.bl true)) st := isi_d h (show tab_tuple (.b "tuple") = some true by decide +kernel)
theorem ix0 {x : D} {xs : List D} {st : Store} : ixV (.d (.tup (x :: xs))) (.d (.int 0)) st = .ok (.d x) st := by
  simp only [ixV, valsOf, L2.atI, L2.ixN, List.map_cons, List.length_cons, List.length_map]
  rw [if_pos (by omega), if_pos (by omega)]
  rfl
theorem ix1 {x y : D} {xs : List D} {st : Store} : ixV (.d (.tup (x :: y :: xs))) (.d (.int 1)) st = .ok (.d y) st := by
  simp only [ixV, valsOf, L2.atI, L2.ixN, List.map_cons, List.length_cons, List.length_map]
  rw [if_pos (by omega), if_pos (by omega)]
  rfl
theorem ix2 {x y z : D} {xs : List D} {st : Store} : ixV (.d (.tup (x :: y :: z :: xs))) (.d (.int 2)) st = .ok (.d z) st := by
  simp only [ixV, valsOf, L2.atI, L2.ixN, List.map_cons, List.length_cons, List.length_map]
  rw [if_pos (by omega), if_pos (by omega)]
  rfl
mutual
def pyP : Part → PyData
  | .keep => .tuple [.str ("keep" : Str)]
  | .say w => .tuple [.str ("say" : Str), .str (S w)]
  | .go w => .tuple [.str ("go" : Str), .str (S w)]
  | .node w ps => .tuple [.str ("node" : Str), .str (S w), .tuple (pyPs ps)]
def pyPs : List Part → List PyData
  | [] => []
  | p :: ps => pyP p :: pyPs ps
end
mutual
theorem toPy_toD : ∀ p : Part, toPy (toD p) = some (pyP p)
  | .keep => rfl
  | .say w => rfl
  | .go w => rfl
  | .node w ps => by
    simp only [toD, toPy, toPys, toPys_toDs ps, pyP, Option.map_some]
theorem toPys_toDs : ∀ ps : List Part, toPys (toDs ps) = some (pyPs ps)
  | [] => rfl
  | p :: ps => by
    simp only [toDs, toPys, toPy_toD p, toPys_toDs ps, pyPs]
end
def strB (w : T) : Bool := decide (w.length ≤ 1000) && w.all (· < 0x110000)
mutual
def fitP : Nat → Part → Bool
  | 0, _ => false
  | _ + 1, .keep => true
  | _ + 1, .say w => strB w
  | _ + 1, .go w => strB w
  | n + 1, .node w ps => strB w && fitPs n ps
def fitPs : Nat → List Part → Bool
  | 0, _ => false
  | n + 1, ps => decide (ps.length ≤ 1000) && ps.all (fitP n)
end
theorem strB_ok {w : T} (h : strB w = true) : w.length ≤ 1000 ∧ (w.all (· < 0x110000)) = true := by
  unfold strB at h
  rw [Bool.and_eq_true] at h
  exact ⟨of_decide_eq_true h.1, h.2⟩
theorem lay_S {w : T} (h : (w.all (· < 0x110000)) = true) : PyData.canLay0 (.str (S w)) = true := by
  unfold PyData.canLay0
  show (S w).cps.all (· < 0x110000) = true
  rw [← Array.all_toList, S_cps]
  exact h
def fitPy (n : Nat) (d : PyData) : Prop := d.canLay0 = true ∧ d.depth ≤ n
theorem py_nil : PyData.canLayAll0 [] = true ∧ PyData.depthAll [] = 0 := ⟨rfl, rfl⟩
theorem fit_list {n : Nat} : ∀ ps : List Part, (∀ p ∈ ps, fitPy n (pyP p)) → PyData.canLayAll0 (pyPs ps) = true ∧ PyData.depthAll (pyPs ps) ≤ n
  | [], _ => ⟨rfl, Nat.zero_le _⟩
  | p :: ps, h => by
    obtain ⟨a, b⟩ := h p List.mem_cons_self
    obtain ⟨c, d⟩ := fit_list ps fun q hq => h q (List.mem_cons_of_mem _ hq)
    exact ⟨by simp only [pyPs, PyData.canLayAll0, a, c, Bool.and_self], by simp only [pyPs, PyData.depthAll]; exact Nat.max_le.mpr ⟨b, d⟩⟩
theorem two_fit {a b : PyData} (ha : a.canLay0 = true) (hb : b.canLay0 = true) (da : a.depth = 0) (db : b.depth = 0) : fitPy 1 (.tuple [a, b]) := by
  constructor
  · simp only [PyData.canLay0, PyData.canLayAll0, ha, hb, Bool.and_self]
  · simp [PyData.depth, PyData.depthAll, da, db]
theorem lay_keep : PyData.canLay0 (.str ("keep" : Str)) = true := by decide +kernel
theorem lay_say : PyData.canLay0 (.str ("say" : Str)) = true := by decide +kernel
theorem lay_go : PyData.canLay0 (.str ("go" : Str)) = true := by decide +kernel
theorem lay_node : PyData.canLay0 (.str ("node" : Str)) = true := by decide +kernel
theorem fitPy_mono {m n : Nat} {d : PyData} (h : fitPy m d) (hm : m ≤ n) : fitPy n d := ⟨h.1, Nat.le_trans h.2 hm⟩
theorem fitP_py : ∀ (n : Nat), (∀ p, fitP n p = true → fitPy n (pyP p)) ∧ (∀ ps, fitPs n ps = true → PyData.canLayAll0 (pyPs ps) = true ∧ PyData.depthAll (pyPs ps) + 1 ≤ n)
  | 0 => ⟨fun p h => by simp [fitP] at h, fun ps h => by simp [fitPs] at h⟩
  | n + 1 => by
    obtain ⟨i1, i2⟩ := fitP_py n
    refine ⟨fun p h => ?_, fun ps h => ?_⟩
    · cases p with
      | keep => exact ⟨by simp [pyP, PyData.canLay0, PyData.canLayAll0]; exact lay_keep, by simp [pyP, PyData.depth, PyData.depthAll]⟩
      | say w =>
        have q := strB_ok (w := w) (by simpa [fitP] using h)
        exact fitPy_mono (two_fit lay_say (lay_S q.2) rfl rfl) (by omega)
      | go w =>
        have q := strB_ok (w := w) (by simpa [fitP] using h)
        exact fitPy_mono (two_fit lay_go (lay_S q.2) rfl rfl) (by omega)
      | node w ps =>
        have h' : strB w = true ∧ fitPs n ps = true := by simpa [fitP] using h
        obtain ⟨c, d⟩ := i2 ps h'.2
        refine ⟨?_, ?_⟩
        · simp only [pyP, PyData.canLay0, PyData.canLayAll0, c, Bool.and_true, Bool.and_eq_true]
          exact ⟨lay_node, lay_S (strB_ok h'.1).2⟩
        · simp only [pyP, PyData.depth, PyData.depthAll, Nat.zero_max, Nat.max_zero]
          omega
    · have h' : ps.length ≤ 1000 ∧ ∀ p ∈ ps, fitP n p = true := by simpa [fitPs] using h
      obtain ⟨c, d⟩ := fit_list ps fun p hp => i1 p (h'.2 p hp)
      exact ⟨c, by omega⟩
theorem shaped_of {n : Nat} (hn : n ≤ 64) {d : PyData} (h : fitPy n d) : SeqAt.shaped d = true := by
  unfold SeqAt.shaped
  rw [h.1, decide_eq_true (Nat.le_trans h.2 hn)]
  rfl
theorem tup_ne {x : D} {xs : List D} {ps : List PyData} {st : Store} (h : toPy (.tup (x :: xs)) = some (.tuple ps)) (hs : SeqAt.shaped (.tuple ps) = true) (hne : ps ≠ []) : eqV false (.d (.tup (x :: xs))) (.d (.tup [])) st = .ok (.d (.bl false)) st := by
  have e : eqB (.tup (x :: xs)) (.tup []) = some false := by
    show eqG (.tup (x :: xs)) (.tup []) = some false
    unfold eqG
    rw [h]
    show (if (SeqAt.shaped (.tuple ps) && SeqAt.shaped (.tuple [])) = true then some (PyData.eqv (.tuple ps) (.tuple [])) else none) = some false
    rw [hs, if_pos (by decide +kernel)]
    cases ps with
    | nil => exact absurd rfl hne
    | cons p ps => rfl
  unfold eqV
  show DL.bin (eqB (.tup (x :: xs)) (.tup [])) false st = _
  rw [e]
  rfl
mutual
def pieceB : Part → T → Bool
  | .keep, l => decide (l = [])
  | .say w, _ => textB w
  | .go w, l => !decide (l = []) && nameB w
  | .node w ps, l => nameB w && piecesB ps l
def piecesB : List Part → T → Bool
  | [], _ => true
  | p :: ps, l => pieceB p l && piecesB ps l
end
theorem piecesB_all (l : T) : ∀ ps : List Part, piecesB ps l = ps.all fun p => pieceB p l
  | [] => rfl
  | p :: ps => by rw [piecesB, piecesB_all l ps]; rfl
theorem len2_tup {a b : D} : (([a, b] : List D).length : Int) = 2 := rfl
theorem len3_tup {a b c : D} : (([a, b, c] : List D).length : Int) = 3 := rfl
theorem len1_tup {a : D} : (([a] : List D).length : Int) = 1 := rfl
theorem pyPs_ne {ps : List Part} : pyPs ps = [] ↔ ps = [] := by cases ps <;> simp [pyPs]
theorem strB_sz {w : T} (h : strB w = true) : w.length ≤ sizeLine := small_size (Nat.le_trans (strB_ok h).1 (by omega))
theorem toPy_tup {xs : List D} {p : List PyData} (h : toPy (.tup xs) = some (.tuple p)) : toPy (.tup xs) = some (.tuple p) := h
theorem f_piece : ∀ (n : Nat) (hn : n ≤ 60), (∀ (p : Part) (l : T) (st : Store), fitP n p = true → l.length ≤ sizeLine → F_is_piece n [.d (toD p), .d (.str (S l))] st = .ok (.d (.bl (pieceB p l))) st) ∧
    (∀ (ps : List Part) (l : T) (st : Store), fitPs n ps = true → l.length ≤ sizeLine → F_are_pieces n [.d (.tup (toDs ps)), .d (.str (S l))] st = .ok (.d (.bl (piecesB ps l))) st)
  | 0, _ => ⟨fun p l st h => by simp [fitP] at h, fun p l st h => by simp [fitPs] at h⟩
  | n + 1, hn => by
    obtain ⟨i1, i2⟩ := f_piece n (by omega)
    have q_node_say : (("node" : Str) = ("say" : Str)) = False := eq_false (by decide +kernel)
    have q_node_go : (("node" : Str) = ("go" : Str)) = False := eq_false (by decide +kernel)
    have q_node_keep : (("node" : Str) = ("keep" : Str)) = False := eq_false (by decide +kernel)
    have q_say_node : (("say" : Str) = ("node" : Str)) = False := eq_false (by decide +kernel)
    have q_say_go : (("say" : Str) = ("go" : Str)) = False := eq_false (by decide +kernel)
    have q_say_keep : (("say" : Str) = ("keep" : Str)) = False := eq_false (by decide +kernel)
    have q_go_node : (("go" : Str) = ("node" : Str)) = False := eq_false (by decide +kernel)
    have q_go_say : (("go" : Str) = ("say" : Str)) = False := eq_false (by decide +kernel)
    have q_go_keep : (("go" : Str) = ("keep" : Str)) = False := eq_false (by decide +kernel)
    have q_keep_node : (("keep" : Str) = ("node" : Str)) = False := eq_false (by decide +kernel)
    have q_keep_say : (("keep" : Str) = ("say" : Str)) = False := eq_false (by decide +kernel)
    have q_keep_go : (("keep" : Str) = ("go" : Str)) = False := eq_false (by decide +kernel)
    refine ⟨fun p l st h hl => ?_, fun ps l st h hl => ?_⟩
    · have hsh := shaped_of (n := n + 1) (by omega) ((fitP_py (n + 1)).1 p h)
      have hpy := toPy_toD p
      show funD N_is_piece.length (g_is_piece (F_are_pieces n)) _ st = _
      cases p with
      | keep =>
        simp only [toD, pyP] at hsh hpy ⊢
        simp only [g_is_piece, N_is_piece, funD, funX, funK, env0, retS, retN, exprS, setS, seqS, ifS, asgS, parS, nxS, raiseS, varE, cE, op2, andT, orT, notT, notE, ifE, nilA, consA, tupE, lstE, asDs_nil, asDs_cons, asDs_map, callE, callX, bltE, one, truE, sliceE, noO, someO, nameG, tupG, consG, nilG, okIf, negE, bindR_ok, bindR_exc, bindR_err, bindS_ok, bindS_exc, bindS_err, seqR_nx, seqR_ret, seqR_exc, seqR_brk, seqR_cnt, seqR_err, noX_ok, fin_nx, fin_d, fin_exc, fin_scr, eq_str, ne_str, eq_int, ne_int, List.map_cons, List.map_nil, List.cons_append, List.nil_append, List.getElem?_cons_zero, List.getElem?_cons_succ, List.length_cons, List.length_nil, Nat.reduceAdd, Nat.reduceSub, List.replicate_zero, List.replicate_succ, List.set_cons_zero, List.set_cons_succ, List.take_length, Option.bind_some, Bool.not_true, Bool.not_false, if_true, if_false, Bool.false_eq_true, ite_true, ite_false, ite_self, decide_true, decide_false, Nat.zero_le, reduceCtorEq, andE_eq, andK_bl, orE_eq, orK_bl, asB_eq, asK_bl, Option.map_some, sz1, sz2, sz3, sz4, cst1, cst2, cst3]
        rw [isi_tup rfl]
        simp only [tup_ne hpy hsh (by simp), ix0, len_tup, s_nil, S_inj, q_keep_node, q_keep_say, q_keep_go,  funD, funX, funK, env0, retS, retN, exprS, setS, seqS, ifS, asgS, parS, nxS, raiseS, varE, cE, op2, andT, orT, notT, notE, ifE, nilA, consA, tupE, lstE, asDs_nil, asDs_cons, asDs_map, callE, callX, bltE, one, truE, sliceE, noO, someO, nameG, tupG, consG, nilG, okIf, negE, bindR_ok, bindR_exc, bindR_err, bindS_ok, bindS_exc, bindS_err, seqR_nx, seqR_ret, seqR_exc, seqR_brk, seqR_cnt, seqR_err, noX_ok, fin_nx, fin_d, fin_exc, fin_scr, eq_str, ne_str, eq_int, ne_int, List.map_cons, List.map_nil, List.cons_append, List.nil_append, List.getElem?_cons_zero, List.getElem?_cons_succ, List.length_cons, List.length_nil, Nat.reduceAdd, Nat.reduceSub, List.replicate_zero, List.replicate_succ, List.set_cons_zero, List.set_cons_succ, List.take_length, Option.bind_some, Bool.not_true, Bool.not_false, if_true, if_false, Bool.false_eq_true, ite_true, ite_false, ite_self, decide_true, decide_false, Nat.zero_le, reduceCtorEq, andE_eq, andK_bl, orE_eq, orK_bl, asB_eq, asK_bl, Option.map_some, sz1, sz2, sz3, sz4, cst1, cst2, cst3]
        simp only [ix0, len_tup, S_inj, pieceB, len1_tup, funD, funX, funK, env0, retS, retN, exprS, setS, seqS, ifS, asgS, parS, nxS, raiseS, varE, cE, op2, andT, orT, notT, notE, ifE, nilA, consA, tupE, lstE, asDs_nil, asDs_cons, asDs_map, callE, callX, bltE, one, truE, sliceE, noO, someO, nameG, tupG, consG, nilG, okIf, negE, bindR_ok, bindR_exc, bindR_err, bindS_ok, bindS_exc, bindS_err, seqR_nx, seqR_ret, seqR_exc, seqR_brk, seqR_cnt, seqR_err, noX_ok, fin_nx, fin_d, fin_exc, fin_scr, eq_str, ne_str, eq_int, ne_int, List.map_cons, List.map_nil, List.cons_append, List.nil_append, List.getElem?_cons_zero, List.getElem?_cons_succ, List.length_cons, List.length_nil, Nat.reduceAdd, Nat.reduceSub, List.replicate_zero, List.replicate_succ, List.set_cons_zero, List.set_cons_succ, List.take_length, Option.bind_some, Bool.not_true, Bool.not_false, if_true, if_false, Bool.false_eq_true, ite_true, ite_false, ite_self, decide_true, decide_false, Nat.zero_le, reduceCtorEq, andE_eq, andK_bl, orE_eq, orK_bl, asB_eq, asK_bl, Option.map_some, sz1, sz2, sz3, sz4, cst1, cst2, cst3]
      | say w =>
        simp only [toD, pyP] at hsh hpy ⊢
        simp only [g_is_piece, N_is_piece, funD, funX, funK, env0, retS, retN, exprS, setS, seqS, ifS, asgS, parS, nxS, raiseS, varE, cE, op2, andT, orT, notT, notE, ifE, nilA, consA, tupE, lstE, asDs_nil, asDs_cons, asDs_map, callE, callX, bltE, one, truE, sliceE, noO, someO, nameG, tupG, consG, nilG, okIf, negE, bindR_ok, bindR_exc, bindR_err, bindS_ok, bindS_exc, bindS_err, seqR_nx, seqR_ret, seqR_exc, seqR_brk, seqR_cnt, seqR_err, noX_ok, fin_nx, fin_d, fin_exc, fin_scr, eq_str, ne_str, eq_int, ne_int, List.map_cons, List.map_nil, List.cons_append, List.nil_append, List.getElem?_cons_zero, List.getElem?_cons_succ, List.length_cons, List.length_nil, Nat.reduceAdd, Nat.reduceSub, List.replicate_zero, List.replicate_succ, List.set_cons_zero, List.set_cons_succ, List.take_length, Option.bind_some, Bool.not_true, Bool.not_false, if_true, if_false, Bool.false_eq_true, ite_true, ite_false, ite_self, decide_true, decide_false, Nat.zero_le, reduceCtorEq, andE_eq, andK_bl, orE_eq, orK_bl, asB_eq, asK_bl, Option.map_some, sz1, sz2, sz3, sz4, cst1, cst2, cst3]
        rw [isi_tup rfl]
        simp only [tup_ne hpy hsh (by simp), ix0, len_tup, s_nil, S_inj, q_say_node,  funD, funX, funK, env0, retS, retN, exprS, setS, seqS, ifS, asgS, parS, nxS, raiseS, varE, cE, op2, andT, orT, notT, notE, ifE, nilA, consA, tupE, lstE, asDs_nil, asDs_cons, asDs_map, callE, callX, bltE, one, truE, sliceE, noO, someO, nameG, tupG, consG, nilG, okIf, negE, bindR_ok, bindR_exc, bindR_err, bindS_ok, bindS_exc, bindS_err, seqR_nx, seqR_ret, seqR_exc, seqR_brk, seqR_cnt, seqR_err, noX_ok, fin_nx, fin_d, fin_exc, fin_scr, eq_str, ne_str, eq_int, ne_int, List.map_cons, List.map_nil, List.cons_append, List.nil_append, List.getElem?_cons_zero, List.getElem?_cons_succ, List.length_cons, List.length_nil, Nat.reduceAdd, Nat.reduceSub, List.replicate_zero, List.replicate_succ, List.set_cons_zero, List.set_cons_succ, List.take_length, Option.bind_some, Bool.not_true, Bool.not_false, if_true, if_false, Bool.false_eq_true, ite_true, ite_false, ite_self, decide_true, decide_false, Nat.zero_le, reduceCtorEq, andE_eq, andK_bl, orE_eq, orK_bl, asB_eq, asK_bl, Option.map_some, sz1, sz2, sz3, sz4, cst1, cst2, cst3]
        have q := strB_sz (w := w) (by simpa [fitP] using h)
        simp only [ix1, len_tup, len2_tup, f_is_text q, pieceB, funD, funX, funK, env0, retS, retN, exprS, setS, seqS, ifS, asgS, parS, nxS, raiseS, varE, cE, op2, andT, orT, notT, notE, ifE, nilA, consA, tupE, lstE, asDs_nil, asDs_cons, asDs_map, callE, callX, bltE, one, truE, sliceE, noO, someO, nameG, tupG, consG, nilG, okIf, negE, bindR_ok, bindR_exc, bindR_err, bindS_ok, bindS_exc, bindS_err, seqR_nx, seqR_ret, seqR_exc, seqR_brk, seqR_cnt, seqR_err, noX_ok, fin_nx, fin_d, fin_exc, fin_scr, eq_str, ne_str, eq_int, ne_int, List.map_cons, List.map_nil, List.cons_append, List.nil_append, List.getElem?_cons_zero, List.getElem?_cons_succ, List.length_cons, List.length_nil, Nat.reduceAdd, Nat.reduceSub, List.replicate_zero, List.replicate_succ, List.set_cons_zero, List.set_cons_succ, List.take_length, Option.bind_some, Bool.not_true, Bool.not_false, if_true, if_false, Bool.false_eq_true, ite_true, ite_false, ite_self, decide_true, decide_false, Nat.zero_le, reduceCtorEq, andE_eq, andK_bl, orE_eq, orK_bl, asB_eq, asK_bl, Option.map_some, sz1, sz2, sz3, sz4, cst1, cst2, cst3]
      | go w =>
        simp only [toD, pyP] at hsh hpy ⊢
        simp only [g_is_piece, N_is_piece, funD, funX, funK, env0, retS, retN, exprS, setS, seqS, ifS, asgS, parS, nxS, raiseS, varE, cE, op2, andT, orT, notT, notE, ifE, nilA, consA, tupE, lstE, asDs_nil, asDs_cons, asDs_map, callE, callX, bltE, one, truE, sliceE, noO, someO, nameG, tupG, consG, nilG, okIf, negE, bindR_ok, bindR_exc, bindR_err, bindS_ok, bindS_exc, bindS_err, seqR_nx, seqR_ret, seqR_exc, seqR_brk, seqR_cnt, seqR_err, noX_ok, fin_nx, fin_d, fin_exc, fin_scr, eq_str, ne_str, eq_int, ne_int, List.map_cons, List.map_nil, List.cons_append, List.nil_append, List.getElem?_cons_zero, List.getElem?_cons_succ, List.length_cons, List.length_nil, Nat.reduceAdd, Nat.reduceSub, List.replicate_zero, List.replicate_succ, List.set_cons_zero, List.set_cons_succ, List.take_length, Option.bind_some, Bool.not_true, Bool.not_false, if_true, if_false, Bool.false_eq_true, ite_true, ite_false, ite_self, decide_true, decide_false, Nat.zero_le, reduceCtorEq, andE_eq, andK_bl, orE_eq, orK_bl, asB_eq, asK_bl, Option.map_some, sz1, sz2, sz3, sz4, cst1, cst2, cst3]
        rw [isi_tup rfl]
        simp only [tup_ne hpy hsh (by simp), ix0, len_tup, s_nil, S_inj, q_go_node, q_go_say,  funD, funX, funK, env0, retS, retN, exprS, setS, seqS, ifS, asgS, parS, nxS, raiseS, varE, cE, op2, andT, orT, notT, notE, ifE, nilA, consA, tupE, lstE, asDs_nil, asDs_cons, asDs_map, callE, callX, bltE, one, truE, sliceE, noO, someO, nameG, tupG, consG, nilG, okIf, negE, bindR_ok, bindR_exc, bindR_err, bindS_ok, bindS_exc, bindS_err, seqR_nx, seqR_ret, seqR_exc, seqR_brk, seqR_cnt, seqR_err, noX_ok, fin_nx, fin_d, fin_exc, fin_scr, eq_str, ne_str, eq_int, ne_int, List.map_cons, List.map_nil, List.cons_append, List.nil_append, List.getElem?_cons_zero, List.getElem?_cons_succ, List.length_cons, List.length_nil, Nat.reduceAdd, Nat.reduceSub, List.replicate_zero, List.replicate_succ, List.set_cons_zero, List.set_cons_succ, List.take_length, Option.bind_some, Bool.not_true, Bool.not_false, if_true, if_false, Bool.false_eq_true, ite_true, ite_false, ite_self, decide_true, decide_false, Nat.zero_le, reduceCtorEq, andE_eq, andK_bl, orE_eq, orK_bl, asB_eq, asK_bl, Option.map_some, sz1, sz2, sz3, sz4, cst1, cst2, cst3]
        have q := strB_sz (w := w) (by simpa [fitP] using h)
        simp only [ix1, len_tup, len2_tup, f_is_name q, pieceB, s_nil, S_inj, funD, funX, funK, env0, retS, retN, exprS, setS, seqS, ifS, asgS, parS, nxS, raiseS, varE, cE, op2, andT, orT, notT, notE, ifE, nilA, consA, tupE, lstE, asDs_nil, asDs_cons, asDs_map, callE, callX, bltE, one, truE, sliceE, noO, someO, nameG, tupG, consG, nilG, okIf, negE, bindR_ok, bindR_exc, bindR_err, bindS_ok, bindS_exc, bindS_err, seqR_nx, seqR_ret, seqR_exc, seqR_brk, seqR_cnt, seqR_err, noX_ok, fin_nx, fin_d, fin_exc, fin_scr, eq_str, ne_str, eq_int, ne_int, List.map_cons, List.map_nil, List.cons_append, List.nil_append, List.getElem?_cons_zero, List.getElem?_cons_succ, List.length_cons, List.length_nil, Nat.reduceAdd, Nat.reduceSub, List.replicate_zero, List.replicate_succ, List.set_cons_zero, List.set_cons_succ, List.take_length, Option.bind_some, Bool.not_true, Bool.not_false, if_true, if_false, Bool.false_eq_true, ite_true, ite_false, ite_self, decide_true, decide_false, Nat.zero_le, reduceCtorEq, andE_eq, andK_bl, orE_eq, orK_bl, asB_eq, asK_bl, Option.map_some, sz1, sz2, sz3, sz4, cst1, cst2, cst3]
        cases decide (l = []) <;> simp only [Bool.not_true, Bool.not_false, Bool.true_and, Bool.false_and, funD, funX, funK, env0, retS, retN, exprS, setS, seqS, ifS, asgS, parS, nxS, raiseS, varE, cE, op2, andT, orT, notT, notE, ifE, nilA, consA, tupE, lstE, asDs_nil, asDs_cons, asDs_map, callE, callX, bltE, one, truE, sliceE, noO, someO, nameG, tupG, consG, nilG, okIf, negE, bindR_ok, bindR_exc, bindR_err, bindS_ok, bindS_exc, bindS_err, seqR_nx, seqR_ret, seqR_exc, seqR_brk, seqR_cnt, seqR_err, noX_ok, fin_nx, fin_d, fin_exc, fin_scr, eq_str, ne_str, eq_int, ne_int, List.map_cons, List.map_nil, List.cons_append, List.nil_append, List.getElem?_cons_zero, List.getElem?_cons_succ, List.length_cons, List.length_nil, Nat.reduceAdd, Nat.reduceSub, List.replicate_zero, List.replicate_succ, List.set_cons_zero, List.set_cons_succ, List.take_length, Option.bind_some, Bool.not_true, Bool.not_false, if_true, if_false, Bool.false_eq_true, ite_true, ite_false, ite_self, decide_true, decide_false, Nat.zero_le, reduceCtorEq, andE_eq, andK_bl, orE_eq, orK_bl, asB_eq, asK_bl, Option.map_some, sz1, sz2, sz3, sz4, cst1, cst2, cst3]
      | node w ps =>
        simp only [toD, pyP] at hsh hpy ⊢
        simp only [g_is_piece, N_is_piece, funD, funX, funK, env0, retS, retN, exprS, setS, seqS, ifS, asgS, parS, nxS, raiseS, varE, cE, op2, andT, orT, notT, notE, ifE, nilA, consA, tupE, lstE, asDs_nil, asDs_cons, asDs_map, callE, callX, bltE, one, truE, sliceE, noO, someO, nameG, tupG, consG, nilG, okIf, negE, bindR_ok, bindR_exc, bindR_err, bindS_ok, bindS_exc, bindS_err, seqR_nx, seqR_ret, seqR_exc, seqR_brk, seqR_cnt, seqR_err, noX_ok, fin_nx, fin_d, fin_exc, fin_scr, eq_str, ne_str, eq_int, ne_int, List.map_cons, List.map_nil, List.cons_append, List.nil_append, List.getElem?_cons_zero, List.getElem?_cons_succ, List.length_cons, List.length_nil, Nat.reduceAdd, Nat.reduceSub, List.replicate_zero, List.replicate_succ, List.set_cons_zero, List.set_cons_succ, List.take_length, Option.bind_some, Bool.not_true, Bool.not_false, if_true, if_false, Bool.false_eq_true, ite_true, ite_false, ite_self, decide_true, decide_false, Nat.zero_le, reduceCtorEq, andE_eq, andK_bl, orE_eq, orK_bl, asB_eq, asK_bl, Option.map_some, sz1, sz2, sz3, sz4, cst1, cst2, cst3]
        rw [isi_tup rfl]
        simp only [tup_ne hpy hsh (by simp), ix0, len_tup, s_nil, S_inj,  funD, funX, funK, env0, retS, retN, exprS, setS, seqS, ifS, asgS, parS, nxS, raiseS, varE, cE, op2, andT, orT, notT, notE, ifE, nilA, consA, tupE, lstE, asDs_nil, asDs_cons, asDs_map, callE, callX, bltE, one, truE, sliceE, noO, someO, nameG, tupG, consG, nilG, okIf, negE, bindR_ok, bindR_exc, bindR_err, bindS_ok, bindS_exc, bindS_err, seqR_nx, seqR_ret, seqR_exc, seqR_brk, seqR_cnt, seqR_err, noX_ok, fin_nx, fin_d, fin_exc, fin_scr, eq_str, ne_str, eq_int, ne_int, List.map_cons, List.map_nil, List.cons_append, List.nil_append, List.getElem?_cons_zero, List.getElem?_cons_succ, List.length_cons, List.length_nil, Nat.reduceAdd, Nat.reduceSub, List.replicate_zero, List.replicate_succ, List.set_cons_zero, List.set_cons_succ, List.take_length, Option.bind_some, Bool.not_true, Bool.not_false, if_true, if_false, Bool.false_eq_true, ite_true, ite_false, ite_self, decide_true, decide_false, Nat.zero_le, reduceCtorEq, andE_eq, andK_bl, orE_eq, orK_bl, asB_eq, asK_bl, Option.map_some, sz1, sz2, sz3, sz4, cst1, cst2, cst3]
        have h' : strB w = true ∧ fitPs n ps = true := by simpa [fitP] using h
        have q := strB_sz h'.1
        simp only [ix1, ix2, len_tup, len3_tup, f_is_name q, i2 ps l _ h'.2 hl, pieceB, funD, funX, funK, env0, retS, retN, exprS, setS, seqS, ifS, asgS, parS, nxS, raiseS, varE, cE, op2, andT, orT, notT, notE, ifE, nilA, consA, tupE, lstE, asDs_nil, asDs_cons, asDs_map, callE, callX, bltE, one, truE, sliceE, noO, someO, nameG, tupG, consG, nilG, okIf, negE, bindR_ok, bindR_exc, bindR_err, bindS_ok, bindS_exc, bindS_err, seqR_nx, seqR_ret, seqR_exc, seqR_brk, seqR_cnt, seqR_err, noX_ok, fin_nx, fin_d, fin_exc, fin_scr, eq_str, ne_str, eq_int, ne_int, List.map_cons, List.map_nil, List.cons_append, List.nil_append, List.getElem?_cons_zero, List.getElem?_cons_succ, List.length_cons, List.length_nil, Nat.reduceAdd, Nat.reduceSub, List.replicate_zero, List.replicate_succ, List.set_cons_zero, List.set_cons_succ, List.take_length, Option.bind_some, Bool.not_true, Bool.not_false, if_true, if_false, Bool.false_eq_true, ite_true, ite_false, ite_self, decide_true, decide_false, Nat.zero_le, reduceCtorEq, andE_eq, andK_bl, orE_eq, orK_bl, asB_eq, asK_bl, Option.map_some, sz1, sz2, sz3, sz4, cst1, cst2, cst3]
        cases nameB w <;> simp only [Bool.true_and, Bool.false_and, funD, funX, funK, env0, retS, retN, exprS, setS, seqS, ifS, asgS, parS, nxS, raiseS, varE, cE, op2, andT, orT, notT, notE, ifE, nilA, consA, tupE, lstE, asDs_nil, asDs_cons, asDs_map, callE, callX, bltE, one, truE, sliceE, noO, someO, nameG, tupG, consG, nilG, okIf, negE, bindR_ok, bindR_exc, bindR_err, bindS_ok, bindS_exc, bindS_err, seqR_nx, seqR_ret, seqR_exc, seqR_brk, seqR_cnt, seqR_err, noX_ok, fin_nx, fin_d, fin_exc, fin_scr, eq_str, ne_str, eq_int, ne_int, List.map_cons, List.map_nil, List.cons_append, List.nil_append, List.getElem?_cons_zero, List.getElem?_cons_succ, List.length_cons, List.length_nil, Nat.reduceAdd, Nat.reduceSub, List.replicate_zero, List.replicate_succ, List.set_cons_zero, List.set_cons_succ, List.take_length, Option.bind_some, Bool.not_true, Bool.not_false, if_true, if_false, Bool.false_eq_true, ite_true, ite_false, ite_self, decide_true, decide_false, Nat.zero_le, reduceCtorEq, andE_eq, andK_bl, orE_eq, orK_bl, asB_eq, asK_bl, Option.map_some, sz1, sz2, sz3, sz4, cst1, cst2, cst3]
    · show funD N_are_pieces.length (g_are_pieces (F_is_piece n)) _ st = _
      have h' : ps.length ≤ 1000 ∧ ∀ p ∈ ps, fitP n p = true := by simpa [fitPs] using h
      have lc : lcE (seqI (varE 0)) (nameG 2) yesT (callE (F_is_piece n) (consA (varE 2) (consA (varE 1) nilA))) [2] [some (.d (.tup (toDs ps))), some (.d (.str (S l))), none] st = .ok (.d (.lst (ps.map fun p => .bl (pieceB p l)))) st := by
        unfold lcE seqI
        simp only [varE, List.getElem?_cons_zero, bindR_ok, itemsOf, toDs_map]
        have run : ∀ (qs : List Part) (acc : List D), (∀ p ∈ qs, fitP n p = true) → acc.length + qs.length ≤ sizeLine → lcL (nameG 2) yesT (callE (F_is_piece n) (consA (varE 2) (consA (varE 1) nilA))) (DL.forget [2] [some (.d (.tup (ps.map toD))), some (.d (.str (S l))), none]) ((qs.map toD).map Val.d) acc st = .ok (acc ++ qs.map fun p => .bl (pieceB p l)) st := by
          intro qs
          induction qs with
          | nil => intro acc _ _; simp [lcL]
          | cons p qs ih =>
            intro acc hq hL
            have hL' : acc.length < sizeLine := by rw [List.length_cons] at hL; omega
            simp only [List.map_cons, lcL, DL.forget, i1 p l _ (hq p List.mem_cons_self) hl, yesT, if_pos hL', funD, funX, funK, env0, retS, retN, exprS, setS, seqS, ifS, asgS, parS, nxS, raiseS, varE, cE, op2, andT, orT, notT, notE, ifE, nilA, consA, tupE, lstE, asDs_nil, asDs_cons, asDs_map, callE, callX, bltE, one, truE, sliceE, noO, someO, nameG, tupG, consG, nilG, okIf, negE, bindR_ok, bindR_exc, bindR_err, bindS_ok, bindS_exc, bindS_err, seqR_nx, seqR_ret, seqR_exc, seqR_brk, seqR_cnt, seqR_err, noX_ok, fin_nx, fin_d, fin_exc, fin_scr, eq_str, ne_str, eq_int, ne_int, List.map_cons, List.map_nil, List.cons_append, List.nil_append, List.getElem?_cons_zero, List.getElem?_cons_succ, List.length_cons, List.length_nil, Nat.reduceAdd, Nat.reduceSub, List.replicate_zero, List.replicate_succ, List.set_cons_zero, List.set_cons_succ, List.take_length, Option.bind_some, Bool.not_true, Bool.not_false, if_true, if_false, Bool.false_eq_true, ite_true, ite_false, ite_self, decide_true, decide_false, Nat.zero_le, reduceCtorEq, andE_eq, andK_bl, orE_eq, orK_bl, asB_eq, asK_bl, Option.map_some, sz1, sz2, sz3, sz4, cst1, cst2, cst3]
            have e := ih (acc ++ [.bl (pieceB p l)]) (fun r hr => hq r (List.mem_cons_of_mem _ hr)) (by rw [List.length_append, List.length_singleton]; rw [List.length_cons] at hL; omega)
            simp only [DL.forget, funD, funX, funK, env0, retS, retN, exprS, setS, seqS, ifS, asgS, parS, nxS, raiseS, varE, cE, op2, andT, orT, notT, notE, ifE, nilA, consA, tupE, lstE, asDs_nil, asDs_cons, asDs_map, callE, callX, bltE, one, truE, sliceE, noO, someO, nameG, tupG, consG, nilG, okIf, negE, bindR_ok, bindR_exc, bindR_err, bindS_ok, bindS_exc, bindS_err, seqR_nx, seqR_ret, seqR_exc, seqR_brk, seqR_cnt, seqR_err, noX_ok, fin_nx, fin_d, fin_exc, fin_scr, eq_str, ne_str, eq_int, ne_int, List.map_cons, List.map_nil, List.cons_append, List.nil_append, List.getElem?_cons_zero, List.getElem?_cons_succ, List.length_cons, List.length_nil, Nat.reduceAdd, Nat.reduceSub, List.replicate_zero, List.replicate_succ, List.set_cons_zero, List.set_cons_succ, List.take_length, Option.bind_some, Bool.not_true, Bool.not_false, if_true, if_false, Bool.false_eq_true, ite_true, ite_false, ite_self, decide_true, decide_false, Nat.zero_le, reduceCtorEq, andE_eq, andK_bl, orE_eq, orK_bl, asB_eq, asK_bl, Option.map_some, sz1, sz2, sz3, sz4, cst1, cst2, cst3] at e
            rw [e]
            simp
        rw [run ps [] h'.2 (by simpa using small_size (Nat.le_trans h'.1 (by omega)))]
        simp only [bindR_ok, lcK, List.nil_append]
      simp only [g_are_pieces, N_are_pieces, funD, funX, funK, env0, retS, retN, exprS, setS, seqS, ifS, asgS, parS, nxS, raiseS, varE, cE, op2, andT, orT, notT, notE, ifE, nilA, consA, tupE, lstE, asDs_nil, asDs_cons, asDs_map, callE, callX, bltE, one, truE, sliceE, noO, someO, nameG, tupG, consG, nilG, okIf, negE, bindR_ok, bindR_exc, bindR_err, bindS_ok, bindS_exc, bindS_err, seqR_nx, seqR_ret, seqR_exc, seqR_brk, seqR_cnt, seqR_err, noX_ok, fin_nx, fin_d, fin_exc, fin_scr, eq_str, ne_str, eq_int, ne_int, List.map_cons, List.map_nil, List.cons_append, List.nil_append, List.getElem?_cons_zero, List.getElem?_cons_succ, List.length_cons, List.length_nil, Nat.reduceAdd, Nat.reduceSub, List.replicate_zero, List.replicate_succ, List.set_cons_zero, List.set_cons_succ, List.take_length, Option.bind_some, Bool.not_true, Bool.not_false, if_true, if_false, Bool.false_eq_true, ite_true, ite_false, ite_self, decide_true, decide_false, Nat.zero_le, reduceCtorEq, andE_eq, andK_bl, orE_eq, orK_bl, asB_eq, asK_bl, Option.map_some, sz1, sz2, sz3, sz4, cst1, cst2, cst3]
      rw [isi_tup (xs := toDs ps) rfl]
      simp only [funD, funX, funK, env0, retS, retN, exprS, setS, seqS, ifS, asgS, parS, nxS, raiseS, varE, cE, op2, andT, orT, notT, notE, ifE, nilA, consA, tupE, lstE, asDs_nil, asDs_cons, asDs_map, callE, callX, bltE, one, truE, sliceE, noO, someO, nameG, tupG, consG, nilG, okIf, negE, bindR_ok, bindR_exc, bindR_err, bindS_ok, bindS_exc, bindS_err, seqR_nx, seqR_ret, seqR_exc, seqR_brk, seqR_cnt, seqR_err, noX_ok, fin_nx, fin_d, fin_exc, fin_scr, eq_str, ne_str, eq_int, ne_int, List.map_cons, List.map_nil, List.cons_append, List.nil_append, List.getElem?_cons_zero, List.getElem?_cons_succ, List.length_cons, List.length_nil, Nat.reduceAdd, Nat.reduceSub, List.replicate_zero, List.replicate_succ, List.set_cons_zero, List.set_cons_succ, List.take_length, Option.bind_some, Bool.not_true, Bool.not_false, if_true, if_false, Bool.false_eq_true, ite_true, ite_false, ite_self, decide_true, decide_false, Nat.zero_le, reduceCtorEq, andE_eq, andK_bl, orE_eq, orK_bl, asB_eq, asK_bl, Option.map_some, sz1, sz2, sz3, sz4, cst1, cst2, cst3]
      rw [lc]
      simp only [funD, funX, funK, env0, retS, retN, exprS, setS, seqS, ifS, asgS, parS, nxS, raiseS, varE, cE, op2, andT, orT, notT, notE, ifE, nilA, consA, tupE, lstE, asDs_nil, asDs_cons, asDs_map, callE, callX, bltE, one, truE, sliceE, noO, someO, nameG, tupG, consG, nilG, okIf, negE, bindR_ok, bindR_exc, bindR_err, bindS_ok, bindS_exc, bindS_err, seqR_nx, seqR_ret, seqR_exc, seqR_brk, seqR_cnt, seqR_err, noX_ok, fin_nx, fin_d, fin_exc, fin_scr, eq_str, ne_str, eq_int, ne_int, List.map_cons, List.map_nil, List.cons_append, List.nil_append, List.getElem?_cons_zero, List.getElem?_cons_succ, List.length_cons, List.length_nil, Nat.reduceAdd, Nat.reduceSub, List.replicate_zero, List.replicate_succ, List.set_cons_zero, List.set_cons_succ, List.take_length, Option.bind_some, Bool.not_true, Bool.not_false, if_true, if_false, Bool.false_eq_true, ite_true, ite_false, ite_self, decide_true, decide_false, Nat.zero_le, reduceCtorEq, andE_eq, andK_bl, orE_eq, orK_bl, asB_eq, asK_bl, Option.map_some, sz1, sz2, sz3, sz4, cst1, cst2, cst3]
      rw [all_lst (bools_map _ _), piecesB_all]
      simp only [List.all_map, funD, funX, funK, env0, retS, retN, exprS, setS, seqS, ifS, asgS, parS, nxS, raiseS, varE, cE, op2, andT, orT, notT, notE, ifE, nilA, consA, tupE, lstE, asDs_nil, asDs_cons, asDs_map, callE, callX, bltE, one, truE, sliceE, noO, someO, nameG, tupG, consG, nilG, okIf, negE, bindR_ok, bindR_exc, bindR_err, bindS_ok, bindS_exc, bindS_err, seqR_nx, seqR_ret, seqR_exc, seqR_brk, seqR_cnt, seqR_err, noX_ok, fin_nx, fin_d, fin_exc, fin_scr, eq_str, ne_str, eq_int, ne_int, List.map_cons, List.map_nil, List.cons_append, List.nil_append, List.getElem?_cons_zero, List.getElem?_cons_succ, List.length_cons, List.length_nil, Nat.reduceAdd, Nat.reduceSub, List.replicate_zero, List.replicate_succ, List.set_cons_zero, List.set_cons_succ, List.take_length, Option.bind_some, Bool.not_true, Bool.not_false, if_true, if_false, Bool.false_eq_true, ite_true, ite_false, ite_self, decide_true, decide_false, Nat.zero_le, reduceCtorEq, andE_eq, andK_bl, orE_eq, orK_bl, asB_eq, asK_bl, Option.map_some, sz1, sz2, sz3, sz4, cst1, cst2, cst3]
      rfl
end K50
end

section
set_option Elab.async false
set_option linter.all false
set_option autoImplicit false
set_option maxRecDepth 100000
set_option maxHeartbeats 4000000
/-! KP4: is_rule, parts_in, read_rule as plain functions. -/
namespace DL
open PySem
theorem try_nx {sub : Str → Option Bool} {b : SS} {s : Str → List Str → List D → SS} {ρ ρ' : Env} {st st' : Store} (h : b ρ st = .nx ρ' st') : tryS sub b s ρ st = .nx ρ' st' := by
  unfold tryS
  rw [h]
theorem try_exc {sub : Str → Option Bool} {b : SS} {s : Str → List Str → List D → SS} {ρ ρ' : Env} {st st' : Store} {c : Str} {ns : List Str} {vs : List D} (h : b ρ st = .exc ρ' c ns vs st') (hs : sub c = some true) : tryS sub b s ρ st = noXS (s c ns vs ρ' st') := by
  unfold tryS
  rw [h]
  simp only [hs]
theorem part_ok {z b : Str} {st : Store} (hb : (b.length == 0) = false) (hz : z.length ≤ sizeLine) : partV z (.d (.str b)) st = .ok (.d (.tup [.str (Txt.partition z b).1, .str (Txt.partition z b).2.1, .str (Txt.partition z b).2.2])) st := by
  unfold partV
  exact if_pos ⟨hb, hz⟩
theorem truV_tup {xs : List D} {s1 : Store} : truV (.d (.tup xs)) s1 = some (!xs.isEmpty) := by
  unfold truV
  cases xs <;> rfl
theorem tru_tup {f : SE} {ρ : Env} {st s1 : Store} {xs : List D} (h : f ρ st = .ok (.d (.tup xs)) s1) : truE f ρ st = .ok (!xs.isEmpty) s1 := by
  unfold truE
  rw [h, bindR_ok]
  have : truV (.d (.tup xs)) s1 = some (!xs.isEmpty) := by
    unfold truV
    cases xs <;> rfl
  simp only [this]
end DL
namespace K50
open PySem DL
inductive PI where
  | ps (ps : List Part) | no | bad (a : Nat) | err
def partsIn (w : T) : PI := if w = [45] then .ps [] else match IP 12 (40 :: (w ++ [41])) 0 with
  | .ok ps b => if b = w.length + 2 then (if ps.isEmpty then .no else .ps ps) else .no
  | .bad a => .bad a
  | .err => .err
def toPI (r : PI) (st : Store) : R Val := match r with
  | .ps ps => .ok (.d (.tup (toDs ps))) st
  | .no => .ok (.d .non) st
  | .bad a => .exc ("InvalidText" : Str) [("at" : Str)] [.int a] st
  | .err => .err
theorem c_dash : ("-" : Str) = S [45] := by decide +kernel
theorem c_hash : ("#" : Str) = S [35] := by decide +kernel
theorem f_parts_in {w : T} (hw : w.length ≤ 1000) (st : Store) : F_parts_in [.d (.str (S w))] st = toPI (partsIn w) st := by
  have ht : (40 :: (w ++ [41]) : T).length ≤ sizeLine := small_size (by simp; omega)
  have l1 : (S w).length ≤ sizeLine := by rw [S_len]; exact small_size (by omega)
  have a1 : (S [40]).length + (S w).length ≤ sizeLine := by rw [S_len, S_len]; exact small_size (by simp; omega)
  have a2 : (S (40 :: w)).length + (S [41]).length ≤ sizeLine := by rw [S_len, S_len]; exact small_size (by simp; omega)
  unfold F_parts_in g_parts_in partsIn
  simp only [N_parts_in, c_dash, S_inj, funD, funX, funK, env0, retS, retN, exprS, setS, seqS, ifS, asgS, parS, nxS, raiseS, varE, cE, op2, andT, orT, notT, notE, ifE, nilA, consA, tupE, lstE, asDs_nil, asDs_cons, asDs_map, callE, callX, bltE, one, truE, sliceE, noO, someO, nameG, tupG, consG, nilG, okIf, negE, bindR_ok, bindR_exc, bindR_err, bindS_ok, bindS_exc, bindS_err, seqR_nx, seqR_ret, seqR_exc, seqR_brk, seqR_cnt, seqR_err, noX_ok, fin_nx, fin_d, fin_exc, fin_scr, eq_str, ne_str, eq_int, ne_int, List.map_cons, List.map_nil, List.cons_append, List.nil_append, List.getElem?_cons_zero, List.getElem?_cons_succ, List.length_cons, List.length_nil, Nat.reduceAdd, Nat.reduceSub, List.replicate_zero, List.replicate_succ, List.set_cons_zero, List.set_cons_succ, List.take_length, Option.bind_some, Bool.not_true, Bool.not_false, if_true, if_false, Bool.false_eq_true, ite_true, ite_false, ite_self, decide_true, decide_false, Nat.zero_le, reduceCtorEq, andE_eq, andK_bl, orE_eq, orK_bl, asB_eq, asK_bl, Option.map_some, sz1, sz2, sz3, sz4, cst1, cst2, cst3]
  by_cases h : w = [45]
  · simp only [h, if_true, decide_true, toPI, toDs, funD, funX, funK, env0, retS, retN, exprS, setS, seqS, ifS, asgS, parS, nxS, raiseS, varE, cE, op2, andT, orT, notT, notE, ifE, nilA, consA, tupE, lstE, asDs_nil, asDs_cons, asDs_map, callE, callX, bltE, one, truE, sliceE, noO, someO, nameG, tupG, consG, nilG, okIf, negE, bindR_ok, bindR_exc, bindR_err, bindS_ok, bindS_exc, bindS_err, seqR_nx, seqR_ret, seqR_exc, seqR_brk, seqR_cnt, seqR_err, noX_ok, fin_nx, fin_d, fin_exc, fin_scr, eq_str, ne_str, eq_int, ne_int, List.map_cons, List.map_nil, List.cons_append, List.nil_append, List.getElem?_cons_zero, List.getElem?_cons_succ, List.length_cons, List.length_nil, Nat.reduceAdd, Nat.reduceSub, List.replicate_zero, List.replicate_succ, List.set_cons_zero, List.set_cons_succ, List.take_length, Option.bind_some, Bool.not_true, Bool.not_false, if_true, if_false, Bool.false_eq_true, ite_true, ite_false, ite_self, decide_true, decide_false, Nat.zero_le, reduceCtorEq, andE_eq, andK_bl, orE_eq, orK_bl, asB_eq, asK_bl, Option.map_some, sz1, sz2, sz3, sz4, cst1, cst2, cst3]
  simp only [h, if_false, decide_false, Bool.false_eq_true, c_open, c_close, add_str a1, S_app, add_str a2, funD, funX, funK, env0, retS, retN, exprS, setS, seqS, ifS, asgS, parS, nxS, raiseS, varE, cE, op2, andT, orT, notT, notE, ifE, nilA, consA, tupE, lstE, asDs_nil, asDs_cons, asDs_map, callE, callX, bltE, one, truE, sliceE, noO, someO, nameG, tupG, consG, nilG, okIf, negE, bindR_ok, bindR_exc, bindR_err, bindS_ok, bindS_exc, bindS_err, seqR_nx, seqR_ret, seqR_exc, seqR_brk, seqR_cnt, seqR_err, noX_ok, fin_nx, fin_d, fin_exc, fin_scr, eq_str, ne_str, eq_int, ne_int, List.map_cons, List.map_nil, List.cons_append, List.nil_append, List.getElem?_cons_zero, List.getElem?_cons_succ, List.length_cons, List.length_nil, Nat.reduceAdd, Nat.reduceSub, List.replicate_zero, List.replicate_succ, List.set_cons_zero, List.set_cons_succ, List.take_length, Option.bind_some, Bool.not_true, Bool.not_false, if_true, if_false, Bool.false_eq_true, ite_true, ite_false, ite_self, decide_true, decide_false, Nat.zero_le, reduceCtorEq, andE_eq, andK_bl, orE_eq, orK_bl, asB_eq, asK_bl, Option.map_some, sz1, sz2, sz3, sz4, cst1, cst2, cst3]
  have e0 : (0 : Int) = ((0 : Nat) : Int) := rfl
  rw [e0, (f_both ht 12).1 0 st]
  cases IP 12 (40 :: (w ++ [41])) 0 with
  | err => rfl
  | bad a => simp only [toR, toPI, funD, funX, funK, env0, retS, retN, exprS, setS, seqS, ifS, asgS, parS, nxS, raiseS, varE, cE, op2, andT, orT, notT, notE, ifE, nilA, consA, tupE, lstE, asDs_nil, asDs_cons, asDs_map, callE, callX, bltE, one, truE, sliceE, noO, someO, nameG, tupG, consG, nilG, okIf, negE, bindR_ok, bindR_exc, bindR_err, bindS_ok, bindS_exc, bindS_err, seqR_nx, seqR_ret, seqR_exc, seqR_brk, seqR_cnt, seqR_err, noX_ok, fin_nx, fin_d, fin_exc, fin_scr, eq_str, ne_str, eq_int, ne_int, List.map_cons, List.map_nil, List.cons_append, List.nil_append, List.getElem?_cons_zero, List.getElem?_cons_succ, List.length_cons, List.length_nil, Nat.reduceAdd, Nat.reduceSub, List.replicate_zero, List.replicate_succ, List.set_cons_zero, List.set_cons_succ, List.take_length, Option.bind_some, Bool.not_true, Bool.not_false, if_true, if_false, Bool.false_eq_true, ite_true, ite_false, ite_self, decide_true, decide_false, Nat.zero_le, reduceCtorEq, andE_eq, andK_bl, orE_eq, orK_bl, asB_eq, asK_bl, Option.map_some, sz1, sz2, sz3, sz4, cst1, cst2, cst3]
  | ok ps b =>
    simp only [toR, dTup, len_str l1, S_len, add_int, truV_tup, funD, funX, funK, env0, retS, retN, exprS, setS, seqS, ifS, asgS, parS, nxS, raiseS, varE, cE, op2, andT, orT, notT, notE, ifE, nilA, consA, tupE, lstE, asDs_nil, asDs_cons, asDs_map, callE, callX, bltE, one, truE, sliceE, noO, someO, nameG, tupG, consG, nilG, okIf, negE, bindR_ok, bindR_exc, bindR_err, bindS_ok, bindS_exc, bindS_err, seqR_nx, seqR_ret, seqR_exc, seqR_brk, seqR_cnt, seqR_err, noX_ok, fin_nx, fin_d, fin_exc, fin_scr, eq_str, ne_str, eq_int, ne_int, List.map_cons, List.map_nil, List.cons_append, List.nil_append, List.getElem?_cons_zero, List.getElem?_cons_succ, List.length_cons, List.length_nil, Nat.reduceAdd, Nat.reduceSub, List.replicate_zero, List.replicate_succ, List.set_cons_zero, List.set_cons_succ, List.take_length, Option.bind_some, Bool.not_true, Bool.not_false, if_true, if_false, Bool.false_eq_true, ite_true, ite_false, ite_self, decide_true, decide_false, Nat.zero_le, reduceCtorEq, andE_eq, andK_bl, orE_eq, orK_bl, asB_eq, asK_bl, Option.map_some, sz1, sz2, sz3, sz4, cst1, cst2, cst3]
    have q : (((b : Nat) : Int) = ((w.length : Nat) : Int) + 2) = (b = w.length + 2) := propext (by omega)
    simp only [q]
    by_cases hb : b = w.length + 2
    · simp only [hb, decide_true, if_true]
      simp only [truV_tup, funD, funX, funK, env0, retS, retN, exprS, setS, seqS, ifS, asgS, parS, nxS, raiseS, varE, cE, op2, andT, orT, notT, notE, ifE, nilA, consA, tupE, lstE, asDs_nil, asDs_cons, asDs_map, callE, callX, bltE, one, truE, sliceE, noO, someO, nameG, tupG, consG, nilG, okIf, negE, bindR_ok, bindR_exc, bindR_err, bindS_ok, bindS_exc, bindS_err, seqR_nx, seqR_ret, seqR_exc, seqR_brk, seqR_cnt, seqR_err, noX_ok, fin_nx, fin_d, fin_exc, fin_scr, eq_str, ne_str, eq_int, ne_int, List.map_cons, List.map_nil, List.cons_append, List.nil_append, List.getElem?_cons_zero, List.getElem?_cons_succ, List.length_cons, List.length_nil, Nat.reduceAdd, Nat.reduceSub, List.replicate_zero, List.replicate_succ, List.set_cons_zero, List.set_cons_succ, List.take_length, Option.bind_some, Bool.not_true, Bool.not_false, if_true, if_false, Bool.false_eq_true, ite_true, ite_false, ite_self, decide_true, decide_false, Nat.zero_le, reduceCtorEq, andE_eq, andK_bl, orE_eq, orK_bl, asB_eq, asK_bl, Option.map_some, sz1, sz2, sz3, sz4, cst1, cst2, cst3]
      cases ps with
      | nil => simp only [List.map_nil, List.isEmpty_nil, Bool.not_true, toPI, if_true, funD, funX, funK, env0, retS, retN, exprS, setS, seqS, ifS, asgS, parS, nxS, raiseS, varE, cE, op2, andT, orT, notT, notE, ifE, nilA, consA, tupE, lstE, asDs_nil, asDs_cons, asDs_map, callE, callX, bltE, one, truE, sliceE, noO, someO, nameG, tupG, consG, nilG, okIf, negE, bindR_ok, bindR_exc, bindR_err, bindS_ok, bindS_exc, bindS_err, seqR_nx, seqR_ret, seqR_exc, seqR_brk, seqR_cnt, seqR_err, noX_ok, fin_nx, fin_d, fin_exc, fin_scr, eq_str, ne_str, eq_int, ne_int, List.map_cons, List.map_nil, List.cons_append, List.nil_append, List.getElem?_cons_zero, List.getElem?_cons_succ, List.length_cons, List.length_nil, Nat.reduceAdd, Nat.reduceSub, List.replicate_zero, List.replicate_succ, List.set_cons_zero, List.set_cons_succ, List.take_length, Option.bind_some, Bool.not_true, Bool.not_false, if_true, if_false, Bool.false_eq_true, ite_true, ite_false, ite_self, decide_true, decide_false, Nat.zero_le, reduceCtorEq, andE_eq, andK_bl, orE_eq, orK_bl, asB_eq, asK_bl, Option.map_some, sz1, sz2, sz3, sz4, cst1, cst2, cst3]
      | cons p ps => simp only [List.map_cons, List.isEmpty_cons, Bool.not_false, toPI, toDs_map, if_false, Bool.false_eq_true, funD, funX, funK, env0, retS, retN, exprS, setS, seqS, ifS, asgS, parS, nxS, raiseS, varE, cE, op2, andT, orT, notT, notE, ifE, nilA, consA, tupE, lstE, asDs_nil, asDs_cons, asDs_map, callE, callX, bltE, one, truE, sliceE, noO, someO, nameG, tupG, consG, nilG, okIf, negE, bindR_ok, bindR_exc, bindR_err, bindS_ok, bindS_exc, bindS_err, seqR_nx, seqR_ret, seqR_exc, seqR_brk, seqR_cnt, seqR_err, noX_ok, fin_nx, fin_d, fin_exc, fin_scr, eq_str, ne_str, eq_int, ne_int, List.map_cons, List.map_nil, List.cons_append, List.nil_append, List.getElem?_cons_zero, List.getElem?_cons_succ, List.length_cons, List.length_nil, Nat.reduceAdd, Nat.reduceSub, List.replicate_zero, List.replicate_succ, List.set_cons_zero, List.set_cons_succ, List.take_length, Option.bind_some, Bool.not_true, Bool.not_false, if_true, if_false, Bool.false_eq_true, ite_true, ite_false, ite_self, decide_true, decide_false, Nat.zero_le, reduceCtorEq, andE_eq, andK_bl, orE_eq, orK_bl, asB_eq, asK_bl, Option.map_some, sz1, sz2, sz3, sz4, cst1, cst2, cst3]
    · simp only [hb, decide_false, if_false, Bool.false_eq_true, toPI, funD, funX, funK, env0, retS, retN, exprS, setS, seqS, ifS, asgS, parS, nxS, raiseS, varE, cE, op2, andT, orT, notT, notE, ifE, nilA, consA, tupE, lstE, asDs_nil, asDs_cons, asDs_map, callE, callX, bltE, one, truE, sliceE, noO, someO, nameG, tupG, consG, nilG, okIf, negE, bindR_ok, bindR_exc, bindR_err, bindS_ok, bindS_exc, bindS_err, seqR_nx, seqR_ret, seqR_exc, seqR_brk, seqR_cnt, seqR_err, noX_ok, fin_nx, fin_d, fin_exc, fin_scr, eq_str, ne_str, eq_int, ne_int, List.map_cons, List.map_nil, List.cons_append, List.nil_append, List.getElem?_cons_zero, List.getElem?_cons_succ, List.length_cons, List.length_nil, Nat.reduceAdd, Nat.reduceSub, List.replicate_zero, List.replicate_succ, List.set_cons_zero, List.set_cons_succ, List.take_length, Option.bind_some, Bool.not_true, Bool.not_false, if_true, if_false, Bool.false_eq_true, ite_true, ite_false, ite_self, decide_true, decide_false, Nat.zero_le, reduceCtorEq, andE_eq, andK_bl, orE_eq, orK_bl, asB_eq, asK_bl, Option.map_some, sz1, sz2, sz3, sz4, cst1, cst2, cst3]
theorem f_tuple3 {a b c : D} (st : Store) : F_is_tuple_of [.d (.tup [a, b, c]), .d (.int 3)] st = .ok (.d (.bl true)) st := by
  unfold F_is_tuple_of g_is_tuple_of
  simp only [N_is_tuple_of, funD, funX, funK, env0, retS, retN, exprS, setS, seqS, ifS, asgS, parS, nxS, raiseS, varE, cE, op2, andT, orT, notT, notE, ifE, nilA, consA, tupE, lstE, asDs_nil, asDs_cons, asDs_map, callE, callX, bltE, one, truE, sliceE, noO, someO, nameG, tupG, consG, nilG, okIf, negE, bindR_ok, bindR_exc, bindR_err, bindS_ok, bindS_exc, bindS_err, seqR_nx, seqR_ret, seqR_exc, seqR_brk, seqR_cnt, seqR_err, noX_ok, fin_nx, fin_d, fin_exc, fin_scr, eq_str, ne_str, eq_int, ne_int, List.map_cons, List.map_nil, List.cons_append, List.nil_append, List.getElem?_cons_zero, List.getElem?_cons_succ, List.length_cons, List.length_nil, Nat.reduceAdd, Nat.reduceSub, List.replicate_zero, List.replicate_succ, List.set_cons_zero, List.set_cons_succ, List.take_length, Option.bind_some, Bool.not_true, Bool.not_false, if_true, if_false, Bool.false_eq_true, ite_true, ite_false, ite_self, decide_true, decide_false, Nat.zero_le, reduceCtorEq, andE_eq, andK_bl, orE_eq, orK_bl, asB_eq, asK_bl, Option.map_some, sz1, sz2, sz3, sz4, cst1, cst2, cst3]
  rw [isi_tup (xs := [a, b, c]) rfl]
  simp only [len_tup, funD, funX, funK, env0, retS, retN, exprS, setS, seqS, ifS, asgS, parS, nxS, raiseS, varE, cE, op2, andT, orT, notT, notE, ifE, nilA, consA, tupE, lstE, asDs_nil, asDs_cons, asDs_map, callE, callX, bltE, one, truE, sliceE, noO, someO, nameG, tupG, consG, nilG, okIf, negE, bindR_ok, bindR_exc, bindR_err, bindS_ok, bindS_exc, bindS_err, seqR_nx, seqR_ret, seqR_exc, seqR_brk, seqR_cnt, seqR_err, noX_ok, fin_nx, fin_d, fin_exc, fin_scr, eq_str, ne_str, eq_int, ne_int, List.map_cons, List.map_nil, List.cons_append, List.nil_append, List.getElem?_cons_zero, List.getElem?_cons_succ, List.length_cons, List.length_nil, Nat.reduceAdd, Nat.reduceSub, List.replicate_zero, List.replicate_succ, List.set_cons_zero, List.set_cons_succ, List.take_length, Option.bind_some, Bool.not_true, Bool.not_false, if_true, if_false, Bool.false_eq_true, ite_true, ite_false, ite_self, decide_true, decide_false, Nat.zero_le, reduceCtorEq, andE_eq, andK_bl, orE_eq, orK_bl, asB_eq, asK_bl, Option.map_some, sz1, sz2, sz3, sz4, cst1, cst2, cst3]
theorem f_pieces_non {l : T} (st : Store) : F_are_pieces 12 [.d .non, .d (.str (S l))] st = .ok (.d (.bl false)) st := by
  show funD N_are_pieces.length (g_are_pieces (F_is_piece 11)) _ st = _
  simp only [g_are_pieces, N_are_pieces, funD, funX, funK, env0, retS, retN, exprS, setS, seqS, ifS, asgS, parS, nxS, raiseS, varE, cE, op2, andT, orT, notT, notE, ifE, nilA, consA, tupE, lstE, asDs_nil, asDs_cons, asDs_map, callE, callX, bltE, one, truE, sliceE, noO, someO, nameG, tupG, consG, nilG, okIf, negE, bindR_ok, bindR_exc, bindR_err, bindS_ok, bindS_exc, bindS_err, seqR_nx, seqR_ret, seqR_exc, seqR_brk, seqR_cnt, seqR_err, noX_ok, fin_nx, fin_d, fin_exc, fin_scr, eq_str, ne_str, eq_int, ne_int, List.map_cons, List.map_nil, List.cons_append, List.nil_append, List.getElem?_cons_zero, List.getElem?_cons_succ, List.length_cons, List.length_nil, Nat.reduceAdd, Nat.reduceSub, List.replicate_zero, List.replicate_succ, List.set_cons_zero, List.set_cons_succ, List.take_length, Option.bind_some, Bool.not_true, Bool.not_false, if_true, if_false, Bool.false_eq_true, ite_true, ite_false, ite_self, decide_true, decide_false, Nat.zero_le, reduceCtorEq, andE_eq, andK_bl, orE_eq, orK_bl, asB_eq, asK_bl, Option.map_some, sz1, sz2, sz3, sz4, cst1, cst2, cst3]
  rw [isi_d (x := .non) (b := false) rfl (show tab_tuple (.b "NoneType") = some false by decide +kernel)]
  simp only [funD, funX, funK, env0, retS, retN, exprS, setS, seqS, ifS, asgS, parS, nxS, raiseS, varE, cE, op2, andT, orT, notT, notE, ifE, nilA, consA, tupE, lstE, asDs_nil, asDs_cons, asDs_map, callE, callX, bltE, one, truE, sliceE, noO, someO, nameG, tupG, consG, nilG, okIf, negE, bindR_ok, bindR_exc, bindR_err, bindS_ok, bindS_exc, bindS_err, seqR_nx, seqR_ret, seqR_exc, seqR_brk, seqR_cnt, seqR_err, noX_ok, fin_nx, fin_d, fin_exc, fin_scr, eq_str, ne_str, eq_int, ne_int, List.map_cons, List.map_nil, List.cons_append, List.nil_append, List.getElem?_cons_zero, List.getElem?_cons_succ, List.length_cons, List.length_nil, Nat.reduceAdd, Nat.reduceSub, List.replicate_zero, List.replicate_succ, List.set_cons_zero, List.set_cons_succ, List.take_length, Option.bind_some, Bool.not_true, Bool.not_false, if_true, if_false, Bool.false_eq_true, ite_true, ite_false, ite_self, decide_true, decide_false, Nat.zero_le, reduceCtorEq, andE_eq, andK_bl, orE_eq, orK_bl, asB_eq, asK_bl, Option.map_some, sz1, sz2, sz3, sz4, cst1, cst2, cst3]
theorem f_is_rule {m l : T} {x : D} {bx : Bool} (hm : m.length ≤ sizeLine) (hl : l.length ≤ sizeLine) (st : Store) (hx : F_are_pieces 12 [.d x, .d (.str (S l))] st = .ok (.d (.bl bx)) st) :
    F_is_rule [.d (.tup [.str (S m), .str (S l), x])] st = .ok (.d (.bl (nameB m && (letB l && bx)))) st := by
  unfold F_is_rule g_is_rule
  simp only [N_is_rule, f_tuple3, ix0, ix1, ix2, f_is_name hm, f_is_letter hl, funD, funX, funK, env0, retS, retN, exprS, setS, seqS, ifS, asgS, parS, nxS, raiseS, varE, cE, op2, andT, orT, notT, notE, ifE, nilA, consA, tupE, lstE, asDs_nil, asDs_cons, asDs_map, callE, callX, bltE, one, truE, sliceE, noO, someO, nameG, tupG, consG, nilG, okIf, negE, bindR_ok, bindR_exc, bindR_err, bindS_ok, bindS_exc, bindS_err, seqR_nx, seqR_ret, seqR_exc, seqR_brk, seqR_cnt, seqR_err, noX_ok, fin_nx, fin_d, fin_exc, fin_scr, eq_str, ne_str, eq_int, ne_int, List.map_cons, List.map_nil, List.cons_append, List.nil_append, List.getElem?_cons_zero, List.getElem?_cons_succ, List.length_cons, List.length_nil, Nat.reduceAdd, Nat.reduceSub, List.replicate_zero, List.replicate_succ, List.set_cons_zero, List.set_cons_succ, List.take_length, Option.bind_some, Bool.not_true, Bool.not_false, if_true, if_false, Bool.false_eq_true, ite_true, ite_false, ite_self, decide_true, decide_false, Nat.zero_le, reduceCtorEq, andE_eq, andK_bl, orE_eq, orK_bl, asB_eq, asK_bl, Option.map_some, sz1, sz2, sz3, sz4, cst1, cst2, cst3]
  cases nameB m with
  | false => simp only [Bool.not_false, Bool.false_and, if_true, funD, funX, funK, env0, retS, retN, exprS, setS, seqS, ifS, asgS, parS, nxS, raiseS, varE, cE, op2, andT, orT, notT, notE, ifE, nilA, consA, tupE, lstE, asDs_nil, asDs_cons, asDs_map, callE, callX, bltE, one, truE, sliceE, noO, someO, nameG, tupG, consG, nilG, okIf, negE, bindR_ok, bindR_exc, bindR_err, bindS_ok, bindS_exc, bindS_err, seqR_nx, seqR_ret, seqR_exc, seqR_brk, seqR_cnt, seqR_err, noX_ok, fin_nx, fin_d, fin_exc, fin_scr, eq_str, ne_str, eq_int, ne_int, List.map_cons, List.map_nil, List.cons_append, List.nil_append, List.getElem?_cons_zero, List.getElem?_cons_succ, List.length_cons, List.length_nil, Nat.reduceAdd, Nat.reduceSub, List.replicate_zero, List.replicate_succ, List.set_cons_zero, List.set_cons_succ, List.take_length, Option.bind_some, Bool.not_true, Bool.not_false, if_true, if_false, Bool.false_eq_true, ite_true, ite_false, ite_self, decide_true, decide_false, Nat.zero_le, reduceCtorEq, andE_eq, andK_bl, orE_eq, orK_bl, asB_eq, asK_bl, Option.map_some, sz1, sz2, sz3, sz4, cst1, cst2, cst3]
  | true =>
    rw [isi_str (z := S l) (by simp only [ix1, funD, funX, funK, env0, retS, retN, exprS, setS, seqS, ifS, asgS, parS, nxS, raiseS, varE, cE, op2, andT, orT, notT, notE, ifE, nilA, consA, tupE, lstE, asDs_nil, asDs_cons, asDs_map, callE, callX, bltE, one, truE, sliceE, noO, someO, nameG, tupG, consG, nilG, okIf, negE, bindR_ok, bindR_exc, bindR_err, bindS_ok, bindS_exc, bindS_err, seqR_nx, seqR_ret, seqR_exc, seqR_brk, seqR_cnt, seqR_err, noX_ok, fin_nx, fin_d, fin_exc, fin_scr, eq_str, ne_str, eq_int, ne_int, List.map_cons, List.map_nil, List.cons_append, List.nil_append, List.getElem?_cons_zero, List.getElem?_cons_succ, List.length_cons, List.length_nil, Nat.reduceAdd, Nat.reduceSub, List.replicate_zero, List.replicate_succ, List.set_cons_zero, List.set_cons_succ, List.take_length, Option.bind_some, Bool.not_true, Bool.not_false, if_true, if_false, Bool.false_eq_true, ite_true, ite_false, ite_self, decide_true, decide_false, Nat.zero_le, reduceCtorEq, andE_eq, andK_bl, orE_eq, orK_bl, asB_eq, asK_bl, Option.map_some, sz1, sz2, sz3, sz4, cst1, cst2, cst3])]
    simp only [Bool.not_true, Bool.true_and, funD, funX, funK, env0, retS, retN, exprS, setS, seqS, ifS, asgS, parS, nxS, raiseS, varE, cE, op2, andT, orT, notT, notE, ifE, nilA, consA, tupE, lstE, asDs_nil, asDs_cons, asDs_map, callE, callX, bltE, one, truE, sliceE, noO, someO, nameG, tupG, consG, nilG, okIf, negE, bindR_ok, bindR_exc, bindR_err, bindS_ok, bindS_exc, bindS_err, seqR_nx, seqR_ret, seqR_exc, seqR_brk, seqR_cnt, seqR_err, noX_ok, fin_nx, fin_d, fin_exc, fin_scr, eq_str, ne_str, eq_int, ne_int, List.map_cons, List.map_nil, List.cons_append, List.nil_append, List.getElem?_cons_zero, List.getElem?_cons_succ, List.length_cons, List.length_nil, Nat.reduceAdd, Nat.reduceSub, List.replicate_zero, List.replicate_succ, List.set_cons_zero, List.set_cons_succ, List.take_length, Option.bind_some, Bool.not_true, Bool.not_false, if_true, if_false, Bool.false_eq_true, ite_true, ite_false, ite_self, decide_true, decide_false, Nat.zero_le, reduceCtorEq, andE_eq, andK_bl, orE_eq, orK_bl, asB_eq, asK_bl, Option.map_some, sz1, sz2, sz3, sz4, cst1, cst2, cst3]
    cases letB l with
    | false => simp only [Bool.not_false, Bool.false_and, if_true, funD, funX, funK, env0, retS, retN, exprS, setS, seqS, ifS, asgS, parS, nxS, raiseS, varE, cE, op2, andT, orT, notT, notE, ifE, nilA, consA, tupE, lstE, asDs_nil, asDs_cons, asDs_map, callE, callX, bltE, one, truE, sliceE, noO, someO, nameG, tupG, consG, nilG, okIf, negE, bindR_ok, bindR_exc, bindR_err, bindS_ok, bindS_exc, bindS_err, seqR_nx, seqR_ret, seqR_exc, seqR_brk, seqR_cnt, seqR_err, noX_ok, fin_nx, fin_d, fin_exc, fin_scr, eq_str, ne_str, eq_int, ne_int, List.map_cons, List.map_nil, List.cons_append, List.nil_append, List.getElem?_cons_zero, List.getElem?_cons_succ, List.length_cons, List.length_nil, Nat.reduceAdd, Nat.reduceSub, List.replicate_zero, List.replicate_succ, List.set_cons_zero, List.set_cons_succ, List.take_length, Option.bind_some, Bool.not_true, Bool.not_false, if_true, if_false, Bool.false_eq_true, ite_true, ite_false, ite_self, decide_true, decide_false, Nat.zero_le, reduceCtorEq, andE_eq, andK_bl, orE_eq, orK_bl, asB_eq, asK_bl, Option.map_some, sz1, sz2, sz3, sz4, cst1, cst2, cst3]
    | true => simp only [Bool.not_true, Bool.true_and, ix1, ix2, hx, funD, funX, funK, env0, retS, retN, exprS, setS, seqS, ifS, asgS, parS, nxS, raiseS, varE, cE, op2, andT, orT, notT, notE, ifE, nilA, consA, tupE, lstE, asDs_nil, asDs_cons, asDs_map, callE, callX, bltE, one, truE, sliceE, noO, someO, nameG, tupG, consG, nilG, okIf, negE, bindR_ok, bindR_exc, bindR_err, bindS_ok, bindS_exc, bindS_err, seqR_nx, seqR_ret, seqR_exc, seqR_brk, seqR_cnt, seqR_err, noX_ok, fin_nx, fin_d, fin_exc, fin_scr, eq_str, ne_str, eq_int, ne_int, List.map_cons, List.map_nil, List.cons_append, List.nil_append, List.getElem?_cons_zero, List.getElem?_cons_succ, List.length_cons, List.length_nil, Nat.reduceAdd, Nat.reduceSub, List.replicate_zero, List.replicate_succ, List.set_cons_zero, List.set_cons_succ, List.take_length, Option.bind_some, Bool.not_true, Bool.not_false, if_true, if_false, Bool.false_eq_true, ite_true, ite_false, ite_self, decide_true, decide_false, Nat.zero_le, reduceCtorEq, andE_eq, andK_bl, orE_eq, orK_bl, asB_eq, asK_bl, Option.map_some, sz1, sz2, sz3, sz4, cst1, cst2, cst3]
inductive RRes where
  | no | rule (m l : T) (ps : List Part) | err
def hashT (l : T) : T := if l = [35] then [] else l
def rruleOf (m l w : T) : RRes := match partsIn w with
  | .err => .err
  | .bad _ => .no
  | .no => .no
  | .ps ps => if fitPs 12 ps = true then (if (!decide (l = []) && (nameB m && (letB (hashT l) && piecesB ps (hashT l)))) = true then .rule m (hashT l) ps else .no) else .err
def rrule (z : T) : RRes :=
  let p := Txt.partition (S z) (S [32])
  let q := Txt.partition p.2.2 (S [32])
  if z.length ≤ 1000 ∧ p.1.cps.toList.length ≤ 1000 ∧ p.2.2.length ≤ 1000 ∧ q.1.cps.toList.length ≤ 1000 ∧ q.2.2.cps.toList.length ≤ 1000 then rruleOf p.1.cps.toList q.1.cps.toList q.2.2.cps.toList else .err
def rdata (m l : T) (ps : List Part) : D := .tup [.str (S m), .str (S l), .tup (toDs ps)]
def toRR (r : RRes) (st : Store) : R Val := match r with
  | .no => .ok (.d .non) st
  | .rule m l ps => .ok (.d (rdata m l ps)) st
  | .err => .err
theorem f_read_rule {z : T} (st : Store) (h : rrule z ≠ .err) : F_read_rule [.d (.str (S z))] st = toRR (rrule z) st := by
  unfold rrule at h ⊢
  generalize hp : Txt.partition (S z) (S [32]) = p at h ⊢
  obtain ⟨p1, p2, p3⟩ := p
  simp only at h ⊢
  generalize hq : Txt.partition p3 (S [32]) = q at h ⊢
  obtain ⟨q1, q2, q3⟩ := q
  simp only at h ⊢
  by_cases hs : z.length ≤ 1000 ∧ p1.cps.toList.length ≤ 1000 ∧ p3.length ≤ 1000 ∧ q1.cps.toList.length ≤ 1000 ∧ q3.cps.toList.length ≤ 1000
  case neg => rw [if_neg hs] at h; exact absurd rfl h
  rw [if_pos hs] at h ⊢
  obtain ⟨z1, z2, z3, z4, z5⟩ := hs
  obtain ⟨m, rfl⟩ : ∃ m, p1 = S m := ⟨_, (S_of p1).symm⟩
  obtain ⟨l, rfl⟩ : ∃ l, q1 = S l := ⟨_, (S_of q1).symm⟩
  obtain ⟨w, rfl⟩ : ∃ w, q3 = S w := ⟨_, (S_of q3).symm⟩
  rw [S_cps] at z2 z4 z5
  rw [S_cps, S_cps, S_cps] at h ⊢
  have b32 : ((S [32]).length == 0) = false := by rw [S_len]; rfl
  have sz : (S z).length ≤ sizeLine := by rw [S_len]; exact small_size (by omega)
  have s3 : p3.length ≤ sizeLine := small_size (by omega)
  have hm : m.length ≤ sizeLine := small_size (by omega)
  have hl : (hashT l).length ≤ sizeLine := by
    unfold hashT
    split
    · exact Nat.zero_le _
    · exact small_size (by omega)
  have hE : ∀ s : Store, (if decide (l = [35]) = true then R.ok (Val.d (.str (S []))) s else R.ok (Val.d (.str (S l))) s) = R.ok (Val.d (.str (S (hashT l)))) s := fun s => by
    unfold hashT
    by_cases e : l = [35] <;> simp only [e, decide_true, decide_false, if_true, if_false, Bool.false_eq_true]
  unfold F_read_rule g_read_rule
  simp only [N_read_rule, tm1E, c_blank, part_ok b32 sz, hp, part_ok b32 s3, hq, funD, funX, funK, env0, retS, retN, exprS, setS, seqS, ifS, asgS, parS, nxS, raiseS, varE, cE, op2, andT, orT, notT, notE, ifE, nilA, consA, tupE, lstE, asDs_nil, asDs_cons, asDs_map, callE, callX, bltE, one, truE, sliceE, noO, someO, nameG, tupG, consG, nilG, okIf, negE, bindR_ok, bindR_exc, bindR_err, bindS_ok, bindS_exc, bindS_err, seqR_nx, seqR_ret, seqR_exc, seqR_brk, seqR_cnt, seqR_err, noX_ok, fin_nx, fin_d, fin_exc, fin_scr, eq_str, ne_str, eq_int, ne_int, List.map_cons, List.map_nil, List.cons_append, List.nil_append, List.getElem?_cons_zero, List.getElem?_cons_succ, List.length_cons, List.length_nil, Nat.reduceAdd, Nat.reduceSub, List.replicate_zero, List.replicate_succ, List.set_cons_zero, List.set_cons_succ, List.take_length, Option.bind_some, Bool.not_true, Bool.not_false, if_true, if_false, Bool.false_eq_true, ite_true, ite_false, ite_self, decide_true, decide_false, Nat.zero_le, reduceCtorEq, andE_eq, andK_bl, orE_eq, orK_bl, asB_eq, asK_bl, Option.map_some, sz1, sz2, sz3, sz4, cst1, cst2, cst3]
  unfold rruleOf at h ⊢
  cases hw : partsIn w with
  | err => rw [hw] at h; exact absurd rfl h
  | bad a =>
    rw [try_exc (c := ("InvalidText" : Str)) (ns := [("at" : Str)]) (vs := [.int a]) (by simp only [f_parts_in z5, hw, toPI, funD, funX, funK, env0, retS, retN, exprS, setS, seqS, ifS, asgS, parS, nxS, raiseS, varE, cE, op2, andT, orT, notT, notE, ifE, nilA, consA, tupE, lstE, asDs_nil, asDs_cons, asDs_map, callE, callX, bltE, one, truE, sliceE, noO, someO, nameG, tupG, consG, nilG, okIf, negE, bindR_ok, bindR_exc, bindR_err, bindS_ok, bindS_exc, bindS_err, seqR_nx, seqR_ret, seqR_exc, seqR_brk, seqR_cnt, seqR_err, noX_ok, fin_nx, fin_d, fin_exc, fin_scr, eq_str, ne_str, eq_int, ne_int, List.map_cons, List.map_nil, List.cons_append, List.nil_append, List.getElem?_cons_zero, List.getElem?_cons_succ, List.length_cons, List.length_nil, Nat.reduceAdd, Nat.reduceSub, List.replicate_zero, List.replicate_succ, List.set_cons_zero, List.set_cons_succ, List.take_length, Option.bind_some, Bool.not_true, Bool.not_false, if_true, if_false, Bool.false_eq_true, ite_true, ite_false, ite_self, decide_true, decide_false, Nat.zero_le, reduceCtorEq, andE_eq, andK_bl, orE_eq, orK_bl, asB_eq, asK_bl, Option.map_some, sz1, sz2, sz3, sz4, cst1, cst2, cst3]; rfl) (by decide +kernel)]
    simp only [noXS, toRR, funD, funX, funK, env0, retS, retN, exprS, setS, seqS, ifS, asgS, parS, nxS, raiseS, varE, cE, op2, andT, orT, notT, notE, ifE, nilA, consA, tupE, lstE, asDs_nil, asDs_cons, asDs_map, callE, callX, bltE, one, truE, sliceE, noO, someO, nameG, tupG, consG, nilG, okIf, negE, bindR_ok, bindR_exc, bindR_err, bindS_ok, bindS_exc, bindS_err, seqR_nx, seqR_ret, seqR_exc, seqR_brk, seqR_cnt, seqR_err, noX_ok, fin_nx, fin_d, fin_exc, fin_scr, eq_str, ne_str, eq_int, ne_int, List.map_cons, List.map_nil, List.cons_append, List.nil_append, List.getElem?_cons_zero, List.getElem?_cons_succ, List.length_cons, List.length_nil, Nat.reduceAdd, Nat.reduceSub, List.replicate_zero, List.replicate_succ, List.set_cons_zero, List.set_cons_succ, List.take_length, Option.bind_some, Bool.not_true, Bool.not_false, if_true, if_false, Bool.false_eq_true, ite_true, ite_false, ite_self, decide_true, decide_false, Nat.zero_le, reduceCtorEq, andE_eq, andK_bl, orE_eq, orK_bl, asB_eq, asK_bl, Option.map_some, sz1, sz2, sz3, sz4, cst1, cst2, cst3]
  | no =>
    rw [try_nx (by simp only [f_parts_in z5, hw, toPI, funD, funX, funK, env0, retS, retN, exprS, setS, seqS, ifS, asgS, parS, nxS, raiseS, varE, cE, op2, andT, orT, notT, notE, ifE, nilA, consA, tupE, lstE, asDs_nil, asDs_cons, asDs_map, callE, callX, bltE, one, truE, sliceE, noO, someO, nameG, tupG, consG, nilG, okIf, negE, bindR_ok, bindR_exc, bindR_err, bindS_ok, bindS_exc, bindS_err, seqR_nx, seqR_ret, seqR_exc, seqR_brk, seqR_cnt, seqR_err, noX_ok, fin_nx, fin_d, fin_exc, fin_scr, eq_str, ne_str, eq_int, ne_int, List.map_cons, List.map_nil, List.cons_append, List.nil_append, List.getElem?_cons_zero, List.getElem?_cons_succ, List.length_cons, List.length_nil, Nat.reduceAdd, Nat.reduceSub, List.replicate_zero, List.replicate_succ, List.set_cons_zero, List.set_cons_succ, List.take_length, Option.bind_some, Bool.not_true, Bool.not_false, if_true, if_false, Bool.false_eq_true, ite_true, ite_false, ite_self, decide_true, decide_false, Nat.zero_le, reduceCtorEq, andE_eq, andK_bl, orE_eq, orK_bl, asB_eq, asK_bl, Option.map_some, sz1, sz2, sz3, sz4, cst1, cst2, cst3]; rfl)]
    simp only [c_hash, s_nil, S_inj, hE, funD, funX, funK, env0, retS, retN, exprS, setS, seqS, ifS, asgS, parS, nxS, raiseS, varE, cE, op2, andT, orT, notT, notE, ifE, nilA, consA, tupE, lstE, asDs_nil, asDs_cons, asDs_map, callE, callX, bltE, one, truE, sliceE, noO, someO, nameG, tupG, consG, nilG, okIf, negE, bindR_ok, bindR_exc, bindR_err, bindS_ok, bindS_exc, bindS_err, seqR_nx, seqR_ret, seqR_exc, seqR_brk, seqR_cnt, seqR_err, noX_ok, fin_nx, fin_d, fin_exc, fin_scr, eq_str, ne_str, eq_int, ne_int, List.map_cons, List.map_nil, List.cons_append, List.nil_append, List.getElem?_cons_zero, List.getElem?_cons_succ, List.length_cons, List.length_nil, Nat.reduceAdd, Nat.reduceSub, List.replicate_zero, List.replicate_succ, List.set_cons_zero, List.set_cons_succ, List.take_length, Option.bind_some, Bool.not_true, Bool.not_false, if_true, if_false, Bool.false_eq_true, ite_true, ite_false, ite_self, decide_true, decide_false, Nat.zero_le, reduceCtorEq, andE_eq, andK_bl, orE_eq, orK_bl, asB_eq, asK_bl, Option.map_some, sz1, sz2, sz3, sz4, cst1, cst2, cst3]
    rw [f_is_rule hm hl _ (f_pieces_non _)]
    simp only [funD, funX, funK, env0, retS, retN, exprS, setS, seqS, ifS, asgS, parS, nxS, raiseS, varE, cE, op2, andT, orT, notT, notE, ifE, nilA, consA, tupE, lstE, asDs_nil, asDs_cons, asDs_map, callE, callX, bltE, one, truE, sliceE, noO, someO, nameG, tupG, consG, nilG, okIf, negE, bindR_ok, bindR_exc, bindR_err, bindS_ok, bindS_exc, bindS_err, seqR_nx, seqR_ret, seqR_exc, seqR_brk, seqR_cnt, seqR_err, noX_ok, fin_nx, fin_d, fin_exc, fin_scr, eq_str, ne_str, eq_int, ne_int, List.map_cons, List.map_nil, List.cons_append, List.nil_append, List.getElem?_cons_zero, List.getElem?_cons_succ, List.length_cons, List.length_nil, Nat.reduceAdd, Nat.reduceSub, List.replicate_zero, List.replicate_succ, List.set_cons_zero, List.set_cons_succ, List.take_length, Option.bind_some, Bool.not_true, Bool.not_false, if_true, if_false, Bool.false_eq_true, ite_true, ite_false, ite_self, decide_true, decide_false, Nat.zero_le, reduceCtorEq, andE_eq, andK_bl, orE_eq, orK_bl, asB_eq, asK_bl, Option.map_some, sz1, sz2, sz3, sz4, cst1, cst2, cst3]
    cases decide (l = []) <;> simp only [Bool.and_false, toRR, funD, funX, funK, env0, retS, retN, exprS, setS, seqS, ifS, asgS, parS, nxS, raiseS, varE, cE, op2, andT, orT, notT, notE, ifE, nilA, consA, tupE, lstE, asDs_nil, asDs_cons, asDs_map, callE, callX, bltE, one, truE, sliceE, noO, someO, nameG, tupG, consG, nilG, okIf, negE, bindR_ok, bindR_exc, bindR_err, bindS_ok, bindS_exc, bindS_err, seqR_nx, seqR_ret, seqR_exc, seqR_brk, seqR_cnt, seqR_err, noX_ok, fin_nx, fin_d, fin_exc, fin_scr, eq_str, ne_str, eq_int, ne_int, List.map_cons, List.map_nil, List.cons_append, List.nil_append, List.getElem?_cons_zero, List.getElem?_cons_succ, List.length_cons, List.length_nil, Nat.reduceAdd, Nat.reduceSub, List.replicate_zero, List.replicate_succ, List.set_cons_zero, List.set_cons_succ, List.take_length, Option.bind_some, Bool.not_true, Bool.not_false, if_true, if_false, Bool.false_eq_true, ite_true, ite_false, ite_self, decide_true, decide_false, Nat.zero_le, reduceCtorEq, andE_eq, andK_bl, orE_eq, orK_bl, asB_eq, asK_bl, Option.map_some, sz1, sz2, sz3, sz4, cst1, cst2, cst3]
  | ps ps =>
    rw [hw] at h
    simp only at h ⊢
    by_cases hf : fitPs 12 ps = true
    case neg => rw [if_neg hf] at h; exact absurd rfl h
    rw [if_pos hf] at h ⊢
    rw [try_nx (by simp only [f_parts_in z5, hw, toPI, funD, funX, funK, env0, retS, retN, exprS, setS, seqS, ifS, asgS, parS, nxS, raiseS, varE, cE, op2, andT, orT, notT, notE, ifE, nilA, consA, tupE, lstE, asDs_nil, asDs_cons, asDs_map, callE, callX, bltE, one, truE, sliceE, noO, someO, nameG, tupG, consG, nilG, okIf, negE, bindR_ok, bindR_exc, bindR_err, bindS_ok, bindS_exc, bindS_err, seqR_nx, seqR_ret, seqR_exc, seqR_brk, seqR_cnt, seqR_err, noX_ok, fin_nx, fin_d, fin_exc, fin_scr, eq_str, ne_str, eq_int, ne_int, List.map_cons, List.map_nil, List.cons_append, List.nil_append, List.getElem?_cons_zero, List.getElem?_cons_succ, List.length_cons, List.length_nil, Nat.reduceAdd, Nat.reduceSub, List.replicate_zero, List.replicate_succ, List.set_cons_zero, List.set_cons_succ, List.take_length, Option.bind_some, Bool.not_true, Bool.not_false, if_true, if_false, Bool.false_eq_true, ite_true, ite_false, ite_self, decide_true, decide_false, Nat.zero_le, reduceCtorEq, andE_eq, andK_bl, orE_eq, orK_bl, asB_eq, asK_bl, Option.map_some, sz1, sz2, sz3, sz4, cst1, cst2, cst3]; rfl)]
    simp only [c_hash, s_nil, S_inj, hE, funD, funX, funK, env0, retS, retN, exprS, setS, seqS, ifS, asgS, parS, nxS, raiseS, varE, cE, op2, andT, orT, notT, notE, ifE, nilA, consA, tupE, lstE, asDs_nil, asDs_cons, asDs_map, callE, callX, bltE, one, truE, sliceE, noO, someO, nameG, tupG, consG, nilG, okIf, negE, bindR_ok, bindR_exc, bindR_err, bindS_ok, bindS_exc, bindS_err, seqR_nx, seqR_ret, seqR_exc, seqR_brk, seqR_cnt, seqR_err, noX_ok, fin_nx, fin_d, fin_exc, fin_scr, eq_str, ne_str, eq_int, ne_int, List.map_cons, List.map_nil, List.cons_append, List.nil_append, List.getElem?_cons_zero, List.getElem?_cons_succ, List.length_cons, List.length_nil, Nat.reduceAdd, Nat.reduceSub, List.replicate_zero, List.replicate_succ, List.set_cons_zero, List.set_cons_succ, List.take_length, Option.bind_some, Bool.not_true, Bool.not_false, if_true, if_false, Bool.false_eq_true, ite_true, ite_false, ite_self, decide_true, decide_false, Nat.zero_le, reduceCtorEq, andE_eq, andK_bl, orE_eq, orK_bl, asB_eq, asK_bl, Option.map_some, sz1, sz2, sz3, sz4, cst1, cst2, cst3]
    rw [f_is_rule hm hl _ ((f_piece 12 (by omega)).2 ps (hashT l) _ hf hl)]
    simp only [funD, funX, funK, env0, retS, retN, exprS, setS, seqS, ifS, asgS, parS, nxS, raiseS, varE, cE, op2, andT, orT, notT, notE, ifE, nilA, consA, tupE, lstE, asDs_nil, asDs_cons, asDs_map, callE, callX, bltE, one, truE, sliceE, noO, someO, nameG, tupG, consG, nilG, okIf, negE, bindR_ok, bindR_exc, bindR_err, bindS_ok, bindS_exc, bindS_err, seqR_nx, seqR_ret, seqR_exc, seqR_brk, seqR_cnt, seqR_err, noX_ok, fin_nx, fin_d, fin_exc, fin_scr, eq_str, ne_str, eq_int, ne_int, List.map_cons, List.map_nil, List.cons_append, List.nil_append, List.getElem?_cons_zero, List.getElem?_cons_succ, List.length_cons, List.length_nil, Nat.reduceAdd, Nat.reduceSub, List.replicate_zero, List.replicate_succ, List.set_cons_zero, List.set_cons_succ, List.take_length, Option.bind_some, Bool.not_true, Bool.not_false, if_true, if_false, Bool.false_eq_true, ite_true, ite_false, ite_self, decide_true, decide_false, Nat.zero_le, reduceCtorEq, andE_eq, andK_bl, orE_eq, orK_bl, asB_eq, asK_bl, Option.map_some, sz1, sz2, sz3, sz4, cst1, cst2, cst3]
    cases decide (l = []) with
    | true => simp only [Bool.not_true, Bool.false_and, toRR, funD, funX, funK, env0, retS, retN, exprS, setS, seqS, ifS, asgS, parS, nxS, raiseS, varE, cE, op2, andT, orT, notT, notE, ifE, nilA, consA, tupE, lstE, asDs_nil, asDs_cons, asDs_map, callE, callX, bltE, one, truE, sliceE, noO, someO, nameG, tupG, consG, nilG, okIf, negE, bindR_ok, bindR_exc, bindR_err, bindS_ok, bindS_exc, bindS_err, seqR_nx, seqR_ret, seqR_exc, seqR_brk, seqR_cnt, seqR_err, noX_ok, fin_nx, fin_d, fin_exc, fin_scr, eq_str, ne_str, eq_int, ne_int, List.map_cons, List.map_nil, List.cons_append, List.nil_append, List.getElem?_cons_zero, List.getElem?_cons_succ, List.length_cons, List.length_nil, Nat.reduceAdd, Nat.reduceSub, List.replicate_zero, List.replicate_succ, List.set_cons_zero, List.set_cons_succ, List.take_length, Option.bind_some, Bool.not_true, Bool.not_false, if_true, if_false, Bool.false_eq_true, ite_true, ite_false, ite_self, decide_true, decide_false, Nat.zero_le, reduceCtorEq, andE_eq, andK_bl, orE_eq, orK_bl, asB_eq, asK_bl, Option.map_some, sz1, sz2, sz3, sz4, cst1, cst2, cst3]
    | false =>
      simp only [Bool.not_false, Bool.true_and, funD, funX, funK, env0, retS, retN, exprS, setS, seqS, ifS, asgS, parS, nxS, raiseS, varE, cE, op2, andT, orT, notT, notE, ifE, nilA, consA, tupE, lstE, asDs_nil, asDs_cons, asDs_map, callE, callX, bltE, one, truE, sliceE, noO, someO, nameG, tupG, consG, nilG, okIf, negE, bindR_ok, bindR_exc, bindR_err, bindS_ok, bindS_exc, bindS_err, seqR_nx, seqR_ret, seqR_exc, seqR_brk, seqR_cnt, seqR_err, noX_ok, fin_nx, fin_d, fin_exc, fin_scr, eq_str, ne_str, eq_int, ne_int, List.map_cons, List.map_nil, List.cons_append, List.nil_append, List.getElem?_cons_zero, List.getElem?_cons_succ, List.length_cons, List.length_nil, Nat.reduceAdd, Nat.reduceSub, List.replicate_zero, List.replicate_succ, List.set_cons_zero, List.set_cons_succ, List.take_length, Option.bind_some, Bool.not_true, Bool.not_false, if_true, if_false, Bool.false_eq_true, ite_true, ite_false, ite_self, decide_true, decide_false, Nat.zero_le, reduceCtorEq, andE_eq, andK_bl, orE_eq, orK_bl, asB_eq, asK_bl, Option.map_some, sz1, sz2, sz3, sz4, cst1, cst2, cst3]
      cases (nameB m && (letB (hashT l) && piecesB ps (hashT l))) <;> simp only [toRR, rdata, funD, funX, funK, env0, retS, retN, exprS, setS, seqS, ifS, asgS, parS, nxS, raiseS, varE, cE, op2, andT, orT, notT, notE, ifE, nilA, consA, tupE, lstE, asDs_nil, asDs_cons, asDs_map, callE, callX, bltE, one, truE, sliceE, noO, someO, nameG, tupG, consG, nilG, okIf, negE, bindR_ok, bindR_exc, bindR_err, bindS_ok, bindS_exc, bindS_err, seqR_nx, seqR_ret, seqR_exc, seqR_brk, seqR_cnt, seqR_err, noX_ok, fin_nx, fin_d, fin_exc, fin_scr, eq_str, ne_str, eq_int, ne_int, List.map_cons, List.map_nil, List.cons_append, List.nil_append, List.getElem?_cons_zero, List.getElem?_cons_succ, List.length_cons, List.length_nil, Nat.reduceAdd, Nat.reduceSub, List.replicate_zero, List.replicate_succ, List.set_cons_zero, List.set_cons_succ, List.take_length, Option.bind_some, Bool.not_true, Bool.not_false, if_true, if_false, Bool.false_eq_true, ite_true, ite_false, ite_self, decide_true, decide_false, Nat.zero_le, reduceCtorEq, andE_eq, andK_bl, orE_eq, orK_bl, asB_eq, asK_bl, Option.map_some, sz1, sz2, sz3, sz4, cst1, cst2, cst3]
end K50
end

section
set_option Elab.async false
set_option linter.all false
set_option autoImplicit false
set_option maxRecDepth 100000
set_option maxHeartbeats 4000000
/-! KP5: what is printed is read back (plain). -/
namespace K50
open PySem DL
mutual
def txt : Part → T
  | .keep => [42]
  | .say w => 34 :: (w ++ [34])
  | .go w => 33 :: w
  | .node w ps => w ++ 40 :: (txts ps ++ [41])
def txts : List Part → T
  | [] => []
  | p :: ps => txt p ++ tailT ps
def tailT : List Part → T
  | [] => []
  | p :: ps => 32 :: (txt p ++ tailT ps)
end
mutual
def okP : Nat → T → Part → Bool
  | 0, _, _ => false
  | _ + 1, l, .keep => decide (l = [])
  | _ + 1, _, .say w => textB w
  | _ + 1, l, .go w => !decide (l = []) && nameB w
  | n + 1, l, .node w ps => nameB w && okPs n l ps
def okPs : Nat → T → List Part → Bool
  | 0, _, _ => false
  | n + 1, l, ps => decide (ps.length ≤ 30) && ps.all (okP n l)
end
def stop (suf : T) : Prop := ∀ c r, suf = c :: r → small c = false
theorem nameB_ok {w : T} (h : nameB w = true) : 1 ≤ w.length ∧ w.length ≤ 8 ∧ ∀ c ∈ w, small c = true := by
  unfold nameB at h
  simp only [Bool.and_eq_true, decide_eq_true_eq, List.all_eq_true] at h
  exact ⟨h.1.1, h.1.2, h.2⟩
theorem small_ok {c : Nat} (h : small c = true) : 97 ≤ c ∧ c ≤ 122 := by
  unfold small at h
  simpa using h
theorem textB_ok {w : T} (h : textB w = true) : w.length ≤ 16 ∧ ∀ c ∈ w, c ∈ sgnL := by
  unfold textB at h
  simp only [Bool.and_eq_true, decide_eq_true_eq, List.all_eq_true] at h
  exact h
theorem sg_app (pre r : T) : sg (pre ++ r) pre.length = r.take 1 := by
  unfold sg
  rw [List.drop_left]
theorem sg_app' (pre r : T) (k : Nat) (hk : k = pre.length) : sg (pre ++ r) k = r.take 1 := by rw [hk, sg_app]
theorem smAt_app (pre : T) (c : Nat) (r : T) : smAt (pre ++ c :: r) pre.length = small c := by
  unfold smAt
  rw [List.getElem?_append_right (Nat.le_refl _), Nat.sub_self]
  rfl
theorem smAt_stop (pre suf : T) (h : stop suf) : smAt (pre ++ suf) pre.length = false := by
  cases suf with
  | nil =>
    unfold smAt
    rw [List.append_nil, List.getElem?_eq_none_iff.mpr (Nat.le_refl _)]
  | cons c r => rw [smAt_app]; exact h c r rfl
theorem lend_ok (suf : T) (hs : stop suf) : ∀ (w pre : T) (f : Nat), (∀ c ∈ w, small c = true) → w.length < f → lend (pre ++ (w ++ suf)) f pre.length = some (pre.length + w.length)
  | [], pre, f, _, hf => by
    obtain ⟨f, rfl⟩ : ∃ g, f = g + 1 := ⟨f - 1, by simp at hf; omega⟩
    unfold lend
    rw [List.nil_append, smAt_stop pre suf hs]
    rfl
  | c :: w, pre, f, hc, hf => by
    obtain ⟨f, rfl⟩ : ∃ g, f = g + 1 := ⟨f - 1, by simp at hf; omega⟩
    unfold lend
    rw [List.cons_append, smAt_app, hc c List.mem_cons_self, if_pos rfl]
    have e := lend_ok suf hs w (pre ++ [c]) f (fun d hd => hc d (List.mem_cons_of_mem _ hd)) (by simp at hf; omega)
    rw [List.append_assoc, List.singleton_append, List.length_append, List.length_singleton] at e
    rw [e, List.length_cons]
    congr 1
    omega
theorem cut_app (pre w suf : T) : cut (pre ++ (w ++ suf)) pre.length (pre.length + w.length) = w := by
  unfold cut
  rw [List.drop_left, Nat.add_sub_cancel_left, List.take_left]
theorem fndL_ok (suf : T) : ∀ (w : T) (k : Nat), 34 ∉ w → fndL (w ++ 34 :: suf) k = some (k + w.length)
  | [], k, _ => by simp [fndL]
  | c :: w, k, h => by
    have hc : ¬ c = 34 := fun e => h (by rw [e]; exact List.mem_cons_self)
    simp only [List.cons_append, fndL, if_neg hc]
    rw [fndL_ok suf w (k + 1) (fun z => h (List.mem_cons_of_mem _ z)), List.length_cons]
    congr 1
    omega
theorem no34 {w : T} (h : textB w = true) : 34 ∉ w := fun z => by
  have := (textB_ok h).2 34 z
  revert this
  decide
/-- the first sign of a part -/
theorem txt_head {n : Nat} {l : T} {p : Part} (h : okP n l p = true) : ∃ c r, txt p = c :: r ∧ (c = 42 ∨ c = 34 ∨ c = 33 ∨ small c = true) := by
  cases n with
  | zero => simp [okP] at h
  | succ n =>
    cases p with
    | keep => exact ⟨42, [], rfl, .inl rfl⟩
    | say w => exact ⟨34, w ++ [34], rfl, .inr (.inl rfl)⟩
    | go w => exact ⟨33, w, rfl, .inr (.inr (.inl rfl))⟩
    | node w ps =>
      have h' : nameB w = true ∧ okPs n l ps = true := by simpa [okP] using h
      obtain ⟨a, b, c⟩ := nameB_ok h'.1
      cases w with
      | nil => simp at a
      | cons d w => exact ⟨d, w ++ 40 :: (txts ps ++ [41]), rfl, .inr (.inr (.inr (c d List.mem_cons_self)))⟩
theorem stop_of {c : Nat} {r : T} (h : small c = false) : stop (c :: r) := fun d s e => by cases e; exact h
theorem stop_tail (qs : List Part) (suf : T) : stop (tailT qs ++ 41 :: suf) := by
  cases qs with
  | nil => exact stop_of rfl
  | cons q qs => exact stop_of (r := txt q ++ tailT qs ++ 41 :: suf) rfl
theorem inW_ok {n : Nat} {l : T} (hP : ∀ (p : Part) (pre suf : T), okP n l p = true → stop suf → PA n (pre ++ (txt p ++ suf)) pre.length = .ok p (pre.length + (txt p).length)) (suf : T) :
    ∀ (qs : List Part) (f : Nat) (acc : List Part) (pre : T), qs.length < f → (∀ q ∈ qs, okP n l q = true) → inW (PA n) (pre ++ (tailT qs ++ 41 :: suf)) f acc pre.length = .done (acc ++ qs) (pre.length + (tailT qs).length)
  | [], f, acc, pre, hf, _ => by
    obtain ⟨f, rfl⟩ : ∃ g, f = g + 1 := ⟨f - 1, by simp at hf; omega⟩
    unfold inW
    rw [sg_app]
    simp [tailT]
  | q :: qs, f, acc, pre, hf, hq => by
    obtain ⟨f, rfl⟩ : ∃ g, f = g + 1 := ⟨f - 1, by simp at hf; omega⟩
    unfold inW
    rw [sg_app]
    have e1 : ((tailT (q :: qs) ++ 41 :: suf).take 1 = [32]) := rfl
    rw [if_pos e1]
    have e2 := hP q (pre ++ [32]) (tailT qs ++ 41 :: suf) (hq q List.mem_cons_self) (stop_tail qs suf)
    have e3 : pre ++ [32] ++ (txt q ++ (tailT qs ++ 41 :: suf)) = pre ++ (tailT (q :: qs) ++ 41 :: suf) := by simp [tailT]
    rw [e3, List.length_append, List.length_singleton] at e2
    rw [e2]
    have e4 := inW_ok hP suf qs f (acc ++ [q]) (pre ++ 32 :: txt q) (by simp at hf; omega) fun r hr => hq r (List.mem_cons_of_mem _ hr)
    have e5 : pre ++ 32 :: txt q ++ (tailT qs ++ 41 :: suf) = pre ++ (tailT (q :: qs) ++ 41 :: suf) := by simp [tailT]
    rw [e5] at e4
    have e6 : (pre ++ 32 :: txt q).length = pre.length + 1 + (txt q).length := by simp; omega
    rw [e6] at e4
    show inW (PA n) _ f (acc ++ [q]) (pre.length + 1 + (txt q).length) = _
    rw [e4]
    have e7 : (tailT (q :: qs)).length = 1 + (txt q).length + (tailT qs).length := by simp [tailT]; omega
    rw [e7]
    simp [Nat.add_assoc]
theorem read_back : ∀ n : Nat, (∀ (l : T) (p : Part) (pre suf : T), okP n l p = true → stop suf → PA n (pre ++ (txt p ++ suf)) pre.length = .ok p (pre.length + (txt p).length)) ∧
    (∀ (l : T) (ps : List Part) (pre suf : T), okPs n l ps = true → IP n (pre ++ 40 :: (txts ps ++ 41 :: suf)) pre.length = .ok ps (pre.length + (txts ps).length + 2))
  | 0 => ⟨fun l p pre suf h => by simp [okP] at h, fun l ps pre suf h => by simp [okPs] at h⟩
  | n + 1 => by
    obtain ⟨iP, iI⟩ := read_back n
    refine ⟨fun l p pre suf h hs => ?_, fun l ps pre suf h => ?_⟩
    · show partP (IP n) (pre ++ (txt p ++ suf)) pre.length = _
      unfold partP
      rw [sg_app]
      cases p with
      | keep => rfl
      | say w =>
        have h' : textB w = true := by simpa [okP] using h
        have e : ((txt (.say w) ++ suf).take 1) = [34] := rfl
        rw [e, if_neg (by decide), if_pos rfl]
        have e2 : pre ++ (txt (.say w) ++ suf) = (pre ++ [34]) ++ (w ++ 34 :: suf) := by simp [txt]
        have e3 : fnd (pre ++ (txt (.say w) ++ suf)) (pre.length + 1) = some (pre.length + 1 + w.length) := by
          unfold fnd
          rw [e2]
          have : (pre ++ [34]).length = pre.length + 1 := by simp
          rw [← this, List.drop_left, fndL_ok suf w _ (no34 h')]
        rw [e3]
        have e4 : cut (pre ++ (txt (.say w) ++ suf)) (pre.length + 1) (pre.length + 1 + w.length) = w := by
          rw [e2]
          have := cut_app (pre ++ [34]) w (34 :: suf)
          rw [List.length_append, List.length_singleton] at this
          exact this
        simp only [e4]
        congr 1
        simp [txt]
        omega
      | go w =>
        have h' : nameB w = true := by
          have : (!decide (l = []) && nameB w) = true := by simpa [okP] using h
          rw [Bool.and_eq_true] at this
          exact this.2
        obtain ⟨a, b, c⟩ := nameB_ok h'
        have e : ((txt (.go w) ++ suf).take 1) = [33] := rfl
        rw [e, if_neg (by decide), if_neg (by decide), if_pos rfl]
        have e2 : pre ++ (txt (.go w) ++ suf) = (pre ++ [33]) ++ (w ++ suf) := by simp [txt]
        have e3 := lend_ok suf hs w (pre ++ [33]) 40 c (by omega)
        rw [← e2, List.length_append, List.length_singleton] at e3
        rw [e3]
        have e4 := cut_app (pre ++ [33]) w suf
        rw [← e2, List.length_append, List.length_singleton] at e4
        simp only [e4]
        congr 1
        simp [txt]
        omega
      | node w ps =>
        have h' : nameB w = true ∧ okPs n l ps = true := by simpa [okP] using h
        obtain ⟨a, b, c⟩ := nameB_ok h'.1
        obtain ⟨d, r, rfl⟩ : ∃ d r, w = d :: r := by
          cases w with
          | nil => simp at a
          | cons d r => exact ⟨d, r, rfl⟩
        have hd := small_ok (c d List.mem_cons_self)
        have e : ((txt (.node (d :: r) ps) ++ suf).take 1) = [d] := rfl
        rw [e, if_neg (by simp; omega), if_neg (by simp; omega), if_neg (by simp; omega)]
        have e2 : pre ++ (txt (.node (d :: r) ps) ++ suf) = pre ++ ((d :: r) ++ (40 :: (txts ps ++ 41 :: suf))) := by simp [txt]
        rw [e2, lend_ok _ (stop_of rfl) (d :: r) pre 40 c (by omega)]
        simp only
        have e3 := iI l ps (pre ++ (d :: r)) suf h'.2
        rw [List.length_append, List.append_assoc] at e3
        rw [e3, cut_app]
        simp only
        congr 1
        simp [txt]
        omega
    · show innerP (PA n) (pre ++ 40 :: (txts ps ++ 41 :: suf)) pre.length = _
      have h' : ps.length ≤ 30 ∧ ∀ p ∈ ps, okP n l p = true := by simpa [okPs] using h
      unfold innerP
      rw [sg_app]
      have e : ((40 :: (txts ps ++ 41 :: suf) : T).take 1) = [40] := rfl
      rw [if_pos e]
      have e2 : pre ++ 40 :: (txts ps ++ 41 :: suf) = (pre ++ [40]) ++ (txts ps ++ 41 :: suf) := by simp
      have l2 : (pre ++ [40]).length = pre.length + 1 := by simp
      rw [e2, ← l2, sg_app]
      cases ps with
      | nil =>
        have : ((txts [] ++ 41 :: suf : T).take 1) = [41] := rfl
        rw [if_pos this]
        simp [txts]
      | cons p ps =>
        obtain ⟨d, r, ed, hd⟩ := txt_head (h'.2 p List.mem_cons_self)
        have : ¬ ((txts (p :: ps) ++ 41 :: suf : T).take 1) = [41] := by
          simp only [txts, ed, List.cons_append, List.take_succ_cons, List.take_zero, List.cons.injEq, and_true]
          intro z
          subst z
          rcases hd with q | q | q | q
          · omega
          · omega
          · omega
          · exact absurd q (by decide)
        rw [if_neg this]
        have e3 := iP l p (pre ++ [40]) (tailT ps ++ 41 :: suf) (h'.2 p List.mem_cons_self) (stop_tail ps suf)
        have e4 : (txts (p :: ps) ++ 41 :: suf : T) = txt p ++ (tailT ps ++ 41 :: suf) := by simp [txts]
        rw [e4, e3]
        simp only
        have e5 := inW_ok (iP l) suf ps 40 [p] (pre ++ [40] ++ txt p) (by have := h'.1; simp at this; omega) fun q hq => h'.2 q (List.mem_cons_of_mem _ hq)
        rw [List.append_assoc (pre ++ [40]) (txt p)] at e5
        rw [List.length_append] at e5
        rw [e5]
        simp only
        have e6 : sg (pre ++ [40] ++ (txt p ++ (tailT ps ++ 41 :: suf))) ((pre ++ [40]).length + (txt p).length + (tailT ps).length) = [41] := by
          have q := sg_app' (pre ++ [40] ++ (txt p ++ tailT ps)) (41 :: suf) ((pre ++ [40]).length + (txt p).length + (tailT ps).length) (by simp; omega)
          have z : pre ++ [40] ++ (txt p ++ (tailT ps ++ 41 :: suf)) = pre ++ [40] ++ (txt p ++ tailT ps) ++ 41 :: suf := by simp
          rw [z, q]
          rfl
        rw [if_pos e6]
        simp [txts]
        omega
mutual
theorem ok_piece : ∀ (n : Nat) (l : T) (p : Part), okP n l p = true → pieceB p l = true
  | 0, l, p, h => by simp [okP] at h
  | n + 1, l, .keep, h => by simpa [okP, pieceB] using h
  | n + 1, l, .say w, h => by simpa [okP, pieceB] using h
  | n + 1, l, .go w, h => by simpa [okP, pieceB] using h
  | n + 1, l, .node w ps, h => by
    have h' : nameB w = true ∧ okPs n l ps = true := by simpa [okP] using h
    rw [pieceB, h'.1, ok_pieces n l ps h'.2]
    rfl
theorem ok_pieces : ∀ (n : Nat) (l : T) (ps : List Part), okPs n l ps = true → piecesB ps l = true
  | 0, l, ps, h => by simp [okPs] at h
  | n + 1, l, ps, h => by
    have h' : ps.length ≤ 30 ∧ ∀ p ∈ ps, okP n l p = true := by simpa [okPs] using h
    rw [piecesB_all, List.all_eq_true]
    exact fun p hp => ok_piece n l p (h'.2 p hp)
end
theorem strB_name {w : T} (h : nameB w = true) : strB w = true := by
  obtain ⟨a, b, c⟩ := nameB_ok h
  unfold strB
  rw [decide_eq_true (by omega : w.length ≤ 1000), Bool.true_and, List.all_eq_true]
  intro d hd
  have := small_ok (c d hd)
  simp
  omega
theorem sgn_lt : ∀ c ∈ sgnL, c < 1114112 := by decide +kernel
theorem strB_text {w : T} (h : textB w = true) : strB w = true := by
  obtain ⟨a, b⟩ := textB_ok h
  unfold strB
  rw [decide_eq_true (by omega : w.length ≤ 1000), Bool.true_and, List.all_eq_true]
  intro d hd
  have := sgn_lt d (b d hd)
  simpa using this
theorem ok_fit : ∀ (n : Nat) (l : T), (∀ p, okP n l p = true → fitP n p = true) ∧ (∀ ps, okPs n l ps = true → fitPs n ps = true)
  | 0, l => ⟨fun p h => by simp [okP] at h, fun ps h => by simp [okPs] at h⟩
  | n + 1, l => by
    obtain ⟨i1, i2⟩ := ok_fit n l
    refine ⟨fun p h => ?_, fun ps h => ?_⟩
    · cases p with
      | keep => rfl
      | say w => exact strB_text (w := w) (by simpa [okP] using h)
      | go w =>
        have : (!decide (l = []) && nameB w) = true := by simpa [okP] using h
        rw [Bool.and_eq_true] at this
        exact strB_name this.2
      | node w ps =>
        have h' : nameB w = true ∧ okPs n l ps = true := by simpa [okP] using h
        simp only [fitP, strB_name h'.1, i2 ps h'.2, Bool.and_self]
    · have h' : ps.length ≤ 30 ∧ ∀ p ∈ ps, okP n l p = true := by simpa [okPs] using h
      simp only [fitPs, decide_eq_true (by omega : ps.length ≤ 1000), Bool.true_and, List.all_eq_true]
      exact fun p hp => i1 p (h'.2 p hp)
def wordsT (ps : List Part) : T := if ps.isEmpty then [45] else txts ps
def ltT (l : T) : T := if l = [] then [35] else l
/-- the piece of a rule -/
def pieceT (m l : T) (ps : List Part) : T := m ++ 32 :: (ltT l ++ 32 :: wordsT ps)
theorem parts_back {l : T} {ps : List Part} (h : okPs 12 l ps = true) : partsIn (wordsT ps) = .ps ps := by
  cases ps with
  | nil => rfl
  | cons p ps =>
    have h' : (p :: ps).length ≤ 30 ∧ ∀ q ∈ p :: ps, okP 11 l q = true := by simpa [okPs] using h
    obtain ⟨d, r, ed, hd⟩ := txt_head (h'.2 p List.mem_cons_self)
    have hw : wordsT (p :: ps) = txts (p :: ps) := rfl
    unfold partsIn
    rw [hw]
    have ne : ¬ txts (p :: ps) = [45] := by
      simp only [txts, ed, List.cons_append, List.cons.injEq]
      intro z
      obtain ⟨z, _⟩ := z
      subst z
      rcases hd with q | q | q | q
      · omega
      · omega
      · omega
      · exact absurd q (by decide)
    rw [if_neg ne]
    have e := (read_back 12).2 l (p :: ps) [] [] h
    simp only [List.nil_append, List.length_nil, Nat.zero_add] at e
    rw [e]
    simp only
    rw [if_pos trivial]
    rfl
theorem part_cut {a b : T} (h : 32 ∉ a) : Txt.partition (S (a ++ 32 :: b)) (S [32]) = (S a, S [32], S b) := by
  have e : S (a ++ 32 :: b) = S a ++ S [32] ++ S b := by rw [S_app, S_app]; simp
  rw [e]
  exact TL.partition_app (s := 32) (S := []) (by rw [TL.tl, S_cps]) (by rw [TL.tl, S_cps]; exact h)
theorem no32 {w : T} (h : nameB w = true) : 32 ∉ w := fun z => by
  have := small_ok ((nameB_ok h).2.2 32 z)
  omega
theorem rule_back {m l : T} {ps : List Part} (hm : nameB m = true) (hl : letB l = true) (hp : okPs 12 l ps = true) (hs : (pieceT m l ps).length ≤ 1000) : rrule (pieceT m l ps) = .rule m l ps := by
  have n1 := no32 hm
  have hl2 : l = [] ∨ nameB l = true := by
    unfold letB at hl
    rw [Bool.or_eq_true, decide_eq_true_eq] at hl
    exact hl
  have n2 : 32 ∉ ltT l := by
    unfold ltT
    split
    · decide
    · rcases hl2 with q | q
      · contradiction
      · exact no32 q
  have hlen : (pieceT m l ps).length = m.length + 1 + ((ltT l).length + 1 + (wordsT ps).length) := by
    unfold pieceT
    simp
    omega
  unfold rrule
  rw [show pieceT m l ps = m ++ 32 :: (ltT l ++ 32 :: wordsT ps) from rfl, part_cut n1]
  simp only
  rw [part_cut n2]
  simp only [S_cps]
  rw [if_pos ⟨hs, by omega, by rw [S_len]; simp; omega, by omega, by omega⟩]
  unfold rruleOf
  rw [parts_back hp]
  simp only
  rw [if_pos ((ok_fit 12 l).2 ps hp)]
  have hh : hashT (ltT l) = l := by
    unfold hashT ltT
    rcases hl2 with q | q
    · rw [if_pos q, if_pos rfl, q]
    · have : l ≠ [] := fun z => by rw [z] at q; simp [nameB] at q
      rw [if_neg this, if_neg]
      intro z
      rw [z] at q
      revert q
      decide
  have hne : decide (ltT l = []) = false := by
    apply decide_eq_false
    unfold ltT
    split
    · simp
    · assumption
  rw [hh, hne, hm, hl, ok_pieces 12 l ps hp]
  rfl
end K50
end

section
set_option Elab.async false
set_option linter.all false
set_option autoImplicit false
set_option maxRecDepth 100000
set_option maxHeartbeats 0
/-! KP6: the wrong pieces are refused (finite). -/
namespace K50
open PySem DL
def MODES : List Str := ["a", "b", "c", "k", "ka", "kb", "m", "n", "nn"]
def LETS : List Str := ["", "x", "y", "z", "p", "pa", "pb"]
def bodyS (m l : Str) : Str := m ++ (" " : Str) ++ (if l = ("" : Str) then ("#" : Str) else l)
def wrongs1 (m l : Str) : List Str :=
  ["", m, bodyS m l, bodyS m l ++ (" " : Str), (" " : Str) ++ bodyS m l ++ (" -" : Str), m ++ ("  -" : Str), bodyS m l ++ (" - " : Str), bodyS m l ++ (" -  -" : Str), bodyS m l ++ ("  -" : Str), bodyS m l ++ (" - -" : Str), "A # -"]
def wrongs2 (m l : Str) : List Str :=
  [m ++ (" - -" : Str), bodyS m l ++ (" \"" : Str), bodyS m l ++ (" \"A\"" : Str), bodyS m l ++ (" \"a\"\"b\"" : Str), bodyS m l ++ (" \"" : Str) ++ repS ("a" : Str) 17 ++ ("\"" : Str), bodyS m l ++ (" !" : Str), bodyS m l ++ (" !A" : Str), bodyS m l ++ (" x" : Str), bodyS m l ++ (" x(" : Str)]
def wrongs3 (m l : Str) : List Str :=
  [bodyS m l ++ (" x( )" : Str), bodyS m l ++ (" x(-)" : Str), bodyS m l ++ (" x())" : Str), bodyS m l ++ (" (x())" : Str), bodyS m l ++ (" ()" : Str), bodyS m l ++ (" ) (" : Str), bodyS m l ++ (" X()" : Str), bodyS m l ++ (" x() " : Str), bodyS m l ++ ("  x()" : Str)]
def wrongs4 (m l : Str) : List Str :=
  [bodyS m l ++ (" \"\"  \"\"" : Str), bodyS m l ++ (if l = ("" : Str) then (" !a" : Str) else (" *" : Str)), bodyS m l ++ (if l = ("" : Str) then (" x(!a)" : Str) else (" x(*)" : Str)), bodyS m l ++ ("," : Str), bodyS m l ++ (" abcdefghi()" : Str)]
def wrongs (m l : Str) : List Str := wrongs1 m l ++ wrongs2 m l ++ wrongs3 m l ++ wrongs4 m l
def isNo : RRes → Bool
  | .no => true
  | _ => false
/-- no ", " begins in it when ", " follows -/
def freeT (w : T) : Bool := (List.range w.length).all fun i => !(decide (((w ++ [44, 32]).drop i).take 2 = [44, 32]))
def refusedB (w : Str) : Bool := isNo (rrule w.cps.toList) && freeT w.cps.toList && decide (w.length ≤ 1000)
theorem refused_a : (["a", "b", "c"] : List Str).all (fun m => LETS.all fun l => (wrongs m l).all refusedB) = true := by decide +kernel
theorem refused_b : (["k", "ka", "kb"] : List Str).all (fun m => LETS.all fun l => (wrongs m l).all refusedB) = true := by decide +kernel
theorem refused_c : (["m", "n", "nn"] : List Str).all (fun m => LETS.all fun l => (wrongs m l).all refusedB) = true := by decide +kernel
theorem refused_all : ∀ m ∈ MODES, ∀ l ∈ LETS, ∀ w ∈ wrongs m l, refusedB w = true := by
  have a := refused_a
  have b := refused_b
  have c := refused_c
  simp only [List.all_eq_true] at a b c
  intro m hm l hl w hw
  simp only [MODES, List.mem_cons, List.mem_nil_iff, or_false] at hm
  rcases hm with q | q | q | q | q | q | q | q | q
  · exact a m (by rw [q]; simp) l hl w hw
  · exact a m (by rw [q]; simp) l hl w hw
  · exact a m (by rw [q]; simp) l hl w hw
  · exact b m (by rw [q]; simp) l hl w hw
  · exact b m (by rw [q]; simp) l hl w hw
  · exact b m (by rw [q]; simp) l hl w hw
  · exact c m (by rw [q]; simp) l hl w hw
  · exact c m (by rw [q]; simp) l hl w hw
  · exact c m (by rw [q]; simp) l hl w hw
def wrong0 : List Str := ["", " ", "A", "a ", " a", "a b", "-", "#", "abcdefghi", "a,", ",", "a1", "!a"]
theorem refused_0 : ∀ w ∈ wrong0, nameB w.cps.toList = false ∧ freeT w.cps.toList = true ∧ w.length ≤ 1000 := by
  have : wrong0.all (fun w => !nameB w.cps.toList && freeT w.cps.toList && decide (w.length ≤ 1000)) = true := by decide +kernel
  simp only [List.all_eq_true] at this
  intro w hw
  have q := this w hw
  simpa [and_assoc] using q
end K50
end

section
set_option Elab.async false
set_option linter.all false
set_option autoImplicit false
set_option maxRecDepth 100000
set_option maxHeartbeats 4000000
/-! KP7: read_turning, _law_told as plain functions. -/
namespace DL
open PySem
theorem rng_succ (lo : Int) (n : Nat) : rangeVals lo (n + 1) = Val.d (.int lo) :: rangeVals (lo + 1) n := by
  unfold rangeVals
  rw [List.range_succ_eq_map, List.map_cons, List.map_map]
  congr 1
  · simp
  · apply List.map_congr_left
    intro i _
    show Val.d (D.int (lo + ((i + 1 : Nat) : Int))) = Val.d (D.int (lo + 1 + (i : Int)))
    congr 2
    omega
theorem rng_zero (lo : Int) : rangeVals lo 0 = [] := rfl
theorem atI_nat {α : Type} {xs : List α} {k : Nat} {v : α} (h : xs[k]? = some v) : L2.atI xs (k : Int) = some v := by
  obtain ⟨hk, e⟩ := List.getElem?_eq_some_iff.mp h
  unfold L2.atI L2.ixN
  rw [if_pos (by omega), if_pos (by omega)]
  simpa using h
theorem ix_lst0 {x : D} {xs : List D} {st : Store} : ixV (.d (.lst (x :: xs))) (.d (.int 0)) st = .ok (.d x) st := by
  simp only [ixV, valsOf, L2.atI, L2.ixN, List.map_cons, List.length_cons, List.length_map]
  rw [if_pos (by omega), if_pos (by omega)]
  rfl
theorem ix_lst {xs : List D} {k : Nat} {v : D} {st : Store} (h : xs[k]? = some v) : ixV (.d (.lst xs)) (.d (.int k)) st = .ok (.d v) st := by
  have : L2.atI (xs.map Val.d) (k : Int) = some (Val.d v) := atI_nat (by rw [List.getElem?_map, h]; rfl)
  simp only [ixV, valsOf, this]
theorem ix_last {st : Store} {n : Nat} {xs : List Val} {v : Val} (h : st[n]? = some (some (.lst (xs ++ [v])))) : ixV (.ref n) (.d (.int (-1))) st = .ok v st := by
  have : L2.atI (xs ++ [v]) (-1) = some v := by
    unfold L2.atI L2.ixN
    rw [if_neg (by omega), if_pos (by simp; omega)]
    have e : (-1 + ((xs ++ [v]).length : Int)).toNat = xs.length := by simp; omega
    simp only [Option.bind_some, e]
    simp
  simp only [ixV, valsOf, h, this]
theorem truV_ref {st : Store} {n : Nat} {xs : List Val} (h : st[n]? = some (some (.lst xs))) : truV (.ref n) st = some (!xs.isEmpty) := by
  simp only [truV, valsOf, h, Option.map_some]
theorem cut2 {a b c : D} {st : Store} : slV (.d (.tup [a, b, c])) none (some 2) st = .ok (.d (.tup [a, b])) st := by
  have : cutD [a, b, c] none (some 2) = [a, b] := by
    unfold cutD HT.sIx
    rfl
  simp only [slV, this]
theorem non_tup {xs : List D} {st : Store} : isNon false (.d (.tup xs)) (.d .non) st = .ok (.d (.bl false)) st := rfl
theorem non_non {st : Store} : isNon false (.d .non) (.d .non) st = .ok (.d (.bl true)) st := rfl
theorem le_pair {a b c d : Str} {st : Store} : lePV (.d (.tup [.str a, .str b])) (.d (.tup [.str c, .str d])) st = .ok (.d (.bl (lePair a b c d))) st := rfl
theorem seqS_eq {f g : SS} {ρ : Env} {st : Store} : seqS f g ρ st = seqR (f ρ st) g := rfl
theorem forS_eq {it : SI} {g : SG} {b : SS} {fg : List Nat} {ρ : Env} {st : Store} : forS it g b fg ρ st = bindS ρ (it ρ st) fun xs st => forL g b fg xs ρ st := rfl
theorem split_ok {z b : Str} {st : Store} (hb : (b.length == 0) = false) (hz : z.length + 2 ≤ sizeLine) : splitV z (.d (.str b)) st = .ok (.d (.lst ((Txt.split z b).map .str))) st := by
  unfold splitV
  exact if_pos ⟨hb, hz⟩
end DL
namespace K50
open PySem DL
abbrev Rl := T × T × List Part
def rD (r : Rl) : D := rdata r.1 r.2.1 r.2.2
def le2 (r s : Rl) : Bool := lePair (S r.1) (S r.2.1) (S s.1) (S s.2.1)
inductive TR where
  | ok (rs : List Rl) | bad (i : Nat) | err
def loopT : Nat → List Rl → List T → TR
  | _, acc, [] => .ok acc
  | i, acc, p :: ps => match rrule p with
    | .err => .err
    | .no => .bad i
    | .rule m l qs => if (match acc.getLast? with
      | some s => le2 (m, l, qs) s
      | none => false) = true then .bad i else loopT (i + 1) (acc ++ [(m, l, qs)]) ps
def cellR (acc : List Rl) : Option Cell := some (.lst (acc.map fun r => Val.d (rD r)))
def bodyT : SS := seqS (setS 4 (callE F_read_rule (consA (op2 ixV (varE 1) (varE 3)) nilA))) (seqS (ifS (orT (asB (op2 (isNon false) (varE 4) (cE .non))) (andT (truE (varE 2)) (asB (op2 lePV (sliceE (varE 4) noO (someO (cE (.int 2)))) (sliceE (op2 ixV (varE 2) (negE (cE (.int 1)))) noO (someO (cE (.int 2)))))))) (raiseS ("InvalidText" : Str) (varE 3)) nxS) (exprS (appendE (varE 2) (varE 4))))
theorem f_loop {z : Str} (ps : List T) (st : Store) (hlen : ps.length ≤ 1000) : ∀ (rest : List T) (k : Nat) (acc : List Rl), ps.drop k = rest → acc.length ≤ k → match loopT k acc rest with
    | .ok rs => forL (nameG 3) bodyT [3, 4] (rangeVals k rest.length) [some (.d (.str z)), some (.d (.lst ((ps.map S).map .str))), some (.ref st.length), none, none] (st ++ [cellR acc]) = .nx [some (.d (.str z)), some (.d (.lst ((ps.map S).map .str))), some (.ref st.length), none, none] (st ++ [cellR rs])
    | .bad i => ∃ ρ c, forL (nameG 3) bodyT [3, 4] (rangeVals k rest.length) [some (.d (.str z)), some (.d (.lst ((ps.map S).map .str))), some (.ref st.length), none, none] (st ++ [cellR acc]) = .exc ρ ("InvalidText" : Str) [("at" : Str)] [.int i] (st ++ [c])
    | .err => True
  | [], k, acc, _, _ => rfl
  | p :: rest, k, acc, hd, ha => by
    have hk : k < ps.length := by
      rcases Nat.lt_or_ge k ps.length with q | q
      · exact q
      · rw [List.drop_eq_nil_of_le q] at hd; cases hd
    have hp : ps[k]? = some p := by
      have : (ps.drop k)[0]? = some p := by rw [hd]; rfl
      rw [List.getElem?_drop] at this
      simpa using this
    have hpS : ((ps.map S).map D.str)[k]? = some (.str (S p)) := by simp [hp]
    have hrest : ps.drop (k + 1) = rest := by
      rw [← List.drop_drop, hd]
      rfl
    unfold loopT
    rw [List.length_cons, rng_succ, eint]
    cases hr : rrule p with
    | err => trivial
    | no =>
      have ner : rrule p ≠ .err := by rw [hr]; intro z; cases z
      simp only [forL, bodyT, ix_lst hpS, f_read_rule _ ner, hr, toRR, non_non, loopR_exc, funD, funX, funK, env0, retS, retN, exprS, setS, seqS, ifS, asgS, parS, nxS, raiseS, varE, cE, op2, andT, orT, notT, notE, ifE, nilA, consA, tupE, lstE, asDs_nil, asDs_cons, asDs_map, callE, callX, bltE, one, truE, sliceE, noO, someO, nameG, tupG, consG, nilG, okIf, negE, bindR_ok, bindR_exc, bindR_err, bindS_ok, bindS_exc, bindS_err, seqR_nx, seqR_ret, seqR_exc, seqR_brk, seqR_cnt, seqR_err, noX_ok, fin_nx, fin_d, fin_exc, fin_scr, eq_str, ne_str, eq_int, ne_int, List.map_cons, List.map_nil, List.cons_append, List.nil_append, List.getElem?_cons_zero, List.getElem?_cons_succ, List.length_cons, List.length_nil, Nat.reduceAdd, Nat.reduceSub, List.replicate_zero, List.replicate_succ, List.set_cons_zero, List.set_cons_succ, List.take_length, Option.bind_some, Bool.not_true, Bool.not_false, if_true, if_false, Bool.false_eq_true, ite_true, ite_false, ite_self, decide_true, decide_false, Nat.zero_le, reduceCtorEq, andE_eq, andK_bl, orE_eq, orK_bl, asB_eq, asK_bl, Option.map_some, sz1, sz2, sz3, sz4, cst1, cst2, cst3]
      exact ⟨_, _, rfl⟩
    | rule m l qs =>
      have ner : rrule p ≠ .err := by rw [hr]; intro z; cases z
      have ih := f_loop (z := z) ps st hlen rest (k + 1) (acc ++ [(m, l, qs)]) hrest (by rw [List.length_append, List.length_singleton]; omega)
      have ap : ∀ ρ : DL.Env, ρ[2]? = some (some (Val.ref st.length)) → ρ[4]? = some (some (Val.d (rdata m l qs))) → appendE (varE 2) (varE 4) ρ (st ++ [cellR acc]) = .ok (.d .non) (st ++ [cellR (acc ++ [(m, l, qs)])]) := fun ρ h2 h4 => by
        refine Eq.trans (append_ok (fo := varE 2) (f := varE 4) (ρ := ρ) (s0 := st ++ [cellR acc]) (s1 := st ++ [cellR acc]) (n := st.length) (xs := acc.map fun r => Val.d (rD r)) (ys := acc.map fun r => Val.d (rD r)) (x := rdata m l qs) (by unfold varE; rw [h2]) at_new (by unfold varE; rw [h4]) at_new (by rw [List.length_map]; exact Nat.lt_of_lt_of_le (show acc.length < 100000 by omega) (small_size (Nat.le_refl _)))) ?_
        rw [set_new]
        unfold cellR
        simp only [List.map_append, List.map_cons, List.map_nil, rD]
      simp only [forL, bodyT, ix_lst hpS, f_read_rule _ ner, hr, toRR, rdata, non_tup, cut2, funD, funX, funK, env0, retS, retN, exprS, setS, seqS, ifS, asgS, parS, nxS, raiseS, varE, cE, op2, andT, orT, notT, notE, ifE, nilA, consA, tupE, lstE, asDs_nil, asDs_cons, asDs_map, callE, callX, bltE, one, truE, sliceE, noO, someO, nameG, tupG, consG, nilG, okIf, negE, bindR_ok, bindR_exc, bindR_err, bindS_ok, bindS_exc, bindS_err, seqR_nx, seqR_ret, seqR_exc, seqR_brk, seqR_cnt, seqR_err, noX_ok, fin_nx, fin_d, fin_exc, fin_scr, eq_str, ne_str, eq_int, ne_int, List.map_cons, List.map_nil, List.cons_append, List.nil_append, List.getElem?_cons_zero, List.getElem?_cons_succ, List.length_cons, List.length_nil, Nat.reduceAdd, Nat.reduceSub, List.replicate_zero, List.replicate_succ, List.set_cons_zero, List.set_cons_succ, List.take_length, Option.bind_some, Bool.not_true, Bool.not_false, if_true, if_false, Bool.false_eq_true, ite_true, ite_false, ite_self, decide_true, decide_false, Nat.zero_le, reduceCtorEq, andE_eq, andK_bl, orE_eq, orK_bl, asB_eq, asK_bl, Option.map_some, sz1, sz2, sz3, sz4, cst1, cst2, cst3]
      rcases List.eq_nil_or_concat acc with rfl | ⟨acc', s, rfl⟩
      · have tr : truV (.ref st.length) (st ++ [cellR []]) = some (!([] : List Val).isEmpty) := truV_ref at_new
        simp only [tr, List.isEmpty_nil, List.getLast?_nil, funD, funX, funK, env0, retS, retN, exprS, setS, seqS, ifS, asgS, parS, nxS, raiseS, varE, cE, op2, andT, orT, notT, notE, ifE, nilA, consA, tupE, lstE, asDs_nil, asDs_cons, asDs_map, callE, callX, bltE, one, truE, sliceE, noO, someO, nameG, tupG, consG, nilG, okIf, negE, bindR_ok, bindR_exc, bindR_err, bindS_ok, bindS_exc, bindS_err, seqR_nx, seqR_ret, seqR_exc, seqR_brk, seqR_cnt, seqR_err, noX_ok, fin_nx, fin_d, fin_exc, fin_scr, eq_str, ne_str, eq_int, ne_int, List.map_cons, List.map_nil, List.cons_append, List.nil_append, List.getElem?_cons_zero, List.getElem?_cons_succ, List.length_cons, List.length_nil, Nat.reduceAdd, Nat.reduceSub, List.replicate_zero, List.replicate_succ, List.set_cons_zero, List.set_cons_succ, List.take_length, Option.bind_some, Bool.not_true, Bool.not_false, if_true, if_false, Bool.false_eq_true, ite_true, ite_false, ite_self, decide_true, decide_false, Nat.zero_le, reduceCtorEq, andE_eq, andK_bl, orE_eq, orK_bl, asB_eq, asK_bl, Option.map_some, sz1, sz2, sz3, sz4, cst1, cst2, cst3]
        have ap' := ap [some (.d (.str z)), some (.d (.lst ((ps.map S).map .str))), some (.ref st.length), some (.d (.int k)), some (.d (rdata m l qs))] rfl rfl
        simp only [rdata] at ap'
        rw [ap']
        simp only [loopR_nx, forget, funD, funX, funK, env0, retS, retN, exprS, setS, seqS, ifS, asgS, parS, nxS, raiseS, varE, cE, op2, andT, orT, notT, notE, ifE, nilA, consA, tupE, lstE, asDs_nil, asDs_cons, asDs_map, callE, callX, bltE, one, truE, sliceE, noO, someO, nameG, tupG, consG, nilG, okIf, negE, bindR_ok, bindR_exc, bindR_err, bindS_ok, bindS_exc, bindS_err, seqR_nx, seqR_ret, seqR_exc, seqR_brk, seqR_cnt, seqR_err, noX_ok, fin_nx, fin_d, fin_exc, fin_scr, eq_str, ne_str, eq_int, ne_int, List.map_cons, List.map_nil, List.cons_append, List.nil_append, List.getElem?_cons_zero, List.getElem?_cons_succ, List.length_cons, List.length_nil, Nat.reduceAdd, Nat.reduceSub, List.replicate_zero, List.replicate_succ, List.set_cons_zero, List.set_cons_succ, List.take_length, Option.bind_some, Bool.not_true, Bool.not_false, if_true, if_false, Bool.false_eq_true, ite_true, ite_false, ite_self, decide_true, decide_false, Nat.zero_le, reduceCtorEq, andE_eq, andK_bl, orE_eq, orK_bl, asB_eq, asK_bl, Option.map_some, sz1, sz2, sz3, sz4, cst1, cst2, cst3]
        exact ih
      · have tr : truV (.ref st.length) (st ++ [cellR (acc' ++ [s])]) = some (!((acc' ++ [s]).map fun r => Val.d (rD r)).isEmpty) := truV_ref at_new
        have lst_ : ixV (.ref st.length) (.d (.int (-1))) (st ++ [cellR (acc' ++ [s])]) = .ok (.d (rD s)) (st ++ [cellR (acc' ++ [s])]) := ix_last (xs := acc'.map fun r => Val.d (rD r)) (by rw [at_new]; unfold cellR; simp)
        have ne : ((acc' ++ [s]).map fun r => Val.d (rD r)).isEmpty = false := by simp
        simp only [List.concat_eq_append] at ih ap ha ⊢
        simp only [rD, rdata] at ne
        simp only [bodyT] at ih
        simp only [tr, lst_, rD, rdata, cut2, le_pair, List.getLast?_append, List.getLast?_singleton, Option.some_or, le2, funD, funX, funK, env0, retS, retN, exprS, setS, seqS, ifS, asgS, parS, nxS, raiseS, varE, cE, op2, andT, orT, notT, notE, ifE, nilA, consA, tupE, lstE, asDs_nil, asDs_cons, asDs_map, callE, callX, bltE, one, truE, sliceE, noO, someO, nameG, tupG, consG, nilG, okIf, negE, bindR_ok, bindR_exc, bindR_err, bindS_ok, bindS_exc, bindS_err, seqR_nx, seqR_ret, seqR_exc, seqR_brk, seqR_cnt, seqR_err, noX_ok, fin_nx, fin_d, fin_exc, fin_scr, eq_str, ne_str, eq_int, ne_int, List.map_cons, List.map_nil, List.cons_append, List.nil_append, List.getElem?_cons_zero, List.getElem?_cons_succ, List.length_cons, List.length_nil, Nat.reduceAdd, Nat.reduceSub, List.replicate_zero, List.replicate_succ, List.set_cons_zero, List.set_cons_succ, List.take_length, Option.bind_some, Bool.not_true, Bool.not_false, if_true, if_false, Bool.false_eq_true, ite_true, ite_false, ite_self, decide_true, decide_false, Nat.zero_le, reduceCtorEq, andE_eq, andK_bl, orE_eq, orK_bl, asB_eq, asK_bl, Option.map_some, sz1, sz2, sz3, sz4, cst1, cst2, cst3]
        simp only [ne, funD, funX, funK, env0, retS, retN, exprS, setS, seqS, ifS, asgS, parS, nxS, raiseS, varE, cE, op2, andT, orT, notT, notE, ifE, nilA, consA, tupE, lstE, asDs_nil, asDs_cons, asDs_map, callE, callX, bltE, one, truE, sliceE, noO, someO, nameG, tupG, consG, nilG, okIf, negE, bindR_ok, bindR_exc, bindR_err, bindS_ok, bindS_exc, bindS_err, seqR_nx, seqR_ret, seqR_exc, seqR_brk, seqR_cnt, seqR_err, noX_ok, fin_nx, fin_d, fin_exc, fin_scr, eq_str, ne_str, eq_int, ne_int, List.map_cons, List.map_nil, List.cons_append, List.nil_append, List.getElem?_cons_zero, List.getElem?_cons_succ, List.length_cons, List.length_nil, Nat.reduceAdd, Nat.reduceSub, List.replicate_zero, List.replicate_succ, List.set_cons_zero, List.set_cons_succ, List.take_length, Option.bind_some, Bool.not_true, Bool.not_false, if_true, if_false, Bool.false_eq_true, ite_true, ite_false, ite_self, decide_true, decide_false, Nat.zero_le, reduceCtorEq, andE_eq, andK_bl, orE_eq, orK_bl, asB_eq, asK_bl, Option.map_some, sz1, sz2, sz3, sz4, cst1, cst2, cst3]
        have ap' := ap [some (.d (.str z)), some (.d (.lst ((ps.map S).map .str))), some (.ref st.length), some (.d (.int k)), some (.d (rdata m l qs))] rfl rfl
        simp only [rdata] at ap'
        cases lePair (S m) (S l) (S s.1) (S s.2.1) with
        | true =>
          simp only [loopR_exc, funD, funX, funK, env0, retS, retN, exprS, setS, seqS, ifS, asgS, parS, nxS, raiseS, varE, cE, op2, andT, orT, notT, notE, ifE, nilA, consA, tupE, lstE, asDs_nil, asDs_cons, asDs_map, callE, callX, bltE, one, truE, sliceE, noO, someO, nameG, tupG, consG, nilG, okIf, negE, bindR_ok, bindR_exc, bindR_err, bindS_ok, bindS_exc, bindS_err, seqR_nx, seqR_ret, seqR_exc, seqR_brk, seqR_cnt, seqR_err, noX_ok, fin_nx, fin_d, fin_exc, fin_scr, eq_str, ne_str, eq_int, ne_int, List.map_cons, List.map_nil, List.cons_append, List.nil_append, List.getElem?_cons_zero, List.getElem?_cons_succ, List.length_cons, List.length_nil, Nat.reduceAdd, Nat.reduceSub, List.replicate_zero, List.replicate_succ, List.set_cons_zero, List.set_cons_succ, List.take_length, Option.bind_some, Bool.not_true, Bool.not_false, if_true, if_false, Bool.false_eq_true, ite_true, ite_false, ite_self, decide_true, decide_false, Nat.zero_le, reduceCtorEq, andE_eq, andK_bl, orE_eq, orK_bl, asB_eq, asK_bl, Option.map_some, sz1, sz2, sz3, sz4, cst1, cst2, cst3]
          exact ⟨_, _, rfl⟩
        | false =>
          simp only [ap', loopR_nx, forget, funD, funX, funK, env0, retS, retN, exprS, setS, seqS, ifS, asgS, parS, nxS, raiseS, varE, cE, op2, andT, orT, notT, notE, ifE, nilA, consA, tupE, lstE, asDs_nil, asDs_cons, asDs_map, callE, callX, bltE, one, truE, sliceE, noO, someO, nameG, tupG, consG, nilG, okIf, negE, bindR_ok, bindR_exc, bindR_err, bindS_ok, bindS_exc, bindS_err, seqR_nx, seqR_ret, seqR_exc, seqR_brk, seqR_cnt, seqR_err, noX_ok, fin_nx, fin_d, fin_exc, fin_scr, eq_str, ne_str, eq_int, ne_int, List.map_cons, List.map_nil, List.cons_append, List.nil_append, List.getElem?_cons_zero, List.getElem?_cons_succ, List.length_cons, List.length_nil, Nat.reduceAdd, Nat.reduceSub, List.replicate_zero, List.replicate_succ, List.set_cons_zero, List.set_cons_succ, List.take_length, Option.bind_some, Bool.not_true, Bool.not_false, if_true, if_false, Bool.false_eq_true, ite_true, ite_false, ite_self, decide_true, decide_false, Nat.zero_le, reduceCtorEq, andE_eq, andK_bl, orE_eq, orK_bl, asB_eq, asK_bl, Option.map_some, sz1, sz2, sz3, sz4, cst1, cst2, cst3]
          exact ih
def readT (ps : List T) : TR := match ps with
  | [] => .err
  | p :: rest => if nameB p = true then loopT 1 [] rest else .bad 0
theorem c_sep : (", " : Str) = S [44, 32] := by decide +kernel
def toTR (p : T) (r : TR) (st : Store) : R Val := match r with
  | .ok rs => .ok (.d (.ins ("Turning" : Str) [("rules" : Str), ("mode" : Str)] [.tup (rs.map rD), .str (S p)])) st
  | .bad i => .exc ("InvalidText" : Str) [("at" : Str)] [.int i] st
  | .err => .err
theorem inB62_nat {n : Nat} (h : n ≤ 100000) : inB62 (n : Int) = true := by
  unfold inB62
  rw [Bool.and_eq_true]
  exact ⟨decide_eq_true (by omega), decide_eq_true (by omega)⟩
theorem inB62_one : inB62 1 = true := by
  unfold inB62
  rw [Bool.and_eq_true]
  exact ⟨decide_eq_true (by omega), decide_eq_true (by omega)⟩
theorem len_lst {xs : List D} {st : Store} : lenV (.d (.lst xs)) st = .ok (.d (.int xs.length)) st := by simp [lenV, valsOf]
theorem small_size2 {n : Nat} (h : n ≤ 100000) : n + 2 ≤ sizeLine := Nat.le_trans (Nat.add_le_add_right h 2) (by decide)
theorem rng_lst {ρ : DL.Env} {st : Store} {xs : List D} {n : Nat} (h : ρ[1]? = some (some (.d (.lst xs)))) (h1 : xs.length = n + 1) (h2 : n + 1 ≤ 100000) : rng2I (consA (cE (.int 1)) (consA (bltE (one lenV) (consA (varE 1) nilA)) nilA)) ρ st = .ok (rangeVals 1 n) st := by
  have hv : varE 1 ρ st = .ok (.d (.lst xs)) st := by unfold varE; rw [h]
  have ha : consA (cE (.int 1)) (consA (bltE (one lenV) (consA (varE 1) nilA)) nilA) ρ st = .ok [.d (.int 1), .d (.int ((n + 1 : Nat) : Int))] st := by
    simp only [consA, cE, bindR_ok, bltE, one, nilA, hv, len_lst, h1]
  have e2 : inB62 ((n + 1 : Nat) : Int) = true := inB62_nat h2
  have e3 : (((n + 1 : Nat) : Int) - 1).toNat = n := by omega
  unfold rng2I
  rw [ha, bindR_ok]
  generalize hj : ((n + 1 : Nat) : Int) = j at e2 e3
  have e1 := inB62_one
  generalize hi : (1 : Int) = i at e1 e3 ⊢
  show (if (inB62 i && inB62 j) = true then R.ok (rangeVals i (j - i).toNat) st else R.err) = _
  rw [e1, e2, e3]
  rfl
theorem f_read_turning {z : T} {p : T} {rest : List T} (st : Store) (hz : z.length ≤ 100000) (hs : Txt.split (S z) (S [44, 32]) = (p :: rest).map S) (hp : p.length ≤ 1000) (hl : rest.length ≤ 900) (he : readT (p :: rest) ≠ .err) :
    F_read_turning [.d (.str (S z))] st = toTR p (readT (p :: rest)) st := by
  have b32 : ((S [44, 32]).length == 0) = false := by rw [S_len]; rfl
  have sz : (S z).length + 2 ≤ sizeLine := by rw [S_len]; exact small_size2 hz
  have hpl : p.length ≤ sizeLine := small_size (by omega)
  unfold F_read_turning g_read_turning
  simp only [N_read_turning, funD, funX, funK, env0, retS, retN, exprS, setS, seqS, ifS, asgS, parS, nxS, raiseS, varE, cE, op2, andT, orT, notT, notE, ifE, nilA, consA, tupE, lstE, asDs_nil, asDs_cons, asDs_map, callE, callX, bltE, one, truE, sliceE, noO, someO, nameG, tupG, consG, nilG, okIf, negE, bindR_ok, bindR_exc, bindR_err, bindS_ok, bindS_exc, bindS_err, seqR_nx, seqR_ret, seqR_exc, seqR_brk, seqR_cnt, seqR_err, noX_ok, fin_nx, fin_d, fin_exc, fin_scr, eq_str, ne_str, eq_int, ne_int, List.map_cons, List.map_nil, List.cons_append, List.nil_append, List.getElem?_cons_zero, List.getElem?_cons_succ, List.length_cons, List.length_nil, Nat.reduceAdd, Nat.reduceSub, List.replicate_zero, List.replicate_succ, List.set_cons_zero, List.set_cons_succ, List.take_length, Option.bind_some, Bool.not_true, Bool.not_false, if_true, if_false, Bool.false_eq_true, ite_true, ite_false, ite_self, decide_true, decide_false, Nat.zero_le, reduceCtorEq, andE_eq, andK_bl, orE_eq, orK_bl, asB_eq, asK_bl, Option.map_some, sz1, sz2, sz3, sz4, cst1, cst2, cst3]
  rw [isi_str (z := S z) rfl]
  simp only [tm1E, c_sep, split_ok b32 sz, hs, new_nil, funD, funX, funK, env0, retS, retN, exprS, setS, seqS, ifS, asgS, parS, nxS, raiseS, varE, cE, op2, andT, orT, notT, notE, ifE, nilA, consA, tupE, lstE, asDs_nil, asDs_cons, asDs_map, callE, callX, bltE, one, truE, sliceE, noO, someO, nameG, tupG, consG, nilG, okIf, negE, bindR_ok, bindR_exc, bindR_err, bindS_ok, bindS_exc, bindS_err, seqR_nx, seqR_ret, seqR_exc, seqR_brk, seqR_cnt, seqR_err, noX_ok, fin_nx, fin_d, fin_exc, fin_scr, eq_str, ne_str, eq_int, ne_int, List.map_cons, List.map_nil, List.cons_append, List.nil_append, List.getElem?_cons_zero, List.getElem?_cons_succ, List.length_cons, List.length_nil, Nat.reduceAdd, Nat.reduceSub, List.replicate_zero, List.replicate_succ, List.set_cons_zero, List.set_cons_succ, List.take_length, Option.bind_some, Bool.not_true, Bool.not_false, if_true, if_false, Bool.false_eq_true, ite_true, ite_false, ite_self, decide_true, decide_false, Nat.zero_le, reduceCtorEq, andE_eq, andK_bl, orE_eq, orK_bl, asB_eq, asK_bl, Option.map_some, sz1, sz2, sz3, sz4, cst1, cst2, cst3]
  simp only [ix_lst0, f_is_name hpl, funD, funX, funK, env0, retS, retN, exprS, setS, seqS, ifS, asgS, parS, nxS, raiseS, varE, cE, op2, andT, orT, notT, notE, ifE, nilA, consA, tupE, lstE, asDs_nil, asDs_cons, asDs_map, callE, callX, bltE, one, truE, sliceE, noO, someO, nameG, tupG, consG, nilG, okIf, negE, bindR_ok, bindR_exc, bindR_err, bindS_ok, bindS_exc, bindS_err, seqR_nx, seqR_ret, seqR_exc, seqR_brk, seqR_cnt, seqR_err, noX_ok, fin_nx, fin_d, fin_exc, fin_scr, eq_str, ne_str, eq_int, ne_int, List.map_cons, List.map_nil, List.cons_append, List.nil_append, List.getElem?_cons_zero, List.getElem?_cons_succ, List.length_cons, List.length_nil, Nat.reduceAdd, Nat.reduceSub, List.replicate_zero, List.replicate_succ, List.set_cons_zero, List.set_cons_succ, List.take_length, Option.bind_some, Bool.not_true, Bool.not_false, if_true, if_false, Bool.false_eq_true, ite_true, ite_false, ite_self, decide_true, decide_false, Nat.zero_le, reduceCtorEq, andE_eq, andK_bl, orE_eq, orK_bl, asB_eq, asK_bl, Option.map_some, sz1, sz2, sz3, sz4, cst1, cst2, cst3]
  have rt_t : nameB p = true → readT (p :: rest) = loopT 1 [] rest := fun h => by unfold readT; exact if_pos h
  have rt_f : nameB p = false → readT (p :: rest) = .bad 0 := fun h => by unfold readT; simp only [h, Bool.false_eq_true, if_false]
  cases hn : nameB p with
  | false =>
    rw [rt_f hn]
    simp only [toTR, List.take_left, funD, funX, funK, env0, retS, retN, exprS, setS, seqS, ifS, asgS, parS, nxS, raiseS, varE, cE, op2, andT, orT, notT, notE, ifE, nilA, consA, tupE, lstE, asDs_nil, asDs_cons, asDs_map, callE, callX, bltE, one, truE, sliceE, noO, someO, nameG, tupG, consG, nilG, okIf, negE, bindR_ok, bindR_exc, bindR_err, bindS_ok, bindS_exc, bindS_err, seqR_nx, seqR_ret, seqR_exc, seqR_brk, seqR_cnt, seqR_err, noX_ok, fin_nx, fin_d, fin_exc, fin_scr, eq_str, ne_str, eq_int, ne_int, List.map_cons, List.map_nil, List.cons_append, List.nil_append, List.getElem?_cons_zero, List.getElem?_cons_succ, List.length_cons, List.length_nil, Nat.reduceAdd, Nat.reduceSub, List.replicate_zero, List.replicate_succ, List.set_cons_zero, List.set_cons_succ, List.take_length, Option.bind_some, Bool.not_true, Bool.not_false, if_true, if_false, Bool.false_eq_true, ite_true, ite_false, ite_self, decide_true, decide_false, Nat.zero_le, reduceCtorEq, andE_eq, andK_bl, orE_eq, orK_bl, asB_eq, asK_bl, Option.map_some, sz1, sz2, sz3, sz4, cst1, cst2, cst3]
    rfl
  | true =>
    rw [rt_t hn] at he ⊢
    rw [if_neg (by decide), seqR_nx, seqS_eq, forS_eq, rng_lst (n := rest.length) rfl (by simp) (by omega), bindS_ok]
    have lp := f_loop (z := S z) (p :: rest) st (by rw [List.length_cons]; omega) rest 1 [] rfl (by simp)
    simp only [cellR, List.map_nil, List.map_cons] at lp
    cases hr : loopT 1 [] rest with
    | err => exact absurd hr he
    | bad i =>
      rw [hr] at lp
      obtain ⟨ρ, c, lp⟩ := lp
      unfold bodyT at lp
      rw [show ((1 : Nat) : Int) = 1 from rfl] at lp
      rw [lp, seqR_exc, fin_exc, List.take_left]
      rfl
    | ok rs =>
      rw [hr] at lp
      unfold bodyT at lp
      rw [show ((1 : Nat) : Int) = 1 from rfl] at lp
      rw [lp, seqR_nx]
      have tr : tupleV (.ref st.length) (st ++ [some (.lst (rs.map fun r => Val.d (rD r)))]) = .ok (.d (.tup (rs.map rD))) (st ++ [some (.lst (rs.map fun r => Val.d (rD r)))]) := tuple_ref (by rw [at_new, List.map_map]; rfl)
      simp only [tr, ix_lst0, makeE, funD, funX, funK, env0, retS, retN, exprS, setS, seqS, ifS, asgS, parS, nxS, raiseS, varE, cE, op2, andT, orT, notT, notE, ifE, nilA, consA, tupE, lstE, asDs_nil, asDs_cons, asDs_map, callE, callX, bltE, one, truE, sliceE, noO, someO, nameG, tupG, consG, nilG, okIf, negE, bindR_ok, bindR_exc, bindR_err, bindS_ok, bindS_exc, bindS_err, seqR_nx, seqR_ret, seqR_exc, seqR_brk, seqR_cnt, seqR_err, noX_ok, fin_nx, fin_d, fin_exc, fin_scr, eq_str, ne_str, eq_int, ne_int, List.map_cons, List.map_nil, List.cons_append, List.nil_append, List.getElem?_cons_zero, List.getElem?_cons_succ, List.length_cons, List.length_nil, Nat.reduceAdd, Nat.reduceSub, List.replicate_zero, List.replicate_succ, List.set_cons_zero, List.set_cons_succ, List.take_length, Option.bind_some, Bool.not_true, Bool.not_false, if_true, if_false, Bool.false_eq_true, ite_true, ite_false, ite_self, decide_true, decide_false, Nat.zero_le, reduceCtorEq, andE_eq, andK_bl, orE_eq, orK_bl, asB_eq, asK_bl, Option.map_some, sz1, sz2, sz3, sz4, cst1, cst2, cst3]
      simp only [toTR, List.take_left]
theorem f_read_bad {x : D} (st : Store) (h : tab_str (tyD x) = some false) : F_read_turning [.d x] st = .exc ("InvalidText" : Str) [("at" : Str)] [.int (-1)] st := by
  unfold F_read_turning g_read_turning
  simp only [N_read_turning, funD, funX, funK, env0, retS, retN, exprS, setS, seqS, ifS, asgS, parS, nxS, raiseS, varE, cE, op2, andT, orT, notT, notE, ifE, nilA, consA, tupE, lstE, asDs_nil, asDs_cons, asDs_map, callE, callX, bltE, one, truE, sliceE, noO, someO, nameG, tupG, consG, nilG, okIf, negE, bindR_ok, bindR_exc, bindR_err, bindS_ok, bindS_exc, bindS_err, seqR_nx, seqR_ret, seqR_exc, seqR_brk, seqR_cnt, seqR_err, noX_ok, fin_nx, fin_d, fin_exc, fin_scr, eq_str, ne_str, eq_int, ne_int, List.map_cons, List.map_nil, List.cons_append, List.nil_append, List.getElem?_cons_zero, List.getElem?_cons_succ, List.length_cons, List.length_nil, Nat.reduceAdd, Nat.reduceSub, List.replicate_zero, List.replicate_succ, List.set_cons_zero, List.set_cons_succ, List.take_length, Option.bind_some, Bool.not_true, Bool.not_false, if_true, if_false, Bool.false_eq_true, ite_true, ite_false, ite_self, decide_true, decide_false, Nat.zero_le, reduceCtorEq, andE_eq, andK_bl, orE_eq, orK_bl, asB_eq, asK_bl, Option.map_some, sz1, sz2, sz3, sz4, cst1, cst2, cst3]
  rw [isi_d (x := x) rfl h]
  simp only [funD, funX, funK, env0, retS, retN, exprS, setS, seqS, ifS, asgS, parS, nxS, raiseS, varE, cE, op2, andT, orT, notT, notE, ifE, nilA, consA, tupE, lstE, asDs_nil, asDs_cons, asDs_map, callE, callX, bltE, one, truE, sliceE, noO, someO, nameG, tupG, consG, nilG, okIf, negE, bindR_ok, bindR_exc, bindR_err, bindS_ok, bindS_exc, bindS_err, seqR_nx, seqR_ret, seqR_exc, seqR_brk, seqR_cnt, seqR_err, noX_ok, fin_nx, fin_d, fin_exc, fin_scr, eq_str, ne_str, eq_int, ne_int, List.map_cons, List.map_nil, List.cons_append, List.nil_append, List.getElem?_cons_zero, List.getElem?_cons_succ, List.length_cons, List.length_nil, Nat.reduceAdd, Nat.reduceSub, List.replicate_zero, List.replicate_succ, List.set_cons_zero, List.set_cons_succ, List.take_length, Option.bind_some, Bool.not_true, Bool.not_false, if_true, if_false, Bool.false_eq_true, ite_true, ite_false, ite_self, decide_true, decide_false, Nat.zero_le, reduceCtorEq, andE_eq, andK_bl, orE_eq, orK_bl, asB_eq, asK_bl, Option.map_some, sz1, sz2, sz3, sz4, cst1, cst2, cst3]
def dErr (i : Int) : D := .lst [.str ("text" : Str), .int i, .bl true, .bl false]
theorem f_told {v : Val} {st : Store} {x : D} (h : F_read_turning [v] st = .ok (.d x) st) : F__law_told [v] st = .ok (.d x) st := by
  unfold F__law_told g__law_told tryAsS
  simp only [N__law_told, h, funD, funX, funK, env0, retS, retN, exprS, setS, seqS, ifS, asgS, parS, nxS, raiseS, varE, cE, op2, andT, orT, notT, notE, ifE, nilA, consA, tupE, lstE, asDs_nil, asDs_cons, asDs_map, callE, callX, bltE, one, truE, sliceE, noO, someO, nameG, tupG, consG, nilG, okIf, negE, bindR_ok, bindR_exc, bindR_err, bindS_ok, bindS_exc, bindS_err, seqR_nx, seqR_ret, seqR_exc, seqR_brk, seqR_cnt, seqR_err, noX_ok, fin_nx, fin_d, fin_exc, fin_scr, eq_str, ne_str, eq_int, ne_int, List.map_cons, List.map_nil, List.cons_append, List.nil_append, List.getElem?_cons_zero, List.getElem?_cons_succ, List.length_cons, List.length_nil, Nat.reduceAdd, Nat.reduceSub, List.replicate_zero, List.replicate_succ, List.set_cons_zero, List.set_cons_succ, List.take_length, Option.bind_some, Bool.not_true, Bool.not_false, if_true, if_false, Bool.false_eq_true, ite_true, ite_false, ite_self, decide_true, decide_false, Nat.zero_le, reduceCtorEq, andE_eq, andK_bl, orE_eq, orK_bl, asB_eq, asK_bl, Option.map_some, sz1, sz2, sz3, sz4, cst1, cst2, cst3]
theorem f_told_bad {v : Val} {st : Store} {i : Int} (h : F_read_turning [v] st = .exc ("InvalidText" : Str) [("at" : Str)] [.int i] st) : F__law_told [v] st = .ok (.d (dErr i)) st := by
  unfold F__law_told g__law_told tryAsS
  have q : sub_InvalidText ("InvalidText" : Str) = some true := by decide +kernel
  simp only [N__law_told, h, q, suite__law_told, dErr, funD, funX, funK, env0, retS, retN, exprS, setS, seqS, ifS, asgS, parS, nxS, raiseS, varE, cE, op2, andT, orT, notT, notE, ifE, nilA, consA, tupE, lstE, asDs_nil, asDs_cons, asDs_map, callE, callX, bltE, one, truE, sliceE, noO, someO, nameG, tupG, consG, nilG, okIf, negE, bindR_ok, bindR_exc, bindR_err, bindS_ok, bindS_exc, bindS_err, seqR_nx, seqR_ret, seqR_exc, seqR_brk, seqR_cnt, seqR_err, noX_ok, fin_nx, fin_d, fin_exc, fin_scr, eq_str, ne_str, eq_int, ne_int, List.map_cons, List.map_nil, List.cons_append, List.nil_append, List.getElem?_cons_zero, List.getElem?_cons_succ, List.length_cons, List.length_nil, Nat.reduceAdd, Nat.reduceSub, List.replicate_zero, List.replicate_succ, List.set_cons_zero, List.set_cons_succ, List.take_length, Option.bind_some, Bool.not_true, Bool.not_false, if_true, if_false, Bool.false_eq_true, ite_true, ite_false, ite_self, decide_true, decide_false, Nat.zero_le, reduceCtorEq, andE_eq, andK_bl, orE_eq, orK_bl, asB_eq, asK_bl, Option.map_some, sz1, sz2, sz3, sz4, cst1, cst2, cst3]
  rw [if_pos (show 1 < 2 by decide), if_pos (show True ∧ True from ⟨trivial, trivial⟩)]
  simp only [funD, funX, funK, env0, retS, retN, exprS, setS, seqS, ifS, asgS, parS, nxS, raiseS, varE, cE, op2, andT, orT, notT, notE, ifE, nilA, consA, tupE, lstE, asDs_nil, asDs_cons, asDs_map, callE, callX, bltE, one, truE, sliceE, noO, someO, nameG, tupG, consG, nilG, okIf, negE, bindR_ok, bindR_exc, bindR_err, bindS_ok, bindS_exc, bindS_err, seqR_nx, seqR_ret, seqR_exc, seqR_brk, seqR_cnt, seqR_err, noX_ok, fin_nx, fin_d, fin_exc, fin_scr, eq_str, ne_str, eq_int, ne_int, List.map_cons, List.map_nil, List.cons_append, List.nil_append, List.getElem?_cons_zero, List.getElem?_cons_succ, List.length_cons, List.length_nil, Nat.reduceAdd, Nat.reduceSub, List.replicate_zero, List.replicate_succ, List.set_cons_zero, List.set_cons_succ, List.take_length, Option.bind_some, Bool.not_true, Bool.not_false, if_true, if_false, Bool.false_eq_true, ite_true, ite_false, ite_self, decide_true, decide_false, Nat.zero_le, reduceCtorEq, andE_eq, andK_bl, orE_eq, orK_bl, asB_eq, asK_bl, Option.map_some, sz1, sz2, sz3, sz4, cst1, cst2, cst3]
end K50
end

section
set_option Elab.async false
set_option linter.all false
set_option autoImplicit false
set_option maxRecDepth 100000
set_option maxHeartbeats 4000000
/-! KP8: what is dealt: _law_any, _law_of, _law_names. -/
namespace K50
open PySem DL
def intsV (cs : List Int) : List Val := cs.map fun i => Val.d (.int i)
def stD (cs : List Int) (mix : Int) (t : Store) : Store := some (.lst (intsV cs)) :: some (.lst [.ref 0, .d (.int mix)]) :: t
theorem deal0 {cs : List Int} {mix : Int} {t : Store} : ixV (.ref 1) (.d (.int 0)) (stD cs mix t) = .ok (.ref 0) (stD cs mix t) := rfl
theorem deal1 {cs : List Int} {mix : Int} {t : Store} : ixV (.ref 1) (.d (.int 1)) (stD cs mix t) = .ok (.d (.int mix)) (stD cs mix t) := rfl
theorem asDs_ints (cs : List Int) : asDs (intsV cs) = some (cs.map D.int) := by
  unfold intsV
  have : (cs.map fun i => Val.d (D.int i)) = (cs.map D.int).map Val.d := by rw [List.map_map]; rfl
  rw [this, asDs_map]
theorem toPys_ints : ∀ cs : List Int, toPys (cs.map D.int) = some (cs.map PyData.int)
  | [] => rfl
  | c :: cs => by simp only [List.map_cons, toPys, toPy, toPys_ints cs]
theorem lay_ints : ∀ cs : List Int, PyData.canLayAll0 (cs.map PyData.int) = true ∧ PyData.depthAll (cs.map PyData.int) = 0
  | [] => ⟨rfl, rfl⟩
  | c :: cs => by
    obtain ⟨a, b⟩ := lay_ints cs
    exact ⟨by simp only [List.map_cons, PyData.canLayAll0, PyData.canLay0, a, Bool.and_self], by simp only [List.map_cons, PyData.depthAll, PyData.depth, b, Nat.max_self]⟩
theorem shaped_ints (cs : List Int) : SeqAt.shaped (.list (cs.map PyData.int)) = true := by
  obtain ⟨a, b⟩ := lay_ints cs
  unfold SeqAt.shaped
  simp only [PyData.canLay0, PyData.depth, a, b, Bool.true_and]
  decide
theorem ne_cells {cs : List Int} {mix : Int} {t : Store} : eqV true (.ref 0) (.d (.lst [])) (stD cs mix t) = .ok (.d (.bl (!cs.isEmpty))) (stD cs mix t) := by
  have v : valD (stD cs mix t) (.ref 0) = some (.lst (cs.map D.int)) := by
    show (asDs (intsV cs)).map D.lst = _
    rw [asDs_ints]
    rfl
  have e : eqB (.lst (cs.map D.int)) (.lst []) = some cs.isEmpty := by
    rw [eqB_lst1]
    unfold eqG
    simp only [toPy, toPys_ints, Option.map_some]
    show (if (SeqAt.shaped (.list (cs.map PyData.int)) && SeqAt.shaped (.list [])) = true then some (PyData.eqv (.list (cs.map PyData.int)) (.list [])) else none) = _
    rw [shaped_ints, if_pos (by decide +kernel)]
    cases cs <;> rfl
  unfold eqV
  rw [v]
  show DL.bin (eqB (.lst (cs.map D.int)) (.lst [])) true _ = _
  rw [e]
  rfl
theorem pop_cells {cs : List Int} {x : Int} {mix : Int} {t : Store} : popV (.ref 0) (stD (cs ++ [x]) mix t) = .ok (.d (.int x)) (stD cs mix t) := by
  have e : intsV (cs ++ [x]) = intsV cs ++ [Val.d (.int x)] := by simp [intsV]
  unfold stD popV
  rw [e]
  simp
theorem last_cells {cs : List Int} {x : Int} {mix : Int} {t : Store} : ixV (.ref 0) (.d (.int (-1))) (stD (cs ++ [x]) mix t) = .ok (.d (.int x)) (stD (cs ++ [x]) mix t) := ix_last (xs := intsV cs) (by simp [stD, intsV])
theorem any_loop (b mix : Int) (t : Store) : ∀ (f : Nat) (cs : List Int), cs.length < f → ∃ cs', cs'.length ≤ cs.length ∧ whileL (andT (asB (op2 (eqV true) (op2 ixV (varE 0) (cE (.int 0))) (lstE nilA))) (asB (op2 (eqV false) (op2 ixV (op2 ixV (varE 0) (cE (.int 0))) (negE (cE (.int 1)))) (cE (.int 0))))) (exprS (mt0E popV (op2 ixV (varE 0) (cE (.int 0))))) [] f
    [some (.ref 1), some (.d (.int b)), none] (stD cs mix t) = .nx [some (.ref 1), some (.d (.int b)), none] (stD cs' mix t)
  | 0, cs, h => by omega
  | f + 1, cs, h => by
    rcases List.eq_nil_or_concat cs with rfl | ⟨cs1, x, rfl⟩
    · refine ⟨[], Nat.le_refl _, ?_⟩
      simp only [whileL, deal0, ne_cells, List.isEmpty_nil, funD, funX, funK, env0, retS, retN, exprS, setS, seqS, ifS, asgS, parS, nxS, raiseS, varE, cE, op2, andT, orT, notT, notE, ifE, nilA, consA, tupE, lstE, asDs_nil, asDs_cons, asDs_map, callE, callX, bltE, one, truE, sliceE, noO, someO, nameG, tupG, consG, nilG, okIf, negE, bindR_ok, bindR_exc, bindR_err, bindS_ok, bindS_exc, bindS_err, seqR_nx, seqR_ret, seqR_exc, seqR_brk, seqR_cnt, seqR_err, noX_ok, fin_nx, fin_d, fin_exc, fin_scr, eq_str, ne_str, eq_int, ne_int, List.map_cons, List.map_nil, List.cons_append, List.nil_append, List.getElem?_cons_zero, List.getElem?_cons_succ, List.length_cons, List.length_nil, Nat.reduceAdd, Nat.reduceSub, List.replicate_zero, List.replicate_succ, List.set_cons_zero, List.set_cons_succ, List.take_length, Option.bind_some, Bool.not_true, Bool.not_false, if_true, if_false, Bool.false_eq_true, ite_true, ite_false, ite_self, decide_true, decide_false, Nat.zero_le, reduceCtorEq, andE_eq, andK_bl, orE_eq, orK_bl, asB_eq, asK_bl, Option.map_some, sz1, sz2, sz3, sz4, cst1, cst2, cst3]
    · rw [List.concat_eq_append] at h ⊢
      have ne : (cs1 ++ [x]).isEmpty = false := by simp
      by_cases hx : x = 0
      · subst hx
        obtain ⟨cs', h1, h2⟩ := any_loop b mix t f cs1 (by simp at h; omega)
        refine ⟨cs', by simp; omega, ?_⟩
        simp only [whileL, deal0, ne_cells, ne, last_cells, mt0E, pop_cells, loopR_nx, forget, eq_self, funD, funX, funK, env0, retS, retN, exprS, setS, seqS, ifS, asgS, parS, nxS, raiseS, varE, cE, op2, andT, orT, notT, notE, ifE, nilA, consA, tupE, lstE, asDs_nil, asDs_cons, asDs_map, callE, callX, bltE, one, truE, sliceE, noO, someO, nameG, tupG, consG, nilG, okIf, negE, bindR_ok, bindR_exc, bindR_err, bindS_ok, bindS_exc, bindS_err, seqR_nx, seqR_ret, seqR_exc, seqR_brk, seqR_cnt, seqR_err, noX_ok, fin_nx, fin_d, fin_exc, fin_scr, eq_str, ne_str, eq_int, ne_int, List.map_cons, List.map_nil, List.cons_append, List.nil_append, List.getElem?_cons_zero, List.getElem?_cons_succ, List.length_cons, List.length_nil, Nat.reduceAdd, Nat.reduceSub, List.replicate_zero, List.replicate_succ, List.set_cons_zero, List.set_cons_succ, List.take_length, Option.bind_some, Bool.not_true, Bool.not_false, if_true, if_false, Bool.false_eq_true, ite_true, ite_false, ite_self, decide_true, decide_false, Nat.zero_le, reduceCtorEq, andE_eq, andK_bl, orE_eq, orK_bl, asB_eq, asK_bl, Option.map_some, sz1, sz2, sz3, sz4, cst1, cst2, cst3]
        exact h2
      · refine ⟨cs1 ++ [x], Nat.le_refl _, ?_⟩
        simp only [whileL, deal0, ne_cells, ne, last_cells, hx, funD, funX, funK, env0, retS, retN, exprS, setS, seqS, ifS, asgS, parS, nxS, raiseS, varE, cE, op2, andT, orT, notT, notE, ifE, nilA, consA, tupE, lstE, asDs_nil, asDs_cons, asDs_map, callE, callX, bltE, one, truE, sliceE, noO, someO, nameG, tupG, consG, nilG, okIf, negE, bindR_ok, bindR_exc, bindR_err, bindS_ok, bindS_exc, bindS_err, seqR_nx, seqR_ret, seqR_exc, seqR_brk, seqR_cnt, seqR_err, noX_ok, fin_nx, fin_d, fin_exc, fin_scr, eq_str, ne_str, eq_int, ne_int, List.map_cons, List.map_nil, List.cons_append, List.nil_append, List.getElem?_cons_zero, List.getElem?_cons_succ, List.length_cons, List.length_nil, Nat.reduceAdd, Nat.reduceSub, List.replicate_zero, List.replicate_succ, List.set_cons_zero, List.set_cons_succ, List.take_length, Option.bind_some, Bool.not_true, Bool.not_false, if_true, if_false, Bool.false_eq_true, ite_true, ite_false, ite_self, decide_true, decide_false, Nat.zero_le, reduceCtorEq, andE_eq, andK_bl, orE_eq, orK_bl, asB_eq, asK_bl, Option.map_some, sz1, sz2, sz3, sz4, cst1, cst2, cst3]
theorem any_ok (cs : List Int) (mix : Int) (t : Store) (b : Int) (hc : cs.length ≤ 63) (h0 : 0 < b) (h1 : b < 1073741824) : ∃ v cs' mix', F__law_any [.ref 1, .d (.int b)] (stD cs mix t) = .ok (.d (.int v)) (stD cs' mix' t) ∧ 0 ≤ v ∧ v < b ∧ cs'.length ≤ 63 := by
  obtain ⟨c1, l1, w⟩ := any_loop b mix t 70 cs (by omega)
  have tk : ∀ (a : List Int) (m : Int), (stD a m t).take (stD cs mix t).length = stD a m t := fun a m => List.take_of_length_le (by simp [stD])
  unfold F__law_any g__law_any
  simp only [N__law_any, whileS, funD, funX, funK, env0, retS, retN, exprS, setS, seqS, ifS, asgS, parS, nxS, raiseS, varE, cE, op2, andT, orT, notT, notE, ifE, nilA, consA, tupE, lstE, asDs_nil, asDs_cons, asDs_map, callE, callX, bltE, one, truE, sliceE, noO, someO, nameG, tupG, consG, nilG, okIf, negE, bindR_ok, bindR_exc, bindR_err, bindS_ok, bindS_exc, bindS_err, seqR_nx, seqR_ret, seqR_exc, seqR_brk, seqR_cnt, seqR_err, noX_ok, fin_nx, fin_d, fin_exc, fin_scr, eq_str, ne_str, eq_int, ne_int, List.map_cons, List.map_nil, List.cons_append, List.nil_append, List.getElem?_cons_zero, List.getElem?_cons_succ, List.length_cons, List.length_nil, Nat.reduceAdd, Nat.reduceSub, List.replicate_zero, List.replicate_succ, List.set_cons_zero, List.set_cons_succ, List.take_length, Option.bind_some, Bool.not_true, Bool.not_false, if_true, if_false, Bool.false_eq_true, ite_true, ite_false, ite_self, decide_true, decide_false, Nat.zero_le, reduceCtorEq, andE_eq, andK_bl, orE_eq, orK_bl, asB_eq, asK_bl, Option.map_some, sz1, sz2, sz3, sz4, cst1, cst2, cst3]
  rw [w]
  have md : ∀ (x : Int) (s : Store), modV (.d (.int x)) (.d (.int b)) s = .ok (.d (.int (x % b))) s := fun x s => by unfold modV; exact if_pos h0
  rcases List.eq_nil_or_concat c1 with rfl | ⟨c2, x, rfl⟩
  · simp only [deal0, ne_cells, List.isEmpty_nil, deal1, funD, funX, funK, env0, retS, retN, exprS, setS, seqS, ifS, asgS, parS, nxS, raiseS, varE, cE, op2, andT, orT, notT, notE, ifE, nilA, consA, tupE, lstE, asDs_nil, asDs_cons, asDs_map, callE, callX, bltE, one, truE, sliceE, noO, someO, nameG, tupG, consG, nilG, okIf, negE, bindR_ok, bindR_exc, bindR_err, bindS_ok, bindS_exc, bindS_err, seqR_nx, seqR_ret, seqR_exc, seqR_brk, seqR_cnt, seqR_err, noX_ok, fin_nx, fin_d, fin_exc, fin_scr, eq_str, ne_str, eq_int, ne_int, List.map_cons, List.map_nil, List.cons_append, List.nil_append, List.getElem?_cons_zero, List.getElem?_cons_succ, List.length_cons, List.length_nil, Nat.reduceAdd, Nat.reduceSub, List.replicate_zero, List.replicate_succ, List.set_cons_zero, List.set_cons_succ, List.take_length, Option.bind_some, Bool.not_true, Bool.not_false, if_true, if_false, Bool.false_eq_true, ite_true, ite_false, ite_self, decide_true, decide_false, Nat.zero_le, reduceCtorEq, andE_eq, andK_bl, orE_eq, orK_bl, asB_eq, asK_bl, Option.map_some, sz1, sz2, sz3, sz4, cst1, cst2, cst3]
    have mu : ∀ s : Store, mulV (.d (.int mix)) (.d (.int 48271)) s = .ok (.d (.int (mix * 48271))) s := fun s => by
      unfold mulV
      have : small64 48271 = true := by decide +kernel
      simp only [this, Bool.or_true, if_true]
    have m2 : ∀ (y : Int) (s : Store), modV (.d (.int y)) (.d (.int 2147483647)) s = .ok (.d (.int (y % 2147483647))) s := fun y s => by unfold modV; exact if_pos (by decide)
    have put : ∀ (y : Int) (ρ : DL.Env), putIx (.ref 1) (.d (.int 1)) (.d (.int y)) ρ (stD [] mix t) = .nx ρ (stD [] y t) := fun y ρ => rfl
    have fd : ∀ (y : Int) (s : Store), fdivV (.d (.int y)) (.d (.int 64)) s = .ok (.d (.int (y / 64))) s := fun y s => by unfold fdivV; exact if_pos (by decide)
    simp only [setIxS, mu, add_int, intV, m2, put, deal1, fd, md, tk, funD, funX, funK, env0, retS, retN, exprS, setS, seqS, ifS, asgS, parS, nxS, raiseS, varE, cE, op2, andT, orT, notT, notE, ifE, nilA, consA, tupE, lstE, asDs_nil, asDs_cons, asDs_map, callE, callX, bltE, one, truE, sliceE, noO, someO, nameG, tupG, consG, nilG, okIf, negE, bindR_ok, bindR_exc, bindR_err, bindS_ok, bindS_exc, bindS_err, seqR_nx, seqR_ret, seqR_exc, seqR_brk, seqR_cnt, seqR_err, noX_ok, fin_nx, fin_d, fin_exc, fin_scr, eq_str, ne_str, eq_int, ne_int, List.map_cons, List.map_nil, List.cons_append, List.nil_append, List.getElem?_cons_zero, List.getElem?_cons_succ, List.length_cons, List.length_nil, Nat.reduceAdd, Nat.reduceSub, List.replicate_zero, List.replicate_succ, List.set_cons_zero, List.set_cons_succ, List.take_length, Option.bind_some, Bool.not_true, Bool.not_false, if_true, if_false, Bool.false_eq_true, ite_true, ite_false, ite_self, decide_true, decide_false, Nat.zero_le, reduceCtorEq, andE_eq, andK_bl, orE_eq, orK_bl, asB_eq, asK_bl, Option.map_some, sz1, sz2, sz3, sz4, cst1, cst2, cst3]
    exact ⟨_, [], _, rfl, Int.emod_nonneg _ (by omega), Int.emod_lt_of_pos _ h0, by simp⟩
  · rw [List.concat_eq_append] at l1 ⊢
    have ne : (c2 ++ [x]).isEmpty = false := by simp
    have fd : ∀ (y : Int) (s : Store), fdivV (.d (.int y)) (.d (.int b)) s = .ok (.d (.int (y / b))) s := fun y s => by unfold fdivV; exact if_pos ⟨h0, h1⟩
    have ap : appendE (op2 ixV (varE 0) (cE (.int 0))) (op2 fdivV (varE 2) (varE 1)) [some (.ref 1), some (.d (.int b)), some (.d (.int x))] (stD c2 mix t) = .ok (.d .non) (stD (c2 ++ [x / b]) mix t) := by
      rw [append_ok (n := 0) (xs := intsV c2) (ys := intsV c2) (x := .int (x / b)) (s1 := stD c2 mix t) (by simp only [deal0, funD, funX, funK, env0, retS, retN, exprS, setS, seqS, ifS, asgS, parS, nxS, raiseS, varE, cE, op2, andT, orT, notT, notE, ifE, nilA, consA, tupE, lstE, asDs_nil, asDs_cons, asDs_map, callE, callX, bltE, one, truE, sliceE, noO, someO, nameG, tupG, consG, nilG, okIf, negE, bindR_ok, bindR_exc, bindR_err, bindS_ok, bindS_exc, bindS_err, seqR_nx, seqR_ret, seqR_exc, seqR_brk, seqR_cnt, seqR_err, noX_ok, fin_nx, fin_d, fin_exc, fin_scr, eq_str, ne_str, eq_int, ne_int, List.map_cons, List.map_nil, List.cons_append, List.nil_append, List.getElem?_cons_zero, List.getElem?_cons_succ, List.length_cons, List.length_nil, Nat.reduceAdd, Nat.reduceSub, List.replicate_zero, List.replicate_succ, List.set_cons_zero, List.set_cons_succ, List.take_length, Option.bind_some, Bool.not_true, Bool.not_false, if_true, if_false, Bool.false_eq_true, ite_true, ite_false, ite_self, decide_true, decide_false, Nat.zero_le, reduceCtorEq, andE_eq, andK_bl, orE_eq, orK_bl, asB_eq, asK_bl, Option.map_some, sz1, sz2, sz3, sz4, cst1, cst2, cst3]) rfl (by simp only [fd, funD, funX, funK, env0, retS, retN, exprS, setS, seqS, ifS, asgS, parS, nxS, raiseS, varE, cE, op2, andT, orT, notT, notE, ifE, nilA, consA, tupE, lstE, asDs_nil, asDs_cons, asDs_map, callE, callX, bltE, one, truE, sliceE, noO, someO, nameG, tupG, consG, nilG, okIf, negE, bindR_ok, bindR_exc, bindR_err, bindS_ok, bindS_exc, bindS_err, seqR_nx, seqR_ret, seqR_exc, seqR_brk, seqR_cnt, seqR_err, noX_ok, fin_nx, fin_d, fin_exc, fin_scr, eq_str, ne_str, eq_int, ne_int, List.map_cons, List.map_nil, List.cons_append, List.nil_append, List.getElem?_cons_zero, List.getElem?_cons_succ, List.length_cons, List.length_nil, Nat.reduceAdd, Nat.reduceSub, List.replicate_zero, List.replicate_succ, List.set_cons_zero, List.set_cons_succ, List.take_length, Option.bind_some, Bool.not_true, Bool.not_false, if_true, if_false, Bool.false_eq_true, ite_true, ite_false, ite_self, decide_true, decide_false, Nat.zero_le, reduceCtorEq, andE_eq, andK_bl, orE_eq, orK_bl, asB_eq, asK_bl, Option.map_some, sz1, sz2, sz3, sz4, cst1, cst2, cst3]) rfl (by unfold intsV; rw [List.length_map]; simp at l1; exact Nat.lt_of_lt_of_le (show c2.length < 100000 by omega) (small_size (Nat.le_refl _)))]
      simp [stD, intsV]
    simp only [deal0, ne_cells, ne, mt0E, pop_cells, intV, ap, md, tk, funD, funX, funK, env0, retS, retN, exprS, setS, seqS, ifS, asgS, parS, nxS, raiseS, varE, cE, op2, andT, orT, notT, notE, ifE, nilA, consA, tupE, lstE, asDs_nil, asDs_cons, asDs_map, callE, callX, bltE, one, truE, sliceE, noO, someO, nameG, tupG, consG, nilG, okIf, negE, bindR_ok, bindR_exc, bindR_err, bindS_ok, bindS_exc, bindS_err, seqR_nx, seqR_ret, seqR_exc, seqR_brk, seqR_cnt, seqR_err, noX_ok, fin_nx, fin_d, fin_exc, fin_scr, eq_str, ne_str, eq_int, ne_int, List.map_cons, List.map_nil, List.cons_append, List.nil_append, List.getElem?_cons_zero, List.getElem?_cons_succ, List.length_cons, List.length_nil, Nat.reduceAdd, Nat.reduceSub, List.replicate_zero, List.replicate_succ, List.set_cons_zero, List.set_cons_succ, List.take_length, Option.bind_some, Bool.not_true, Bool.not_false, if_true, if_false, Bool.false_eq_true, ite_true, ite_false, ite_self, decide_true, decide_false, Nat.zero_le, reduceCtorEq, andE_eq, andK_bl, orE_eq, orK_bl, asB_eq, asK_bl, Option.map_some, sz1, sz2, sz3, sz4, cst1, cst2, cst3]
    exact ⟨_, c2 ++ [x / b], _, rfl, Int.emod_nonneg _ (by omega), Int.emod_lt_of_pos _ h0, by simp at l1 ⊢; omega⟩
theorem of_ok (cs : List Int) (mix : Int) (t : Store) (xs : List D) (hc : cs.length ≤ 63) (h0 : xs ≠ []) (h1 : xs.length ≤ 1000) : ∃ x cs' mix', x ∈ xs ∧ F__law_of [.ref 1, .d (.lst xs)] (stD cs mix t) = .ok (.d x) (stD cs' mix' t) ∧ cs'.length ≤ 63 := by
  have hp : 0 < xs.length := List.length_pos_iff.mpr h0
  obtain ⟨v, c1, m1, e, v0, v1, l1⟩ := any_ok cs mix t (xs.length : Int) hc (by omega) (by omega)
  obtain ⟨k, rfl⟩ : ∃ k : Nat, v = k := ⟨v.toNat, by omega⟩
  have hk : k < xs.length := by omega
  have tk : (stD c1 m1 t).take (stD cs mix t).length = stD c1 m1 t := List.take_of_length_le (by simp [stD])
  refine ⟨xs[k], c1, m1, List.getElem_mem hk, ?_, l1⟩
  unfold F__law_of g__law_of
  simp only [N__law_of, len_lst, e, ix_lst (List.getElem?_eq_getElem hk), tk, funD, funX, funK, env0, retS, retN, exprS, setS, seqS, ifS, asgS, parS, nxS, raiseS, varE, cE, op2, andT, orT, notT, notE, ifE, nilA, consA, tupE, lstE, asDs_nil, asDs_cons, asDs_map, callE, callX, bltE, one, truE, sliceE, noO, someO, nameG, tupG, consG, nilG, okIf, negE, bindR_ok, bindR_exc, bindR_err, bindS_ok, bindS_exc, bindS_err, seqR_nx, seqR_ret, seqR_exc, seqR_brk, seqR_cnt, seqR_err, noX_ok, fin_nx, fin_d, fin_exc, fin_scr, eq_str, ne_str, eq_int, ne_int, List.map_cons, List.map_nil, List.cons_append, List.nil_append, List.getElem?_cons_zero, List.getElem?_cons_succ, List.length_cons, List.length_nil, Nat.reduceAdd, Nat.reduceSub, List.replicate_zero, List.replicate_succ, List.set_cons_zero, List.set_cons_succ, List.take_length, Option.bind_some, Bool.not_true, Bool.not_false, if_true, if_false, Bool.false_eq_true, ite_true, ite_false, ite_self, decide_true, decide_false, Nat.zero_le, reduceCtorEq, andE_eq, andK_bl, orE_eq, orK_bl, asB_eq, asK_bl, Option.map_some, sz1, sz2, sz3, sz4, cst1, cst2, cst3]
end K50
end

section
set_option Elab.async false
set_option linter.all false
set_option autoImplicit false
set_option maxRecDepth 100000
set_option maxHeartbeats 4000000
/-! KP9: what is dealt: _law_names, _law_parts. -/
namespace K50
open PySem DL
def NAMEL : List (List Str) := [["x"], ["x", "y"], ["x", "y", "z"], ["p", "pa", "pb"]]
theorem names_ok (cs : List Int) (mix : Int) (t : Store) (hc : cs.length ≤ 63) : ∃ ns cs' mix', ns ∈ NAMEL ∧ F__law_names [.ref 1] (stD cs mix t) = .ok (.d (.lst (ns.map D.str))) (stD cs' mix' t) ∧ cs'.length ≤ 63 := by
  obtain ⟨x, c1, m1, hx, e, l1⟩ := of_ok cs mix t [.lst [.str ("x" : Str)], .lst [.str ("x" : Str), .str ("y" : Str)], .lst [.str ("x" : Str), .str ("y" : Str), .str ("z" : Str)], .lst [.str ("p" : Str), .str ("pa" : Str), .str ("pb" : Str)]] hc (by simp) (by simp)
  have tk : (stD c1 m1 t).take (stD cs mix t).length = stD c1 m1 t := List.take_of_length_le (by simp [stD])
  have run : F__law_names [.ref 1] (stD cs mix t) = .ok (.d x) (stD c1 m1 t) := by
    unfold F__law_names g__law_names
    simp only [N__law_names, e, tk, funD, funX, funK, env0, retS, retN, exprS, setS, seqS, ifS, asgS, parS, nxS, raiseS, varE, cE, op2, andT, orT, notT, notE, ifE, nilA, consA, tupE, lstE, asDs_nil, asDs_cons, asDs_map, callE, callX, bltE, one, truE, sliceE, noO, someO, nameG, tupG, consG, nilG, okIf, negE, bindR_ok, bindR_exc, bindR_err, bindS_ok, bindS_exc, bindS_err, seqR_nx, seqR_ret, seqR_exc, seqR_brk, seqR_cnt, seqR_err, noX_ok, fin_nx, fin_d, fin_exc, fin_scr, eq_str, ne_str, eq_int, ne_int, List.map_cons, List.map_nil, List.cons_append, List.nil_append, List.getElem?_cons_zero, List.getElem?_cons_succ, List.length_cons, List.length_nil, Nat.reduceAdd, Nat.reduceSub, List.replicate_zero, List.replicate_succ, List.set_cons_zero, List.set_cons_succ, List.take_length, Option.bind_some, Bool.not_true, Bool.not_false, if_true, if_false, Bool.false_eq_true, ite_true, ite_false, ite_self, decide_true, decide_false, Nat.zero_le, reduceCtorEq, andE_eq, andK_bl, orE_eq, orK_bl, asB_eq, asK_bl, Option.map_some, sz1, sz2, sz3, sz4, cst1, cst2, cst3]
  simp only [List.mem_cons, List.mem_nil_iff, or_false] at hx
  rcases hx with rfl | rfl | rfl | rfl
  · exact ⟨["x"], c1, m1, by simp [NAMEL], run, l1⟩
  · exact ⟨["x", "y"], c1, m1, by simp [NAMEL], run, l1⟩
  · exact ⟨["x", "y", "z"], c1, m1, by simp [NAMEL], run, l1⟩
  · exact ⟨["p", "pa", "pb"], c1, m1, by simp [NAMEL], run, l1⟩
def NMS : List Str := ["x", "y", "z", "p", "pa", "pb", "w"]
def MDS : List Str := ["a", "b", "c", "k", "ka", "kb", "m", "n", "nn"]
theorem nms_ok : ∀ s ∈ NMS, nameB s.cps.toList = true ∧ s.cps.toList.length ≤ 2 := by
  have : NMS.all (fun s => nameB s.cps.toList && decide (s.cps.toList.length ≤ 2)) = true := by decide +kernel
  simp only [List.all_eq_true] at this
  intro s hs
  simpa using this s hs
theorem mds_ok : ∀ s ∈ MDS, nameB s.cps.toList = true ∧ s.cps.toList.length ≤ 2 := by
  have : MDS.all (fun s => nameB s.cps.toList && decide (s.cps.toList.length ≤ 2)) = true := by decide +kernel
  simp only [List.all_eq_true] at this
  intro s hs
  simpa using this s hs
def szA : Nat → Nat
  | 0 => 5
  | n + 1 => 3 * szA n + 7
theorem szA_ge (n : Nat) : 5 ≤ szA n := by
  cases n with
  | zero => exact Nat.le_refl _
  | succ n => unfold szA; omega
def genOK (dp : Nat) (l : T) (p : Part) : Prop := okP (2 * dp + 1) l p = true ∧ (txt p).length ≤ szA dp
theorem tailT_len {A : Nat} : ∀ ps : List Part, (∀ p ∈ ps, (txt p).length ≤ A) → (tailT ps).length ≤ ps.length * (A + 1)
  | [], _ => by simp [tailT]
  | p :: ps, h => by
    have a := h p List.mem_cons_self
    have b := tailT_len ps fun q hq => h q (List.mem_cons_of_mem _ hq)
    simp only [tailT, List.length_cons, List.length_append, Nat.add_mul]
    omega
theorem txts_len {A : Nat} (ps : List Part) (h : ∀ p ∈ ps, (txt p).length ≤ A) : (txts ps).length ≤ ps.length * (A + 1) := by
  have b := tailT_len ps h
  cases ps with
  | nil => simp [txts]
  | cons p ps => simp only [txts, tailT, List.length_cons, List.length_append] at b ⊢; omega
/-- the rest of the store while parts are made -/
def tl3 (pre post : Store) (k : Int) (acc : List Part) : Store := pre ++ some (.lst [.d (.int k)]) :: (post ++ [some (.lst (acc.map fun p => Val.d (toD p)))])
section
variable {cs : List Int} {mix : Int} {pre post : Store} {k : Int} {acc : List Part}
theorem z_r : (stD cs mix (tl3 pre post k acc))[2 + pre.length]? = some (some (.lst [.d (.int k)])) := by
  unfold stD tl3
  rw [show 2 + pre.length = pre.length + 1 + 1 by omega]
  simp
theorem z_q : (stD cs mix (tl3 pre post k acc))[2 + pre.length + 1 + post.length]? = some (some (.lst (acc.map fun p => Val.d (toD p)))) := by
  unfold stD tl3
  rw [show 2 + pre.length + 1 + post.length = (pre.length + (1 + post.length)) + 1 + 1 by omega]
  simp only [List.getElem?_cons_succ]
  rw [List.getElem?_append_right (by omega), show pre.length + (1 + post.length) - pre.length = post.length + 1 by omega]
  simp
theorem z_set_r (k' : Int) : (stD cs mix (tl3 pre post k acc)).set (2 + pre.length) (some (.lst [.d (.int k')])) = stD cs mix (tl3 pre post k' acc) := by
  unfold stD tl3
  rw [show 2 + pre.length = pre.length + 1 + 1 by omega]
  simp
theorem z_set_q (p : Part) : (stD cs mix (tl3 pre post k acc)).set (2 + pre.length + 1 + post.length) (some (.lst ((acc.map fun p => Val.d (toD p)) ++ [.d (toD p)]))) = stD cs mix (tl3 pre post k (acc ++ [p])) := by
  unfold stD tl3
  rw [show 2 + pre.length + 1 + post.length = (pre.length + (1 + post.length)) + 1 + 1 by omega]
  simp only [List.set_cons_succ]
  rw [List.set_append_right _ _ (by omega), show pre.length + (1 + post.length) - pre.length = post.length + 1 by omega]
  simp
end
def bodyP (F : List Val → Store → R Val) : SS := (seqS (setS 8 (callE F__law_any (consA (varE 0) (consA (cE (.int 6)) nilA)))) (ifS (andT (asB (op2 ltV (varE 8) (cE (.int 2)))) (asB (op2 gtV (varE 4) (cE (.int 0))))) (exprS (appendE (varE 6) (tupE (consA (cE (.str ("node" : Str))) (consA (callE F__law_of (consA (varE 0) (consA (varE 2) nilA))) (consA (callE F (consA (varE 0) (consA (varE 1) (consA (varE 2) (consA (varE 3) (consA (op2 subV (varE 4) (cE (.int 1))) (consA (varE 5) nilA))))))) nilA)))))) (ifS (orT (asB (op2 (eqV false) (varE 8) (cE (.int 2)))) (asB (op2 (eqV false) (op2 ixV (varE 5) (cE (.int 0))) (cE (.int 0))))) (exprS (appendE (varE 6) (tupE (consA (cE (.str ("say" : Str))) (consA (callE F__law_of (consA (varE 0) (consA (lstE (consA (cE (.str ("" : Str))) (consA (cE (.str ("s" : Str))) (consA (cE (.str ("x 1" : Str))) nilA)))) nilA))) nilA))))) (ifS (asB (op2 (eqV false) (varE 3) (cE (.str ("" : Str))))) (exprS (appendE (varE 6) (tupE (consA (cE (.str ("keep" : Str))) nilA)))) (seqS (setIxS (varE 5) (cE (.int 0)) (op2 subV (op2 ixV (varE 5) (cE (.int 0))) (cE (.int 1)))) (exprS (appendE (varE 6) (tupE (consA (cE (.str ("go" : Str))) (consA (callE F__law_of (consA (varE 0) (consA (varE 1) nilA))) nilA))))))))))
/-- what a call promises -/
def PartsOK (F : List Val → Store → R Val) (dp : Nat) (l : T) (modes names : List Str) : Prop := ∀ (cs : List Int) (mix : Int) (pre post : Store) (k : Int), cs.length ≤ 63 → ∃ ps cs' mix' k', F [.ref 1, .d (.lst (modes.map D.str)), .d (.lst (names.map D.str)), .d (.str (S l)), .d (.int dp), .ref (2 + pre.length)] (stD cs mix (pre ++ some (.lst [.d (.int k)]) :: post)) = .ok (.d (.tup (toDs ps))) (stD cs' mix' (pre ++ some (.lst [.d (.int k')]) :: post)) ∧ cs'.length ≤ 63 ∧ ps.length ≤ 3 ∧ ∀ p ∈ ps, genOK dp l p
theorem says_ok : ∀ x ∈ ([.str ("" : Str), .str ("s" : Str), .str ("x 1" : Str)] : List D), ∃ w, x = .str (S w) ∧ textB w = true ∧ w.length ≤ 3 := by
  intro x hx
  simp only [List.mem_cons, List.mem_nil_iff, or_false] at hx
  rcases hx with rfl | rfl | rfl
  · exact ⟨[], by congr 1, by decide +kernel, by decide⟩
  · exact ⟨[115], by congr 1, by decide +kernel, by decide⟩
  · exact ⟨[120, 32, 49], by congr 1, by decide +kernel, by decide⟩
section
variable {F : List Val → Store → R Val} {dp : Nat} {l : T} {modes names : List Str}
theorem apd {ρ : DL.Env} {f : SE} {s0 : Store} {cs1 cs2 : List Int} {mx1 mx2 : Int} {pre post : Store} {k1 k2 : Int} {acc : List Part} {p : Part} (h6 : ρ[6]? = some (some (Val.ref (2 + pre.length + 1 + post.length)))) (hs : s0 = stD cs1 mx1 (tl3 pre post k1 acc)) (hf : f ρ s0 = .ok (.d (toD p)) (stD cs2 mx2 (tl3 pre post k2 acc))) (hl : acc.length ≤ 3) :
    appendE (varE 6) f ρ s0 = .ok (.d .non) (stD cs2 mx2 (tl3 pre post k2 (acc ++ [p]))) := by
  subst hs
  rw [append_ok (n := 2 + pre.length + 1 + post.length) (by unfold varE; rw [h6]) z_q hf z_q (by rw [List.length_map]; exact Nat.lt_of_lt_of_le (show acc.length < 100000 by omega) (small_size (Nat.le_refl _)))]
  rw [z_set_q]
theorem body_ok (hm : ∀ s ∈ modes, s ∈ MDS) (hn : ∀ s ∈ names, s ∈ NMS) (hm0 : modes ≠ []) (hn0 : names ≠ []) (hml : modes.length ≤ 1000) (hnl : names.length ≤ 1000) (hF : ∀ d, dp = d + 1 → PartsOK F d l modes names)
    (cs : List Int) (mix : Int) (pre post : Store) (k : Int) (acc : List Part) (hc : cs.length ≤ 63) (hl : acc.length ≤ 3) (i : Val) :
    ∃ p cs' mix' k' x, bodyP F [some (.ref 1), some (.d (.lst (modes.map D.str))), some (.d (.lst (names.map D.str))), some (.d (.str (S l))), some (.d (.int dp)), some (.ref (2 + pre.length)), some (.ref (2 + pre.length + 1 + post.length)), some i, none] (stD cs mix (tl3 pre post k acc)) =
      .nx [some (.ref 1), some (.d (.lst (modes.map D.str))), some (.d (.lst (names.map D.str))), some (.d (.str (S l))), some (.d (.int dp)), some (.ref (2 + pre.length)), some (.ref (2 + pre.length + 1 + post.length)), some i, x] (stD cs' mix' (tl3 pre post k' (acc ++ [p]))) ∧ cs'.length ≤ 63 ∧ genOK dp l p := by
  obtain ⟨v, c1, m1, e1, v0, v6, l1⟩ := any_ok cs mix (tl3 pre post k acc) 6 hc (by omega) (by omega)
  have ixr : ∀ (cs : List Int) (mix : Int) (k : Int) (acc : List Part), ixV (.ref (2 + pre.length)) (.d (.int 0)) (stD cs mix (tl3 pre post k acc)) = .ok (.d (.int k)) (stD cs mix (tl3 pre post k acc)) := fun cs mix k acc => by
    simp only [ixV, valsOf, z_r]
    rfl
  unfold bodyP
  by_cases cn : v < 2 ∧ 0 < dp
  · obtain ⟨c2, c3⟩ := cn
    obtain ⟨d, rfl⟩ : ∃ d, dp = d + 1 := ⟨dp - 1, by omega⟩
    have q1 : decide (v < (2 : Int)) = true := decide_eq_true c2
    have q2 : decide ((0 : Int) < ((d + 1 : Nat) : Int)) = true := decide_eq_true (by omega)
    obtain ⟨x, cs2, m2, hx, e2, l2⟩ := of_ok c1 m1 (tl3 pre post k acc) (names.map D.str) l1 (by simpa using hn0) (by simpa using hnl)
    obtain ⟨s, hs, rfl⟩ := List.mem_map.mp hx
    obtain ⟨ps, cs3, m3, k3, e3, l3, hps, hgen⟩ := hF d rfl cs2 m2 pre (post ++ [some (.lst (acc.map fun p => Val.d (toD p)))]) k l2
    obtain ⟨n1, n2⟩ := nms_ok s (hn s hs)
    have sub : ∀ st : Store, subV (.d (.int ((d + 1 : Nat) : Int))) (.d (.int 1)) st = .ok (.d (.int (d : Int))) st := fun st => by
      show R.ok (Val.d (.int (((d + 1 : Nat) : Int) - 1))) st = _
      rw [show ((d + 1 : Nat) : Int) - 1 = (d : Int) by omega]
    have ap := apd (f := tupE (consA (cE (.str ("node" : Str))) (consA (callE F__law_of (consA (varE 0) (consA (varE 2) nilA))) (consA (callE F (consA (varE 0) (consA (varE 1) (consA (varE 2) (consA (varE 3) (consA (op2 subV (varE 4) (cE (.int 1))) (consA (varE 5) nilA))))))) nilA)))) (p := .node s.cps.toList ps) (pre := pre) (post := post) (acc := acc) (cs1 := c1) (mx1 := m1) (k1 := k) (k2 := k3) (cs2 := cs3) (mx2 := m3)
      (ρ := [some (.ref 1), some (.d (.lst (modes.map D.str))), some (.d (.lst (names.map D.str))), some (.d (.str (S l))), some (.d (.int ((d + 1 : Nat) : Int))), some (.ref (2 + pre.length)), some (.ref (2 + pre.length + 1 + post.length)), some i, some (.d (.int v))]) rfl rfl (by
        unfold tl3 at e2 ⊢
        simp only [e2, sub, e3, toD, S_of, funD, funX, funK, env0, retS, retN, exprS, setS, seqS, ifS, asgS, parS, nxS, raiseS, varE, cE, op2, andT, orT, notT, notE, ifE, nilA, consA, tupE, lstE, asDs_nil, asDs_cons, asDs_map, callE, callX, bltE, one, truE, sliceE, noO, someO, nameG, tupG, consG, nilG, okIf, negE, bindR_ok, bindR_exc, bindR_err, bindS_ok, bindS_exc, bindS_err, seqR_nx, seqR_ret, seqR_exc, seqR_brk, seqR_cnt, seqR_err, noX_ok, fin_nx, fin_d, fin_exc, fin_scr, eq_str, ne_str, eq_int, ne_int, List.map_cons, List.map_nil, List.cons_append, List.nil_append, List.getElem?_cons_zero, List.getElem?_cons_succ, List.length_cons, List.length_nil, Nat.reduceAdd, Nat.reduceSub, List.replicate_zero, List.replicate_succ, List.set_cons_zero, List.set_cons_succ, List.take_length, Option.bind_some, Bool.not_true, Bool.not_false, if_true, if_false, Bool.false_eq_true, ite_true, ite_false, ite_self, decide_true, decide_false, Nat.zero_le, reduceCtorEq, andE_eq, andK_bl, orE_eq, orK_bl, asB_eq, asK_bl, Option.map_some, sz1, sz2, sz3, sz4, cst1, cst2, cst3]) hl
    refine ⟨.node s.cps.toList ps, cs3, m3, k3, some (.d (.int v)), ?_, l3, ?_, ?_⟩
    · simp only [e1, lt_int, gt_int, q1, q2, ap, funD, funX, funK, env0, retS, retN, exprS, setS, seqS, ifS, asgS, parS, nxS, raiseS, varE, cE, op2, andT, orT, notT, notE, ifE, nilA, consA, tupE, lstE, asDs_nil, asDs_cons, asDs_map, callE, callX, bltE, one, truE, sliceE, noO, someO, nameG, tupG, consG, nilG, okIf, negE, bindR_ok, bindR_exc, bindR_err, bindS_ok, bindS_exc, bindS_err, seqR_nx, seqR_ret, seqR_exc, seqR_brk, seqR_cnt, seqR_err, noX_ok, fin_nx, fin_d, fin_exc, fin_scr, eq_str, ne_str, eq_int, ne_int, List.map_cons, List.map_nil, List.cons_append, List.nil_append, List.getElem?_cons_zero, List.getElem?_cons_succ, List.length_cons, List.length_nil, Nat.reduceAdd, Nat.reduceSub, List.replicate_zero, List.replicate_succ, List.set_cons_zero, List.set_cons_succ, List.take_length, Option.bind_some, Bool.not_true, Bool.not_false, if_true, if_false, Bool.false_eq_true, ite_true, ite_false, ite_self, decide_true, decide_false, Nat.zero_le, reduceCtorEq, andE_eq, andK_bl, orE_eq, orK_bl, asB_eq, asK_bl, Option.map_some, sz1, sz2, sz3, sz4, cst1, cst2, cst3]
    · have : okPs (2 * d + 1 + 1) l ps = true := by
        simp only [okPs, decide_eq_true (by omega : ps.length ≤ 30), Bool.true_and, List.all_eq_true]
        exact fun p hp => (hgen p hp).1
      show okP (2 * (d + 1) + 1) l _ = true
      rw [show 2 * (d + 1) + 1 = (2 * d + 1 + 1) + 1 by omega]
      simp only [okP, n1, this, Bool.and_self]
    · have b := txts_len (A := szA d) ps fun p hp => (hgen p hp).2
      have b2 : ps.length * (szA d + 1) ≤ 3 * (szA d + 1) := Nat.mul_le_mul_right _ hps
      simp only [txt, List.length_append, List.length_cons, List.length_nil, szA]
      omega
  have skip : ∀ st : Store, (if decide (v < 2) = true then R.ok (decide ((0 : Int) < (dp : Int))) st else R.ok false st) = R.ok false st := fun st => by
    by_cases c2 : v < 2
    · have : ¬ (0 : Int) < (dp : Int) := fun z => cn ⟨c2, by omega⟩
      simp only [c2, this, decide_true, decide_false, if_true]
    · simp only [c2, decide_false, Bool.false_eq_true, if_false]
  by_cases cs_ : v = 2 ∨ k = 0
  · obtain ⟨x, cs2, m2, hx, e2, l2⟩ := of_ok c1 m1 (tl3 pre post k acc) [.str ("" : Str), .str ("s" : Str), .str ("x 1" : Str)] l1 (by simp) (by simp)
    obtain ⟨w, rfl, w1, w2⟩ := says_ok x hx
    have ap := apd (f := tupE (consA (cE (.str ("say" : Str))) (consA (callE F__law_of (consA (varE 0) (consA (lstE (consA (cE (.str ("" : Str))) (consA (cE (.str ("s" : Str))) (consA (cE (.str ("x 1" : Str))) nilA)))) nilA))) nilA))) (p := .say w) (pre := pre) (post := post) (acc := acc) (cs1 := c1) (mx1 := m1) (k1 := k) (k2 := k) (cs2 := cs2) (mx2 := m2)
      (ρ := [some (.ref 1), some (.d (.lst (modes.map D.str))), some (.d (.lst (names.map D.str))), some (.d (.str (S l))), some (.d (.int (dp : Int))), some (.ref (2 + pre.length)), some (.ref (2 + pre.length + 1 + post.length)), some i, some (.d (.int v))]) rfl rfl (by
        simp only [e2, toD, funD, funX, funK, env0, retS, retN, exprS, setS, seqS, ifS, asgS, parS, nxS, raiseS, varE, cE, op2, andT, orT, notT, notE, ifE, nilA, consA, tupE, lstE, asDs_nil, asDs_cons, asDs_map, callE, callX, bltE, one, truE, sliceE, noO, someO, nameG, tupG, consG, nilG, okIf, negE, bindR_ok, bindR_exc, bindR_err, bindS_ok, bindS_exc, bindS_err, seqR_nx, seqR_ret, seqR_exc, seqR_brk, seqR_cnt, seqR_err, noX_ok, fin_nx, fin_d, fin_exc, fin_scr, eq_str, ne_str, eq_int, ne_int, List.map_cons, List.map_nil, List.cons_append, List.nil_append, List.getElem?_cons_zero, List.getElem?_cons_succ, List.length_cons, List.length_nil, Nat.reduceAdd, Nat.reduceSub, List.replicate_zero, List.replicate_succ, List.set_cons_zero, List.set_cons_succ, List.take_length, Option.bind_some, Bool.not_true, Bool.not_false, if_true, if_false, Bool.false_eq_true, ite_true, ite_false, ite_self, decide_true, decide_false, Nat.zero_le, reduceCtorEq, andE_eq, andK_bl, orE_eq, orK_bl, asB_eq, asK_bl, Option.map_some, sz1, sz2, sz3, sz4, cst1, cst2, cst3]) hl
    have yes : ∀ st : Store, (if decide (v = 2) = true then R.ok true st else R.ok (decide (k = 0)) st) = R.ok true st := fun st => by
      by_cases c2 : v = 2
      · simp only [c2, decide_true, if_true]
      · have : k = 0 := cs_.resolve_left c2
        simp only [c2, this, decide_true, decide_false, Bool.false_eq_true, if_false]
    refine ⟨.say w, cs2, m2, k, some (.d (.int v)), ?_, l2, ?_, ?_⟩
    · simp only [e1, lt_int, gt_int, skip, ixr, yes, ap, funD, funX, funK, env0, retS, retN, exprS, setS, seqS, ifS, asgS, parS, nxS, raiseS, varE, cE, op2, andT, orT, notT, notE, ifE, nilA, consA, tupE, lstE, asDs_nil, asDs_cons, asDs_map, callE, callX, bltE, one, truE, sliceE, noO, someO, nameG, tupG, consG, nilG, okIf, negE, bindR_ok, bindR_exc, bindR_err, bindS_ok, bindS_exc, bindS_err, seqR_nx, seqR_ret, seqR_exc, seqR_brk, seqR_cnt, seqR_err, noX_ok, fin_nx, fin_d, fin_exc, fin_scr, eq_str, ne_str, eq_int, ne_int, List.map_cons, List.map_nil, List.cons_append, List.nil_append, List.getElem?_cons_zero, List.getElem?_cons_succ, List.length_cons, List.length_nil, Nat.reduceAdd, Nat.reduceSub, List.replicate_zero, List.replicate_succ, List.set_cons_zero, List.set_cons_succ, List.take_length, Option.bind_some, Bool.not_true, Bool.not_false, if_true, if_false, Bool.false_eq_true, ite_true, ite_false, ite_self, decide_true, decide_false, Nat.zero_le, reduceCtorEq, andE_eq, andK_bl, orE_eq, orK_bl, asB_eq, asK_bl, Option.map_some, sz1, sz2, sz3, sz4, cst1, cst2, cst3]
    · simpa [okP] using w1
    · have := szA_ge dp
      simp only [txt, List.length_append, List.length_cons, List.length_nil]
      omega
  have no : ∀ st : Store, (if decide (v = 2) = true then R.ok true st else R.ok (decide (k = 0)) st) = R.ok false st := fun st => by
    have c2 : ¬ v = 2 := fun z => cs_ (.inl z)
    have c3 : ¬ k = 0 := fun z => cs_ (.inr z)
    simp only [c2, c3, decide_false, Bool.false_eq_true, if_false]
  by_cases cl : l = []
  · have ap := apd (f := tupE (consA (cE (.str ("keep" : Str))) nilA)) (p := .keep) (pre := pre) (post := post) (acc := acc) (cs1 := c1) (mx1 := m1) (k1 := k) (k2 := k) (cs2 := c1) (mx2 := m1)
      (ρ := [some (.ref 1), some (.d (.lst (modes.map D.str))), some (.d (.lst (names.map D.str))), some (.d (.str (S l))), some (.d (.int (dp : Int))), some (.ref (2 + pre.length)), some (.ref (2 + pre.length + 1 + post.length)), some i, some (.d (.int v))]) rfl rfl (by simp only [toD, funD, funX, funK, env0, retS, retN, exprS, setS, seqS, ifS, asgS, parS, nxS, raiseS, varE, cE, op2, andT, orT, notT, notE, ifE, nilA, consA, tupE, lstE, asDs_nil, asDs_cons, asDs_map, callE, callX, bltE, one, truE, sliceE, noO, someO, nameG, tupG, consG, nilG, okIf, negE, bindR_ok, bindR_exc, bindR_err, bindS_ok, bindS_exc, bindS_err, seqR_nx, seqR_ret, seqR_exc, seqR_brk, seqR_cnt, seqR_err, noX_ok, fin_nx, fin_d, fin_exc, fin_scr, eq_str, ne_str, eq_int, ne_int, List.map_cons, List.map_nil, List.cons_append, List.nil_append, List.getElem?_cons_zero, List.getElem?_cons_succ, List.length_cons, List.length_nil, Nat.reduceAdd, Nat.reduceSub, List.replicate_zero, List.replicate_succ, List.set_cons_zero, List.set_cons_succ, List.take_length, Option.bind_some, Bool.not_true, Bool.not_false, if_true, if_false, Bool.false_eq_true, ite_true, ite_false, ite_self, decide_true, decide_false, Nat.zero_le, reduceCtorEq, andE_eq, andK_bl, orE_eq, orK_bl, asB_eq, asK_bl, Option.map_some, sz1, sz2, sz3, sz4, cst1, cst2, cst3]) hl
    refine ⟨.keep, c1, m1, k, some (.d (.int v)), ?_, l1, ?_, ?_⟩
    · have q : decide (l = []) = true := decide_eq_true cl
      simp only [e1, lt_int, gt_int, skip, ixr, no, s_nil, S_inj, q, ap, funD, funX, funK, env0, retS, retN, exprS, setS, seqS, ifS, asgS, parS, nxS, raiseS, varE, cE, op2, andT, orT, notT, notE, ifE, nilA, consA, tupE, lstE, asDs_nil, asDs_cons, asDs_map, callE, callX, bltE, one, truE, sliceE, noO, someO, nameG, tupG, consG, nilG, okIf, negE, bindR_ok, bindR_exc, bindR_err, bindS_ok, bindS_exc, bindS_err, seqR_nx, seqR_ret, seqR_exc, seqR_brk, seqR_cnt, seqR_err, noX_ok, fin_nx, fin_d, fin_exc, fin_scr, eq_str, ne_str, eq_int, ne_int, List.map_cons, List.map_nil, List.cons_append, List.nil_append, List.getElem?_cons_zero, List.getElem?_cons_succ, List.length_cons, List.length_nil, Nat.reduceAdd, Nat.reduceSub, List.replicate_zero, List.replicate_succ, List.set_cons_zero, List.set_cons_succ, List.take_length, Option.bind_some, Bool.not_true, Bool.not_false, if_true, if_false, Bool.false_eq_true, ite_true, ite_false, ite_self, decide_true, decide_false, Nat.zero_le, reduceCtorEq, andE_eq, andK_bl, orE_eq, orK_bl, asB_eq, asK_bl, Option.map_some, sz1, sz2, sz3, sz4, cst1, cst2, cst3]
    · simpa [okP] using cl
    · have := szA_ge dp
      simp only [txt, List.length_cons, List.length_nil]
      omega
  · obtain ⟨x, cs2, m2, hx, e2, l2⟩ := of_ok c1 m1 (tl3 pre post (k - 1) acc) (modes.map D.str) l1 (by simpa using hm0) (by simpa using hml)
    obtain ⟨s, hs, rfl⟩ := List.mem_map.mp hx
    obtain ⟨n1, n2⟩ := mds_ok s (hm s hs)
    have ap := apd (f := tupE (consA (cE (.str ("go" : Str))) (consA (callE F__law_of (consA (varE 0) (consA (varE 1) nilA))) nilA))) (p := .go s.cps.toList) (pre := pre) (post := post) (acc := acc) (cs1 := c1) (mx1 := m1) (k1 := k - 1) (k2 := k - 1) (cs2 := cs2) (mx2 := m2)
      (ρ := [some (.ref 1), some (.d (.lst (modes.map D.str))), some (.d (.lst (names.map D.str))), some (.d (.str (S l))), some (.d (.int (dp : Int))), some (.ref (2 + pre.length)), some (.ref (2 + pre.length + 1 + post.length)), some i, some (.d (.int v))]) rfl rfl (by
        simp only [e2, toD, S_of, funD, funX, funK, env0, retS, retN, exprS, setS, seqS, ifS, asgS, parS, nxS, raiseS, varE, cE, op2, andT, orT, notT, notE, ifE, nilA, consA, tupE, lstE, asDs_nil, asDs_cons, asDs_map, callE, callX, bltE, one, truE, sliceE, noO, someO, nameG, tupG, consG, nilG, okIf, negE, bindR_ok, bindR_exc, bindR_err, bindS_ok, bindS_exc, bindS_err, seqR_nx, seqR_ret, seqR_exc, seqR_brk, seqR_cnt, seqR_err, noX_ok, fin_nx, fin_d, fin_exc, fin_scr, eq_str, ne_str, eq_int, ne_int, List.map_cons, List.map_nil, List.cons_append, List.nil_append, List.getElem?_cons_zero, List.getElem?_cons_succ, List.length_cons, List.length_nil, Nat.reduceAdd, Nat.reduceSub, List.replicate_zero, List.replicate_succ, List.set_cons_zero, List.set_cons_succ, List.take_length, Option.bind_some, Bool.not_true, Bool.not_false, if_true, if_false, Bool.false_eq_true, ite_true, ite_false, ite_self, decide_true, decide_false, Nat.zero_le, reduceCtorEq, andE_eq, andK_bl, orE_eq, orK_bl, asB_eq, asK_bl, Option.map_some, sz1, sz2, sz3, sz4, cst1, cst2, cst3]) hl
    have sub : ∀ st : Store, subV (.d (.int k)) (.d (.int 1)) st = .ok (.d (.int (k - 1))) st := fun st => rfl
    have put : ∀ ρ : DL.Env, putIx (.ref (2 + pre.length)) (.d (.int 0)) (.d (.int (k - 1))) ρ (stD c1 m1 (tl3 pre post k acc)) = .nx ρ (stD c1 m1 (tl3 pre post (k - 1) acc)) := fun ρ => by
      unfold putIx
      simp only [z_r]
      rw [← z_set_r (k - 1)]
      rfl
    refine ⟨.go s.cps.toList, cs2, m2, k - 1, some (.d (.int v)), ?_, l2, ?_, ?_⟩
    · have q : decide (l = []) = false := decide_eq_false cl
      simp only [e1, lt_int, gt_int, skip, ixr, no, s_nil, S_inj, q, setIxS, sub, put, ap, funD, funX, funK, env0, retS, retN, exprS, setS, seqS, ifS, asgS, parS, nxS, raiseS, varE, cE, op2, andT, orT, notT, notE, ifE, nilA, consA, tupE, lstE, asDs_nil, asDs_cons, asDs_map, callE, callX, bltE, one, truE, sliceE, noO, someO, nameG, tupG, consG, nilG, okIf, negE, bindR_ok, bindR_exc, bindR_err, bindS_ok, bindS_exc, bindS_err, seqR_nx, seqR_ret, seqR_exc, seqR_brk, seqR_cnt, seqR_err, noX_ok, fin_nx, fin_d, fin_exc, fin_scr, eq_str, ne_str, eq_int, ne_int, List.map_cons, List.map_nil, List.cons_append, List.nil_append, List.getElem?_cons_zero, List.getElem?_cons_succ, List.length_cons, List.length_nil, Nat.reduceAdd, Nat.reduceSub, List.replicate_zero, List.replicate_succ, List.set_cons_zero, List.set_cons_succ, List.take_length, Option.bind_some, Bool.not_true, Bool.not_false, if_true, if_false, Bool.false_eq_true, ite_true, ite_false, ite_self, decide_true, decide_false, Nat.zero_le, reduceCtorEq, andE_eq, andK_bl, orE_eq, orK_bl, asB_eq, asK_bl, Option.map_some, sz1, sz2, sz3, sz4, cst1, cst2, cst3]
    · simp only [okP, n1, decide_eq_false cl, Bool.not_false, Bool.and_self]
    · have := szA_ge dp
      simp only [txt, List.length_cons]
      omega
end
end K50
end

section
set_option Elab.async false
set_option linter.all false
set_option autoImplicit false
set_option maxRecDepth 100000
set_option maxHeartbeats 4000000
/-! KP10: _law_parts, _law_turning. -/
namespace K50
open PySem DL
theorem rng1_ok {f : SA} {ρ : DL.Env} {st st' : Store} {v : Int} (h : f ρ st = .ok [.d (.int v)] st') (h0 : 0 ≤ v) (h1 : v ≤ 1000) : rng1I f ρ st = .ok (rangeVals 0 v.toNat) st' := by
  obtain ⟨n, rfl⟩ : ∃ n : Nat, v = n := ⟨v.toNat, by omega⟩
  have e := inB62_nat (n := n) (by omega)
  unfold rng1I
  rw [h, bindR_ok]
  generalize ((n : Nat) : Int) = j at e ⊢
  show (if inB62 j = true then R.ok (rangeVals 0 j.toNat) st' else R.err) = _
  rw [if_pos e]
section
variable {F : List Val → Store → R Val} {dp : Nat} {l : T} {modes names : List Str}
theorem loop_ok (hm : ∀ s ∈ modes, s ∈ MDS) (hn : ∀ s ∈ names, s ∈ NMS) (hm0 : modes ≠ []) (hn0 : names ≠ []) (hml : modes.length ≤ 1000) (hnl : names.length ≤ 1000) (hF : ∀ d, dp = d + 1 → PartsOK F d l modes names) (pre post : Store) :
    ∀ (m : Nat) (lo : Int) (cs : List Int) (mix : Int) (k : Int) (acc : List Part), cs.length ≤ 63 → acc.length + m ≤ 3 → (∀ p ∈ acc, genOK dp l p) → ∃ acc' cs' mix' k', forL (nameG 7) (bodyP F) [7, 8] (rangeVals lo m) [some (.ref 1), some (.d (.lst (modes.map D.str))), some (.d (.lst (names.map D.str))), some (.d (.str (S l))), some (.d (.int dp)), some (.ref (2 + pre.length)), some (.ref (2 + pre.length + 1 + post.length)), none, none] (stD cs mix (tl3 pre post k acc)) =
      .nx [some (.ref 1), some (.d (.lst (modes.map D.str))), some (.d (.lst (names.map D.str))), some (.d (.str (S l))), some (.d (.int dp)), some (.ref (2 + pre.length)), some (.ref (2 + pre.length + 1 + post.length)), none, none] (stD cs' mix' (tl3 pre post k' acc')) ∧ cs'.length ≤ 63 ∧ acc'.length ≤ 3 ∧ ∀ p ∈ acc', genOK dp l p
  | 0, lo, cs, mix, k, acc, hc, hl, hg => ⟨acc, cs, mix, k, rfl, hc, by omega, hg⟩
  | m + 1, lo, cs, mix, k, acc, hc, hl, hg => by
    obtain ⟨p, c1, m1, k1, x, e1, l1, g1⟩ := body_ok hm hn hm0 hn0 hml hnl hF cs mix pre post k acc hc (by omega) (.d (.int lo))
    obtain ⟨acc', c2, m2, k2, e2, l2, l3, g2⟩ := loop_ok hm hn hm0 hn0 hml hnl hF pre post m (lo + 1) c1 m1 k1 (acc ++ [p]) l1 (by rw [List.length_append, List.length_singleton]; omega) fun q hq => by
      rcases List.mem_append.mp hq with z | z
      · exact hg q z
      · rw [List.mem_singleton.mp z]; exact g1
    refine ⟨acc', c2, m2, k2, ?_, l2, l3, g2⟩
    rw [rng_succ]
    simp only [forL, e1, loopR_nx, forget, funD, funX, funK, env0, retS, retN, exprS, setS, seqS, ifS, asgS, parS, nxS, raiseS, varE, cE, op2, andT, orT, notT, notE, ifE, nilA, consA, tupE, lstE, asDs_nil, asDs_cons, asDs_map, callE, callX, bltE, one, truE, sliceE, noO, someO, nameG, tupG, consG, nilG, okIf, negE, bindR_ok, bindR_exc, bindR_err, bindS_ok, bindS_exc, bindS_err, seqR_nx, seqR_ret, seqR_exc, seqR_brk, seqR_cnt, seqR_err, noX_ok, fin_nx, fin_d, fin_exc, fin_scr, eq_str, ne_str, eq_int, ne_int, List.map_cons, List.map_nil, List.cons_append, List.nil_append, List.getElem?_cons_zero, List.getElem?_cons_succ, List.length_cons, List.length_nil, Nat.reduceAdd, Nat.reduceSub, List.replicate_zero, List.replicate_succ, List.set_cons_zero, List.set_cons_succ, List.take_length, Option.bind_some, Bool.not_true, Bool.not_false, if_true, if_false, Bool.false_eq_true, ite_true, ite_false, ite_self, decide_true, decide_false, Nat.zero_le, reduceCtorEq, andE_eq, andK_bl, orE_eq, orK_bl, asB_eq, asK_bl, Option.map_some, sz1, sz2, sz3, sz4, cst1, cst2, cst3]
    exact e2
theorem parts_ok (hm : ∀ s ∈ modes, s ∈ MDS) (hn : ∀ s ∈ names, s ∈ NMS) (hm0 : modes ≠ []) (hn0 : names ≠ []) (hml : modes.length ≤ 1000) (hnl : names.length ≤ 1000) : ∀ (n dp : Nat), dp < n → PartsOK (F__law_parts n) dp l modes names
  | 0, dp, h => by omega
  | n + 1, dp, h => by
    intro cs mix pre post k hc
    have hF : ∀ d, dp = d + 1 → PartsOK (F__law_parts n) d l modes names := fun d e => parts_ok hm hn hm0 hn0 hml hnl n d (by omega)
    have e0 : stD cs mix (pre ++ some (.lst [.d (.int k)]) :: post) ++ [some (.lst [])] = stD cs mix (tl3 pre post k []) := by simp [stD, tl3]
    have el : (stD cs mix (pre ++ some (.lst [.d (.int k)]) :: post)).length = 2 + pre.length + 1 + post.length := by simp [stD]; omega
    obtain ⟨b, hb, hb4, hbe⟩ : ∃ b : Int, 0 < b ∧ b ≤ 4 ∧ ∀ (ρ : DL.Env) (s : Store), ρ[4]? = some (some (Val.d (.int (dp : Int)))) → ifE (asB (op2 gtV (varE 4) (cE (.int 0)))) (cE (.int 4)) (cE (.int 3)) ρ s = .ok (.d (.int b)) s := by
      by_cases c : 0 < dp
      · refine ⟨4, by omega, by omega, fun ρ s h4 => ?_⟩
        have : decide ((0 : Int) < (dp : Int)) = true := decide_eq_true (by omega)
        simp only [ifE, asB_eq, op2, varE, h4, cE, bindR_ok, gt_int, asK_bl, this, if_true]
      · refine ⟨3, by omega, by omega, fun ρ s h4 => ?_⟩
        have : decide ((0 : Int) < (dp : Int)) = false := decide_eq_false (by omega)
        simp only [ifE, asB_eq, op2, varE, h4, cE, bindR_ok, gt_int, asK_bl, this, Bool.false_eq_true, if_false]
    obtain ⟨v, c1, m1, e1, v0, v1, l1⟩ := any_ok cs mix (tl3 pre post k []) b hc hb (by omega)
    obtain ⟨acc, c2, m2, k2, e2, l2, l3, g2⟩ := loop_ok (l := l) hm hn hm0 hn0 hml hnl hF pre post v.toNat 0 c1 m1 k [] l1 (by simp; omega) (by simp)
    refine ⟨acc, c2, m2, k2, ?_, l2, l3, g2⟩
    show funD N__law_parts.length (g__law_parts (F__law_parts n)) _ _ = _
    have it : rng1I (consA (callE F__law_any (consA (varE 0) (consA (ifE (asB (op2 gtV (varE 4) (cE (.int 0)))) (cE (.int 4)) (cE (.int 3))) nilA))) nilA) [some (.ref 1), some (.d (.lst (modes.map D.str))), some (.d (.lst (names.map D.str))), some (.d (.str (S l))), some (.d (.int dp)), some (.ref (2 + pre.length)), some (.ref (2 + pre.length + 1 + post.length)), none, none] (stD cs mix (tl3 pre post k [])) = .ok (rangeVals 0 v.toNat) (stD c1 m1 (tl3 pre post k [])) := by
      refine rng1_ok ?_ v0 (by omega)
      simp only [consA, callE, varE, List.getElem?_cons_zero, bindR_ok, hbe _ _ (show ([some (.ref 1), some (.d (.lst (modes.map D.str))), some (.d (.lst (names.map D.str))), some (.d (.str (S l))), some (.d (.int dp)), some (.ref (2 + pre.length)), some (.ref (2 + pre.length + 1 + post.length)), none, none] : DL.Env)[4]? = some (some (Val.d (.int (dp : Int)))) from rfl), nilA, e1, noX_ok]
    have tp : tupleV (.ref (2 + pre.length + 1 + post.length)) (stD c2 m2 (tl3 pre post k2 acc)) = .ok (.d (.tup (acc.map toD))) (stD c2 m2 (tl3 pre post k2 acc)) := tuple_ref (by rw [z_q, List.map_map]; rfl)
    have tk : (stD c2 m2 (tl3 pre post k2 acc)).take (2 + pre.length + 1 + post.length) = stD c2 m2 (pre ++ some (.lst [.d (.int k2)]) :: post) := by
      have : stD c2 m2 (tl3 pre post k2 acc) = stD c2 m2 (pre ++ some (.lst [.d (.int k2)]) :: post) ++ [some (.lst (acc.map fun p => Val.d (toD p)))] := by simp [stD, tl3]
      rw [this]
      have el2 : (stD c2 m2 (pre ++ some (.lst [.d (.int k2)]) :: post)).length = 2 + pre.length + 1 + post.length := by simp [stD]; omega
      rw [← el2, List.take_left]
    unfold g__law_parts
    simp only [N__law_parts, new_nil, e0, el, funD, funX, funK, env0, retS, retN, exprS, setS, seqS, ifS, asgS, parS, nxS, raiseS, varE, cE, op2, andT, orT, notT, notE, ifE, nilA, consA, tupE, lstE, asDs_nil, asDs_cons, asDs_map, callE, callX, bltE, one, truE, sliceE, noO, someO, nameG, tupG, consG, nilG, okIf, negE, bindR_ok, bindR_exc, bindR_err, bindS_ok, bindS_exc, bindS_err, seqR_nx, seqR_ret, seqR_exc, seqR_brk, seqR_cnt, seqR_err, noX_ok, fin_nx, fin_d, fin_exc, fin_scr, eq_str, ne_str, eq_int, ne_int, List.map_cons, List.map_nil, List.cons_append, List.nil_append, List.getElem?_cons_zero, List.getElem?_cons_succ, List.length_cons, List.length_nil, Nat.reduceAdd, Nat.reduceSub, List.replicate_zero, List.replicate_succ, List.set_cons_zero, List.set_cons_succ, List.take_length, Option.bind_some, Bool.not_true, Bool.not_false, if_true, if_false, Bool.false_eq_true, ite_true, ite_false, ite_self, decide_true, decide_false, Nat.zero_le, reduceCtorEq, andE_eq, andK_bl, orE_eq, orK_bl, asB_eq, asK_bl, Option.map_some, sz1, sz2, sz3, sz4, cst1, cst2, cst3]
    rw [forS_eq, it, bindS_ok]
    unfold bodyP at e2
    rw [e2]
    simp only [tp, tk, toDs_map, funD, funX, funK, env0, retS, retN, exprS, setS, seqS, ifS, asgS, parS, nxS, raiseS, varE, cE, op2, andT, orT, notT, notE, ifE, nilA, consA, tupE, lstE, asDs_nil, asDs_cons, asDs_map, callE, callX, bltE, one, truE, sliceE, noO, someO, nameG, tupG, consG, nilG, okIf, negE, bindR_ok, bindR_exc, bindR_err, bindS_ok, bindS_exc, bindS_err, seqR_nx, seqR_ret, seqR_exc, seqR_brk, seqR_cnt, seqR_err, noX_ok, fin_nx, fin_d, fin_exc, fin_scr, eq_str, ne_str, eq_int, ne_int, List.map_cons, List.map_nil, List.cons_append, List.nil_append, List.getElem?_cons_zero, List.getElem?_cons_succ, List.length_cons, List.length_nil, Nat.reduceAdd, Nat.reduceSub, List.replicate_zero, List.replicate_succ, List.set_cons_zero, List.set_cons_succ, List.take_length, Option.bind_some, Bool.not_true, Bool.not_false, if_true, if_false, Bool.false_eq_true, ite_true, ite_false, ite_self, decide_true, decide_false, Nat.zero_le, reduceCtorEq, andE_eq, andK_bl, orE_eq, orK_bl, asB_eq, asK_bl, Option.map_some, sz1, sz2, sz3, sz4, cst1, cst2, cst3]
end
end K50
end

section
set_option Elab.async false
set_option linter.all false
set_option autoImplicit false
set_option maxRecDepth 100000
set_option maxHeartbeats 4000000
/-! KP11: _law_turning. -/
namespace DL
open PySem
theorem new_one {f : SE} {ρ : Env} {st : Store} {x : D} (h : f ρ st = .ok (.d x) st) : newE (consA f nilA) ρ st = .ok (.ref st.length) (st ++ [some (.lst [.d x])]) := by
  unfold newE consA nilA
  rw [h]
  simp only [bindR_ok]
  exact if_pos ⟨by show 1 ≤ sizeLine; decide, rfl⟩
theorem add_lst {xs ys : List D} {st : Store} (h : xs.length + ys.length ≤ sizeLine) : addV (.d (.lst xs)) (.d (.lst ys)) st = .ok (.d (.lst (xs ++ ys))) st := by
  show (if xs.length + ys.length ≤ sizeLine then R.ok (Val.d (.lst (xs ++ ys))) st else R.err) = _
  exact if_pos h
end DL
namespace K50
open PySem DL
def LTS : List Str := ["", "x", "y", "z", "p", "pa", "pb"]
theorem lts_ok : ∀ s ∈ LTS, letB s.cps.toList = true ∧ s.cps.toList.length ≤ 2 := by
  have : LTS.all (fun s => letB s.cps.toList && decide (s.cps.toList.length ≤ 2)) = true := by decide +kernel
  simp only [List.all_eq_true] at this
  intro s hs
  simpa using this s hs
/-- a rule that is dealt -/
structure RuleOK (r : Rl) : Prop where
  m : S r.1 ∈ MDS
  l : S r.2.1 ∈ LTS
  few : r.2.2.length ≤ 3
  gen : ∀ p ∈ r.2.2, genOK 2 r.2.1 p
def hd (r : Rl) : Str × Str := (S r.1, S r.2.1)
section
variable {cs : List Int} {mix : Int} {t rooms : Store} {c c' : Option Cell}
theorem w_q : (stD cs mix (t ++ c :: rooms))[2 + t.length]? = some c := by
  unfold stD
  rw [show 2 + t.length = t.length + 1 + 1 by omega]
  simp
theorem w_set : (stD cs mix (t ++ c :: rooms)).set (2 + t.length) c' = stD cs mix (t ++ c' :: rooms) := by
  unfold stD
  rw [show 2 + t.length = t.length + 1 + 1 by omega]
  simp
end
def innerB : SS := (ifS (asB (op2 gtV (callE F__law_any (consA (varE 0) (consA (cE (.int 4)) nilA))) (cE (.int 0)))) (exprS (appendE (varE 6) (tupE (consA (varE 7) (consA (varE 8) (consA (callE (F__law_parts 12) (consA (varE 0) (consA (varE 5) (consA (op2 addV (varE 1) (lstE (consA (cE (.str ("w" : Str))) nilA))) (consA (varE 8) (consA (varE 4) (consA (newE (consA (varE 3) nilA)) nilA))))))) nilA)))))) nxS)
section
variable {modes names : List Str}
def envT (names modes : List Str) (q : Nat) (x y : Option Val) : DL.Env := [some (.ref 1), some (.d (.lst (names.map D.str))), some (.d (.int 3)), some (.d (.int 3)), some (.d (.int 2)), some (.d (.lst (modes.map D.str))), some (.ref q), x, y]
theorem inner_ok (hm : ∀ s ∈ modes, s ∈ MDS) (hn : ∀ s ∈ names ++ [("w" : Str)], s ∈ NMS) (hm0 : modes ≠ []) (hml : modes.length ≤ 1000) (hnl : names.length ≤ 900) (t : Store) (m : Str) (hmm : m ∈ MDS) :
    ∀ (ls : List Str) (cs : List Int) (mix : Int) (acc : List Rl) (rooms : Store) (P : List (Str × Str)), (∀ l ∈ ls, l ∈ LTS) → cs.length ≤ 63 → acc.length + ls.length ≤ 1000 → (acc.map hd).Sublist P → (∀ r ∈ acc, RuleOK r) →
    ∃ acc' cs' mix' rooms', forL (nameG 8) innerB [8] (ls.map fun l => Val.d (.str l)) (envT names modes (2 + t.length) (some (.d (.str m))) none) (stD cs mix (t ++ cellR acc :: rooms)) = .nx (envT names modes (2 + t.length) (some (.d (.str m))) none) (stD cs' mix' (t ++ cellR acc' :: rooms')) ∧ cs'.length ≤ 63 ∧ acc'.length ≤ acc.length + ls.length ∧ (acc'.map hd).Sublist (P ++ ls.map fun l => (m, l)) ∧ ∀ r ∈ acc', RuleOK r
  | [], cs, mix, acc, rooms, P, _, hc, _, hP, hR => ⟨acc, cs, mix, rooms, rfl, hc, by simp, by simpa using hP, hR⟩
  | l :: ls, cs, mix, acc, rooms, P, hl, hc, hlen, hP, hR => by
    rw [List.length_cons] at hlen
    have hls : ∀ x ∈ ls, x ∈ LTS := fun x hx => hl x (List.mem_cons_of_mem _ hx)
    obtain ⟨v, c1, m1, e1, v0, v4, l1⟩ := any_ok cs mix (t ++ cellR acc :: rooms) 4 hc (by omega) (by omega)
    have esp : P ++ (l :: ls).map (fun l => (m, l)) = (P ++ [(m, l)]) ++ ls.map fun l => (m, l) := by simp
    by_cases cv : 0 < v
    · obtain ⟨ps, c2, m2, k2, e2, l2, f2, g2⟩ := parts_ok (l := l.cps.toList) hm hn hm0 (by simp) hml (by simp; omega) 12 2 (by omega) c1 m1 (t ++ cellR acc :: rooms) [] 3 l1
      have len_ : (stD c1 m1 (t ++ cellR acc :: rooms)).length = 2 + (t ++ cellR acc :: rooms).length := by simp [stD]; omega
      have eapp : stD c1 m1 (t ++ cellR acc :: rooms) ++ [some (.lst [.d (.int 3)])] = stD c1 m1 ((t ++ cellR acc :: rooms) ++ some (.lst [.d (.int 3)]) :: []) := by simp [stD]
      have eapp2 : stD c2 m2 ((t ++ cellR acc :: rooms) ++ some (.lst [.d (.int k2)]) :: []) = stD c2 m2 (t ++ cellR acc :: (rooms ++ [some (.lst [.d (.int k2)])])) := by simp
      have eL : (S l.cps.toList) = l := S_of l
      have eM : (S m.cps.toList) = m := S_of m
      rw [eL] at e2
      rw [List.map_append] at e2
      simp only [List.map_cons, List.map_nil] at e2
      rw [show ((2 : Nat) : Int) = 2 from rfl] at e2
      have r1 : RuleOK (m.cps.toList, l.cps.toList, ps) := ⟨by rw [eM]; exact hmm, by rw [eL]; exact hl l List.mem_cons_self, f2, g2⟩
      obtain ⟨acc', c3, m3, rooms', e3, l3, a3, s3, g3⟩ := inner_ok hm hn hm0 hml hnl t m hmm ls c2 m2 (acc ++ [(m.cps.toList, l.cps.toList, ps)]) (rooms ++ [some (.lst [.d (.int k2)])]) (P ++ [(m, l)]) hls l2 (by rw [List.length_append, List.length_singleton]; omega)
        (by rw [List.map_append]; refine hP.append ?_; unfold hd; simp only [List.map_cons, List.map_nil, eL, eM]; exact List.Sublist.refl _) (fun r hr => by
          rcases List.mem_append.mp hr with z | z
          · exact hR r z
          · rw [List.mem_singleton.mp z]; exact r1)
      refine ⟨acc', c3, m3, rooms', ?_, l3, by rw [List.length_append, List.length_singleton] at a3; rw [List.length_cons]; omega, by rw [esp]; exact s3, g3⟩
      have ad : ∀ st : Store, addV (.d (.lst (names.map D.str))) (.d (.lst [.str ("w" : Str)])) st = .ok (.d (.lst (names.map D.str ++ [.str ("w" : Str)]))) st := fun st => add_lst (by rw [List.length_map]; simp; exact small_size (by omega))
      have nw : newE (consA (varE 3) nilA) (envT names modes (2 + t.length) (some (.d (.str m))) (some (.d (.str l)))) (stD c1 m1 (t ++ cellR acc :: rooms)) = .ok (.ref (2 + (t ++ cellR acc :: rooms).length)) (stD c1 m1 ((t ++ cellR acc :: rooms) ++ some (.lst [.d (.int 3)]) :: [])) := by
        rw [new_one (x := .int 3) rfl, len_, eapp]
      have tup : tupE (consA (varE 7) (consA (varE 8) (consA (callE (F__law_parts 12) (consA (varE 0) (consA (varE 5) (consA (op2 addV (varE 1) (lstE (consA (cE (.str ("w" : Str))) nilA))) (consA (varE 8) (consA (varE 4) (consA (newE (consA (varE 3) nilA)) nilA))))))) nilA))) (envT names modes (2 + t.length) (some (.d (.str m))) (some (.d (.str l)))) (stD c1 m1 (t ++ cellR acc :: rooms)) = .ok (.d (rD (m.cps.toList, l.cps.toList, ps))) (stD c2 m2 (t ++ cellR acc :: (rooms ++ [some (.lst [.d (.int k2)])]))) := by
        unfold envT at nw ⊢
        simp only [ad, nw, e2, eapp2, rD, rdata, eL, eM, funD, funX, funK, env0, retS, retN, exprS, setS, seqS, ifS, asgS, parS, nxS, raiseS, varE, cE, op2, andT, orT, notT, notE, ifE, nilA, consA, tupE, lstE, asDs_nil, asDs_cons, asDs_map, callE, callX, bltE, one, truE, sliceE, noO, someO, nameG, tupG, consG, nilG, okIf, negE, bindR_ok, bindR_exc, bindR_err, bindS_ok, bindS_exc, bindS_err, seqR_nx, seqR_ret, seqR_exc, seqR_brk, seqR_cnt, seqR_err, noX_ok, fin_nx, fin_d, fin_exc, fin_scr, eq_str, ne_str, eq_int, ne_int, List.map_cons, List.map_nil, List.cons_append, List.nil_append, List.getElem?_cons_zero, List.getElem?_cons_succ, List.length_cons, List.length_nil, Nat.reduceAdd, Nat.reduceSub, List.replicate_zero, List.replicate_succ, List.set_cons_zero, List.set_cons_succ, List.take_length, Option.bind_some, Bool.not_true, Bool.not_false, if_true, if_false, Bool.false_eq_true, ite_true, ite_false, ite_self, decide_true, decide_false, Nat.zero_le, reduceCtorEq, andE_eq, andK_bl, orE_eq, orK_bl, asB_eq, asK_bl, Option.map_some, sz1, sz2, sz3, sz4, cst1, cst2, cst3]
      have ap : appendE (varE 6) (tupE (consA (varE 7) (consA (varE 8) (consA (callE (F__law_parts 12) (consA (varE 0) (consA (varE 5) (consA (op2 addV (varE 1) (lstE (consA (cE (.str ("w" : Str))) nilA))) (consA (varE 8) (consA (varE 4) (consA (newE (consA (varE 3) nilA)) nilA))))))) nilA)))) (envT names modes (2 + t.length) (some (.d (.str m))) (some (.d (.str l)))) (stD c1 m1 (t ++ cellR acc :: rooms)) = .ok (.d .non) (stD c2 m2 (t ++ cellR (acc ++ [(m.cps.toList, l.cps.toList, ps)]) :: (rooms ++ [some (.lst [.d (.int k2)])]))) := by
        have wq : ∀ (cs : List Int) (mix : Int) (rooms : Store), (stD cs mix (t ++ cellR acc :: rooms))[2 + t.length]? = some (some (.lst (acc.map fun r => Val.d (rD r)))) := fun cs mix rooms => w_q
        refine Eq.trans (append_ok (fo := varE 6) (n := 2 + t.length) (xs := acc.map fun r => Val.d (rD r)) (ys := acc.map fun r => Val.d (rD r)) rfl (wq _ _ _) tup (wq _ _ _) (by rw [List.length_map]; exact Nat.lt_of_lt_of_le (show acc.length < 100000 by omega) (small_size (Nat.le_refl _)))) ?_
        rw [w_set]
        unfold cellR
        simp only [List.map_append, List.map_cons, List.map_nil]
      have q : decide ((0 : Int) < v) = true := decide_eq_true cv
      unfold envT at ap e3 ⊢
      simp only [List.map_cons, forL, innerB, e1, gt_int, q, ap, loopR_nx, forget, funD, funX, funK, env0, retS, retN, exprS, setS, seqS, ifS, asgS, parS, nxS, raiseS, varE, cE, op2, andT, orT, notT, notE, ifE, nilA, consA, tupE, lstE, asDs_nil, asDs_cons, asDs_map, callE, callX, bltE, one, truE, sliceE, noO, someO, nameG, tupG, consG, nilG, okIf, negE, bindR_ok, bindR_exc, bindR_err, bindS_ok, bindS_exc, bindS_err, seqR_nx, seqR_ret, seqR_exc, seqR_brk, seqR_cnt, seqR_err, noX_ok, fin_nx, fin_d, fin_exc, fin_scr, eq_str, ne_str, eq_int, ne_int, List.map_cons, List.map_nil, List.cons_append, List.nil_append, List.getElem?_cons_zero, List.getElem?_cons_succ, List.length_cons, List.length_nil, Nat.reduceAdd, Nat.reduceSub, List.replicate_zero, List.replicate_succ, List.set_cons_zero, List.set_cons_succ, List.take_length, Option.bind_some, Bool.not_true, Bool.not_false, if_true, if_false, Bool.false_eq_true, ite_true, ite_false, ite_self, decide_true, decide_false, Nat.zero_le, reduceCtorEq, andE_eq, andK_bl, orE_eq, orK_bl, asB_eq, asK_bl, Option.map_some, sz1, sz2, sz3, sz4, cst1, cst2, cst3]
      unfold innerB at e3
      exact e3
    · obtain ⟨acc', c3, m3, rooms', e3, l3, a3, s3, g3⟩ := inner_ok hm hn hm0 hml hnl t m hmm ls c1 m1 acc rooms (P ++ [(m, l)]) hls l1 (by omega) (hP.trans (List.sublist_append_left _ _)) hR
      refine ⟨acc', c3, m3, rooms', ?_, l3, by rw [List.length_cons]; omega, by rw [esp]; exact s3, g3⟩
      have q : decide ((0 : Int) < v) = false := decide_eq_false cv
      unfold envT at e3 ⊢
      simp only [List.map_cons, forL, innerB, e1, gt_int, q, loopR_nx, forget, funD, funX, funK, env0, retS, retN, exprS, setS, seqS, ifS, asgS, parS, nxS, raiseS, varE, cE, op2, andT, orT, notT, notE, ifE, nilA, consA, tupE, lstE, asDs_nil, asDs_cons, asDs_map, callE, callX, bltE, one, truE, sliceE, noO, someO, nameG, tupG, consG, nilG, okIf, negE, bindR_ok, bindR_exc, bindR_err, bindS_ok, bindS_exc, bindS_err, seqR_nx, seqR_ret, seqR_exc, seqR_brk, seqR_cnt, seqR_err, noX_ok, fin_nx, fin_d, fin_exc, fin_scr, eq_str, ne_str, eq_int, ne_int, List.map_cons, List.map_nil, List.cons_append, List.nil_append, List.getElem?_cons_zero, List.getElem?_cons_succ, List.length_cons, List.length_nil, Nat.reduceAdd, Nat.reduceSub, List.replicate_zero, List.replicate_succ, List.set_cons_zero, List.set_cons_succ, List.take_length, Option.bind_some, Bool.not_true, Bool.not_false, if_true, if_false, Bool.false_eq_true, ite_true, ite_false, ite_self, decide_true, decide_false, Nat.zero_le, reduceCtorEq, andE_eq, andK_bl, orE_eq, orK_bl, asB_eq, asK_bl, Option.map_some, sz1, sz2, sz3, sz4, cst1, cst2, cst3]
      unfold innerB at e3
      exact e3
end
end K50
end

section
set_option Elab.async false
set_option linter.all false
set_option autoImplicit false
set_option maxRecDepth 100000
set_option maxHeartbeats 4000000
/-! KP12: _law_turning, whole. -/
namespace K50
open PySem DL
def prod (ms ls : List Str) : List (Str × Str) := ms.flatMap fun m => ls.map fun l => (m, l)
def outerB : SS := (forS (seqI (op2 addV (lstE (consA (cE (.str ("" : Str))) nilA)) (varE 1))) (nameG 8) innerB [8])
section
variable {modes names : List Str}
theorem outer_ok (hm : ∀ s ∈ modes, s ∈ MDS) (hn : ∀ s ∈ names ++ [("w" : Str)], s ∈ NMS) (hL : ∀ s ∈ ("" : Str) :: names, s ∈ LTS) (hm0 : modes ≠ []) (hml : modes.length ≤ 1000) (hnl : names.length ≤ 900) (t : Store) :
    ∀ (ms : List Str) (cs : List Int) (mix : Int) (acc : List Rl) (rooms : Store) (P : List (Str × Str)), (∀ m ∈ ms, m ∈ MDS) → cs.length ≤ 63 → acc.length + ms.length * (names.length + 1) ≤ 1000 → (acc.map hd).Sublist P → (∀ r ∈ acc, RuleOK r) →
    ∃ acc' cs' mix' rooms', forL (nameG 7) outerB [7, 8] (ms.map fun m => Val.d (.str m)) (envT names modes (2 + t.length) none none) (stD cs mix (t ++ cellR acc :: rooms)) = .nx (envT names modes (2 + t.length) none none) (stD cs' mix' (t ++ cellR acc' :: rooms')) ∧ cs'.length ≤ 63 ∧ acc'.length ≤ acc.length + ms.length * (names.length + 1) ∧ (acc'.map hd).Sublist (P ++ prod ms (("" : Str) :: names)) ∧ ∀ r ∈ acc', RuleOK r
  | [], cs, mix, acc, rooms, P, _, hc, _, hP, hR => ⟨acc, cs, mix, rooms, rfl, hc, by simp, by simpa [prod] using hP, hR⟩
  | m :: ms, cs, mix, acc, rooms, P, hms, hc, hlen, hP, hR => by
    rw [List.length_cons, Nat.add_mul, Nat.one_mul] at hlen
    obtain ⟨a1, c1, m1, r1, e1, l1, n1, s1, g1⟩ := inner_ok hm hn hm0 hml hnl t m (hms m List.mem_cons_self) (("" : Str) :: names) cs mix acc rooms P hL hc (by rw [List.length_cons]; omega) hP hR
    rw [List.length_cons] at n1
    obtain ⟨a2, c2, m2, r2, e2, l2, n2, s2, g2⟩ := outer_ok hm hn hL hm0 hml hnl t ms c1 m1 a1 r1 _ (fun x hx => hms x (List.mem_cons_of_mem _ hx)) l1 (by omega) s1 g1
    refine ⟨a2, c2, m2, r2, ?_, l2, by rw [List.length_cons, Nat.add_mul, Nat.one_mul]; omega, ?_, g2⟩
    · have ad : ∀ st : Store, addV (.d (.lst [.str ("" : Str)])) (.d (.lst (names.map D.str))) st = .ok (.d (.lst (.str ("" : Str) :: names.map D.str))) st := fun st => add_lst (xs := [.str ("" : Str)]) (by rw [List.length_map]; simp; exact small_size (by omega))
      have im : itemsOf (.d (.lst (.str ("" : Str) :: names.map D.str))) = some ((("" : Str) :: names).map fun l => Val.d (.str l)) := by
        simp only [itemsOf, List.map_cons, List.map_map]
        rfl
      unfold envT at e1 e2 ⊢
      simp only [List.map_cons, forL, funD, funX, funK, env0, retS, retN, exprS, setS, seqS, ifS, asgS, parS, nxS, raiseS, varE, cE, op2, andT, orT, notT, notE, ifE, nilA, consA, tupE, lstE, asDs_nil, asDs_cons, asDs_map, callE, callX, bltE, one, truE, sliceE, noO, someO, nameG, tupG, consG, nilG, okIf, negE, bindR_ok, bindR_exc, bindR_err, bindS_ok, bindS_exc, bindS_err, seqR_nx, seqR_ret, seqR_exc, seqR_brk, seqR_cnt, seqR_err, noX_ok, fin_nx, fin_d, fin_exc, fin_scr, eq_str, ne_str, eq_int, ne_int, List.map_cons, List.map_nil, List.cons_append, List.nil_append, List.getElem?_cons_zero, List.getElem?_cons_succ, List.length_cons, List.length_nil, Nat.reduceAdd, Nat.reduceSub, List.replicate_zero, List.replicate_succ, List.set_cons_zero, List.set_cons_succ, List.take_length, Option.bind_some, Bool.not_true, Bool.not_false, if_true, if_false, Bool.false_eq_true, ite_true, ite_false, ite_self, decide_true, decide_false, Nat.zero_le, reduceCtorEq, andE_eq, andK_bl, orE_eq, orK_bl, asB_eq, asK_bl, Option.map_some, sz1, sz2, sz3, sz4, cst1, cst2, cst3]
      unfold outerB
      rw [forS_eq]
      simp only [seqI, ad, im, funD, funX, funK, env0, retS, retN, exprS, setS, seqS, ifS, asgS, parS, nxS, raiseS, varE, cE, op2, andT, orT, notT, notE, ifE, nilA, consA, tupE, lstE, asDs_nil, asDs_cons, asDs_map, callE, callX, bltE, one, truE, sliceE, noO, someO, nameG, tupG, consG, nilG, okIf, negE, bindR_ok, bindR_exc, bindR_err, bindS_ok, bindS_exc, bindS_err, seqR_nx, seqR_ret, seqR_exc, seqR_brk, seqR_cnt, seqR_err, noX_ok, fin_nx, fin_d, fin_exc, fin_scr, eq_str, ne_str, eq_int, ne_int, List.map_cons, List.map_nil, List.cons_append, List.nil_append, List.getElem?_cons_zero, List.getElem?_cons_succ, List.length_cons, List.length_nil, Nat.reduceAdd, Nat.reduceSub, List.replicate_zero, List.replicate_succ, List.set_cons_zero, List.set_cons_succ, List.take_length, Option.bind_some, Bool.not_true, Bool.not_false, if_true, if_false, Bool.false_eq_true, ite_true, ite_false, ite_self, decide_true, decide_false, Nat.zero_le, reduceCtorEq, andE_eq, andK_bl, orE_eq, orK_bl, asB_eq, asK_bl, Option.map_some, sz1, sz2, sz3, sz4, cst1, cst2, cst3]
      simp only [List.map_cons] at e1
      rw [e1]
      simp only [loopR_nx, forget, funD, funX, funK, env0, retS, retN, exprS, setS, seqS, ifS, asgS, parS, nxS, raiseS, varE, cE, op2, andT, orT, notT, notE, ifE, nilA, consA, tupE, lstE, asDs_nil, asDs_cons, asDs_map, callE, callX, bltE, one, truE, sliceE, noO, someO, nameG, tupG, consG, nilG, okIf, negE, bindR_ok, bindR_exc, bindR_err, bindS_ok, bindS_exc, bindS_err, seqR_nx, seqR_ret, seqR_exc, seqR_brk, seqR_cnt, seqR_err, noX_ok, fin_nx, fin_d, fin_exc, fin_scr, eq_str, ne_str, eq_int, ne_int, List.map_cons, List.map_nil, List.cons_append, List.nil_append, List.getElem?_cons_zero, List.getElem?_cons_succ, List.length_cons, List.length_nil, Nat.reduceAdd, Nat.reduceSub, List.replicate_zero, List.replicate_succ, List.set_cons_zero, List.set_cons_succ, List.take_length, Option.bind_some, Bool.not_true, Bool.not_false, if_true, if_false, Bool.false_eq_true, ite_true, ite_false, ite_self, decide_true, decide_false, Nat.zero_le, reduceCtorEq, andE_eq, andK_bl, orE_eq, orK_bl, asB_eq, asK_bl, Option.map_some, sz1, sz2, sz3, sz4, cst1, cst2, cst3]
      unfold outerB at e2
      exact e2
    · have : prod (m :: ms) (("" : Str) :: names) = ((("" : Str) :: names).map fun l => (m, l)) ++ prod ms (("" : Str) :: names) := by simp [prod]
      rw [this, ← List.append_assoc]
      exact s2
end
def ML3 : List (List Str) := [["a", "b", "c"], ["k", "ka", "kb"], ["m", "n", "nn"]]
theorem cut_to {xs : List D} {j : Nat} (h : j ≤ xs.length) {st : Store} : slV (.d (.lst xs)) none (some (j : Int)) st = .ok (.d (.lst (xs.take j))) st := by
  have : cutD xs none (some (j : Int)) = xs.take j := by
    unfold cutD
    rw [HT.sIx_none, HT.sIx_nat, List.drop_zero, Nat.min_eq_left h, Nat.sub_zero]
  simp only [slV, listOrScr, DL.listOf, this]
theorem modes_ok : ∀ f ∈ ML3, ∀ j, 1 ≤ j → j ≤ 3 → (∀ s ∈ f.take j, s ∈ MDS) ∧ f.take j ≠ [] ∧ (f.take j).length = j := by
  intro f hf j h1 h2
  simp only [ML3, List.mem_cons, List.mem_nil_iff, or_false] at hf
  have hj : j = 1 ∨ j = 2 ∨ j = 3 := by omega
  rcases hf with rfl | rfl | rfl <;> rcases hj with rfl | rfl | rfl <;> simp [MDS]
theorem turning_ok (cs : List Int) (mix : Int) (t : Store) (names : List Str) (hnm : names ∈ NAMEL) (hc : cs.length ≤ 63) : ∃ (f : List Str) (j : Nat) (rs : List Rl) (mode : Str) (cs' : List Int) (mix' : Int), f ∈ ML3 ∧ 1 ≤ j ∧ j ≤ 3 ∧ mode ∈ f.take j ∧ F__law_turning [.ref 1, .d (.lst (names.map D.str)), .d (.int 3), .d (.int 3), .d (.int 2)] (stD cs mix t) = .ok (.d (.tup [.tup (rs.map rD), .str mode])) (stD cs' mix' t) ∧ cs'.length ≤ 63 ∧ (rs.map hd).Sublist (prod (f.take j) (("" : Str) :: names)) ∧ (∀ r ∈ rs, RuleOK r) ∧ rs.length ≤ 12 := by
  have hn3 : names.length ≤ 3 ∧ (∀ s ∈ names ++ [("w" : Str)], s ∈ NMS) ∧ (∀ s ∈ ("" : Str) :: names, s ∈ LTS) := by
    simp only [NAMEL, List.mem_cons, List.mem_nil_iff, or_false] at hnm
    rcases hnm with rfl | rfl | rfl | rfl <;> simp [NMS, LTS]
  obtain ⟨x, c1, m1, hx, e1, l1⟩ := of_ok cs mix t [.lst [.str ("a" : Str), .str ("b" : Str), .str ("c" : Str)], .lst [.str ("k" : Str), .str ("ka" : Str), .str ("kb" : Str)], .lst [.str ("m" : Str), .str ("n" : Str), .str ("nn" : Str)]] hc (by simp) (by simp)
  obtain ⟨f, hf, rfl⟩ : ∃ f, f ∈ ML3 ∧ x = .lst (f.map D.str) := by
    simp only [List.mem_cons, List.mem_nil_iff, or_false] at hx
    rcases hx with rfl | rfl | rfl
    · exact ⟨["a", "b", "c"], by simp [ML3], rfl⟩
    · exact ⟨["k", "ka", "kb"], by simp [ML3], rfl⟩
    · exact ⟨["m", "n", "nn"], by simp [ML3], rfl⟩
  obtain ⟨v, c2, m2, e2, v0, v3, l2⟩ := any_ok c1 m1 t 3 l1 (by omega) (by omega)
  obtain ⟨j0, rfl⟩ : ∃ n : Nat, v = n := ⟨v.toNat, by omega⟩
  have hj : (1 : Int) + (j0 : Int) = ((1 + j0 : Nat) : Int) := by omega
  have flen : f.length = 3 := by
    simp only [ML3, List.mem_cons, List.mem_nil_iff, or_false] at hf
    rcases hf with rfl | rfl | rfl <;> rfl
  obtain ⟨q1, q2, q3⟩ := modes_ok f hf (1 + j0) (by omega) (by omega)
  have cutE_ : ∀ st : Store, slV (.d (.lst (f.map D.str))) none (some ((1 + j0 : Nat) : Int)) st = .ok (.d (.lst ((f.take (1 + j0)).map D.str))) st := fun st => by
    rw [cut_to (by rw [List.length_map]; omega), List.map_take]
  have e0 : stD c2 m2 t ++ [some (.lst [])] = stD c2 m2 (t ++ cellR [] :: []) := by simp [stD, cellR]
  have el : (stD c2 m2 t).length = 2 + t.length := by simp [stD]; omega
  obtain ⟨rs, c3, m3, rooms, e3, l3, n3, s3, g3⟩ := outer_ok (modes := f.take (1 + j0)) (names := names) q1 hn3.2.1 hn3.2.2 q2 (by omega) (by omega) t (f.take (1 + j0)) c2 m2 [] [] [] q1 l2 (by
    rw [q3]
    have : (1 + j0) * (names.length + 1) ≤ 3 * 4 := Nat.mul_le_mul (by omega) (by omega)
    simp
    omega) (List.Sublist.refl _) (fun r hr => by cases hr)
  obtain ⟨y, c4, m4, hy, e4, l4⟩ := of_ok c3 m3 (t ++ cellR rs :: rooms) ((f.take (1 + j0)).map D.str) l3 (by simpa using q2) (by rw [List.length_map]; omega)
  obtain ⟨mode, hmode, rfl⟩ := List.mem_map.mp hy
  have hlen12 : rs.length ≤ 12 := by
    rw [q3] at n3
    have : (1 + j0) * (names.length + 1) ≤ 3 * 4 := Nat.mul_le_mul (by omega) (by omega)
    simp at n3
    omega
  refine ⟨f, 1 + j0, rs, mode, c4, m4, hf, by omega, by omega, hmode, ?_, l4, by simpa using s3, g3, hlen12⟩
  have im : itemsOf (.d (.lst ((f.take (1 + j0)).map D.str))) = some ((f.take (1 + j0)).map fun m => Val.d (.str m)) := by
    simp only [itemsOf, List.map_map]
    rfl
  have tp : tupleV (.ref (2 + t.length)) (stD c3 m3 (t ++ cellR rs :: rooms)) = .ok (.d (.tup (rs.map rD))) (stD c3 m3 (t ++ cellR rs :: rooms)) := tuple_ref (by rw [w_q, cellR, List.map_map]; rfl)
  have tk : (stD c4 m4 (t ++ cellR rs :: rooms)).take (stD cs mix t).length = stD c4 m4 t := by
    have : stD c4 m4 (t ++ cellR rs :: rooms) = stD c4 m4 t ++ (cellR rs :: rooms) := by simp [stD]
    have el2 : (stD cs mix t).length = (stD c4 m4 t).length := by simp [stD]
    rw [this, el2, List.take_left]
  unfold F__law_turning g__law_turning
  simp only [N__law_turning, e1, e2, add_int, hj, cutE_, new_nil, e0, el, funD, funX, funK, env0, retS, retN, exprS, setS, seqS, ifS, asgS, parS, nxS, raiseS, varE, cE, op2, andT, orT, notT, notE, ifE, nilA, consA, tupE, lstE, asDs_nil, asDs_cons, asDs_map, callE, callX, bltE, one, truE, sliceE, noO, someO, nameG, tupG, consG, nilG, okIf, negE, bindR_ok, bindR_exc, bindR_err, bindS_ok, bindS_exc, bindS_err, seqR_nx, seqR_ret, seqR_exc, seqR_brk, seqR_cnt, seqR_err, noX_ok, fin_nx, fin_d, fin_exc, fin_scr, eq_str, ne_str, eq_int, ne_int, List.map_cons, List.map_nil, List.cons_append, List.nil_append, List.getElem?_cons_zero, List.getElem?_cons_succ, List.length_cons, List.length_nil, Nat.reduceAdd, Nat.reduceSub, List.replicate_zero, List.replicate_succ, List.set_cons_zero, List.set_cons_succ, List.take_length, Option.bind_some, Bool.not_true, Bool.not_false, if_true, if_false, Bool.false_eq_true, ite_true, ite_false, ite_self, decide_true, decide_false, Nat.zero_le, reduceCtorEq, andE_eq, andK_bl, orE_eq, orK_bl, asB_eq, asK_bl, Option.map_some, sz1, sz2, sz3, sz4, cst1, cst2, cst3]
  rw [forS_eq]
  simp only [seqI, im, funD, funX, funK, env0, retS, retN, exprS, setS, seqS, ifS, asgS, parS, nxS, raiseS, varE, cE, op2, andT, orT, notT, notE, ifE, nilA, consA, tupE, lstE, asDs_nil, asDs_cons, asDs_map, callE, callX, bltE, one, truE, sliceE, noO, someO, nameG, tupG, consG, nilG, okIf, negE, bindR_ok, bindR_exc, bindR_err, bindS_ok, bindS_exc, bindS_err, seqR_nx, seqR_ret, seqR_exc, seqR_brk, seqR_cnt, seqR_err, noX_ok, fin_nx, fin_d, fin_exc, fin_scr, eq_str, ne_str, eq_int, ne_int, List.map_cons, List.map_nil, List.cons_append, List.nil_append, List.getElem?_cons_zero, List.getElem?_cons_succ, List.length_cons, List.length_nil, Nat.reduceAdd, Nat.reduceSub, List.replicate_zero, List.replicate_succ, List.set_cons_zero, List.set_cons_succ, List.take_length, Option.bind_some, Bool.not_true, Bool.not_false, if_true, if_false, Bool.false_eq_true, ite_true, ite_false, ite_self, decide_true, decide_false, Nat.zero_le, reduceCtorEq, andE_eq, andK_bl, orE_eq, orK_bl, asB_eq, asK_bl, Option.map_some, sz1, sz2, sz3, sz4, cst1, cst2, cst3]
  unfold envT outerB innerB at e3
  rw [e3]
  simp only [tp, e4, tk, funD, funX, funK, env0, retS, retN, exprS, setS, seqS, ifS, asgS, parS, nxS, raiseS, varE, cE, op2, andT, orT, notT, notE, ifE, nilA, consA, tupE, lstE, asDs_nil, asDs_cons, asDs_map, callE, callX, bltE, one, truE, sliceE, noO, someO, nameG, tupG, consG, nilG, okIf, negE, bindR_ok, bindR_exc, bindR_err, bindS_ok, bindS_exc, bindS_err, seqR_nx, seqR_ret, seqR_exc, seqR_brk, seqR_cnt, seqR_err, noX_ok, fin_nx, fin_d, fin_exc, fin_scr, eq_str, ne_str, eq_int, ne_int, List.map_cons, List.map_nil, List.cons_append, List.nil_append, List.getElem?_cons_zero, List.getElem?_cons_succ, List.length_cons, List.length_nil, Nat.reduceAdd, Nat.reduceSub, List.replicate_zero, List.replicate_succ, List.set_cons_zero, List.set_cons_succ, List.take_length, Option.bind_some, Bool.not_true, Bool.not_false, if_true, if_false, Bool.false_eq_true, ite_true, ite_false, ite_self, decide_true, decide_false, Nat.zero_le, reduceCtorEq, andE_eq, andK_bl, orE_eq, orK_bl, asB_eq, asK_bl, Option.map_some, sz1, sz2, sz3, sz4, cst1, cst2, cst3]
end K50
end

section
set_option Elab.async false
set_option linter.all false
set_option autoImplicit false
set_option maxRecDepth 100000
set_option maxHeartbeats 4000000
/-! KP13: part_text, _law_words. -/
namespace DL
open PySem
theorem lc_mapP {α : Type} {g : SG} {f : SE} {ρ0 : Env} {st : Store} (e : α → Val) (h : α → D) : ∀ (xs : List α) (acc : List D), (∀ x ∈ xs, ∃ ρ1, g (e x) ρ0 = some ρ1 ∧ f ρ1 st = .ok (.d (h x)) st) → acc.length + xs.length ≤ sizeLine → lcL g yesT f ρ0 (xs.map e) acc st = .ok (acc ++ xs.map h) st
  | [], acc, _, _ => by simp [lcL]
  | x :: xs, acc, hx, hl => by
    obtain ⟨ρ1, e1, e2⟩ := hx x List.mem_cons_self
    have hl' : acc.length < sizeLine := by rw [List.length_cons] at hl; omega
    simp only [List.map_cons, lcL, e1, yesT, noX_ok, bindR_ok, if_true, e2, if_pos hl']
    rw [lc_mapP e h xs (acc ++ [h x]) (fun y hy => hx y (List.mem_cons_of_mem _ hy)) (by rw [List.length_append, List.length_singleton]; rw [List.length_cons] at hl; omega)]
    simp
theorem texts_map (ys : List Str) : textsOf (ys.map D.str) = some ys := by
  induction ys with
  | nil => rfl
  | cons y ys ih => simp only [List.map_cons, textsOf, ih, Option.map_some]
theorem join_lst {a : Str} {ys : List Str} {st : Store} (h : (ys.map (·.length)).sum + ys.length * a.length ≤ 16777216) : joinV a (.d (.lst (ys.map D.str))) st = .ok (.d (.str (Txt.join a ys))) st := by
  have e : seqOf st (.d (.lst (ys.map D.str))) = some (ys.map D.str) := rfl
  unfold joinV
  simp only [e, texts_map]
  exact if_pos h
theorem join_ref {a : Str} {ys : List Str} {st : Store} {n : Nat} (hs : st[n]? = some (some (.lst ((ys.map D.str).map Val.d)))) (h : (ys.map (·.length)).sum + ys.length * a.length ≤ 16777216) : joinV a (.ref n) st = .ok (.d (.str (Txt.join a ys))) st := by
  have e : seqOf st (.ref n) = some (ys.map D.str) := by
    unfold seqOf
    simp only [hs, asDs_map]
  unfold joinV
  simp only [e, texts_map]
  exact if_pos h
end DL
namespace K50
open PySem DL
theorem ok_mono : ∀ (n : Nat) (l : T), (∀ p, okP n l p = true → okP (n + 1) l p = true) ∧ (∀ ps, okPs n l ps = true → okPs (n + 1) l ps = true)
  | 0, l => ⟨fun p h => by simp [okP] at h, fun ps h => by simp [okPs] at h⟩
  | n + 1, l => by
    obtain ⟨i1, i2⟩ := ok_mono n l
    refine ⟨fun p h => ?_, fun ps h => ?_⟩
    · cases p with
      | keep => simpa [okP] using h
      | say w => simpa [okP] using h
      | go w => simpa [okP] using h
      | node w ps =>
        have h' : nameB w = true ∧ okPs n l ps = true := by simpa [okP] using h
        show okP (n + 1 + 1) l (.node w ps) = true
        simp only [okP, h'.1, i2 ps h'.2, Bool.and_self]
    · have h' : ps.length ≤ 30 ∧ ∀ p ∈ ps, okP n l p = true := by simpa [okPs] using h
      show okPs (n + 1 + 1) l ps = true
      simp only [okPs, decide_eq_true h'.1, Bool.true_and, List.all_eq_true]
      exact fun p hp => i1 p (h'.2 p hp)
theorem ok_le {n m : Nat} (h : n ≤ m) {l : T} {ps : List Part} (hp : okPs n l ps = true) : okPs m l ps = true := by
  induction h with
  | refl => exact hp
  | step h ih => exact (ok_mono _ l).2 ps ih
theorem joinL_txts : ∀ ps : List Part, TL.joinL [32] (ps.map txt) = txts ps
  | [] => rfl
  | [p] => by simp [TL.joinL, txts, tailT]
  | p :: q :: r => by
    have ih := joinL_txts (q :: r)
    simp only [List.map_cons] at ih ⊢
    show txt p ++ ([32] ++ TL.joinL [32] (txt q :: r.map txt)) = _
    rw [ih]
    simp [txts, tailT]
theorem join_txts (ps : List Part) : Txt.join (S [32]) (ps.map fun p => S (txt p)) = S (txts ps) := by
  rw [TL.join_eq]
  apply TL.ext_tl
  rw [TL.tl_join]
  show TL.joinL (S [32]).cps.toList (((ps.map fun p => S (txt p))).map TL.tl) = (S (txts ps)).cps.toList
  rw [S_cps, S_cps, List.map_map, ← joinL_txts]
  congr 1
theorem len_mem : ∀ (ps : List Part) (p : Part), p ∈ ps → (txt p).length ≤ (tailT ps).length
  | q :: ps, p, h => by
    rcases List.mem_cons.mp h with rfl | h
    · simp [tailT]; omega
    · have := len_mem ps p h
      simp [tailT]
      omega
theorem len_mem' (ps : List Part) (p : Part) (h : p ∈ ps) : (txt p).length ≤ (txts ps).length := by
  cases ps with
  | nil => cases h
  | cons q ps =>
    rcases List.mem_cons.mp h with rfl | h
    · simp [txts]
    · have := len_mem ps p h
      simp [txts]
      omega
theorem sum_txts : ∀ ps : List Part, ((ps.map fun p => S (txt p)).map (·.length)).sum ≤ (tailT ps).length
  | [] => by simp
  | p :: ps => by
    have := sum_txts ps
    simp only [List.map_cons, List.sum_cons, S_len, tailT, List.length_cons, List.length_append] at this ⊢
    omega
theorem tail_txts (ps : List Part) : (tailT ps).length ≤ (txts ps).length + 1 := by
  cases ps with
  | nil => simp [tailT]
  | cons p ps => simp [tailT, txts]
theorem join_small {ps : List Part} (h1 : (txts ps).length ≤ 1000) (h2 : ps.length ≤ 30) : ((ps.map fun p => S (txt p)).map (·.length)).sum + (ps.map fun p => S (txt p)).length * (S [32]).length ≤ 16777216 := by
  have a := sum_txts ps
  have b := tail_txts ps
  rw [List.length_map, S_len]
  simp only [List.length_cons, List.length_nil]
  omega
theorem q_nodes : (("say" : Str) = ("node" : Str)) = False ∧ (("go" : Str) = ("node" : Str)) = False ∧ (("keep" : Str) = ("node" : Str)) = False ∧ (("say" : Str) = ("keep" : Str)) = False ∧ (("go" : Str) = ("keep" : Str)) = False ∧ (("say" : Str) = ("go" : Str)) = False :=
  ⟨eq_false (by decide +kernel), eq_false (by decide +kernel), eq_false (by decide +kernel), eq_false (by decide +kernel), eq_false (by decide +kernel), eq_false (by decide +kernel)⟩
theorem addS {a b : T} {st : Store} (h : a.length + b.length ≤ 100000) : addV (.d (.str (S a))) (.d (.str (S b))) st = .ok (.d (.str (S (a ++ b)))) st := by
  rw [add_str (by rw [S_len, S_len]; exact small_size h), S_app]
theorem f_part_text : ∀ (n : Nat) (l : T) (p : Part) (st : Store), okP n l p = true → (txt p).length ≤ 1000 → F_part_text n [.d (toD p)] st = .ok (.d (.str (S (txt p)))) st
  | 0, l, p, st, h, _ => by simp [okP] at h
  | n + 1, l, p, st, h, hl => by
    obtain ⟨q1, q2, q3, q4, q5, q6⟩ := q_nodes
    show funD N_part_text.length (g_part_text (F_part_text n)) _ st = _
    cases p with
    | keep =>
      simp only [toD, g_part_text, N_part_text, ix0, q3, c_star, txt, funD, funX, funK, env0, retS, retN, exprS, setS, seqS, ifS, asgS, parS, nxS, raiseS, varE, cE, op2, andT, orT, notT, notE, ifE, nilA, consA, tupE, lstE, asDs_nil, asDs_cons, asDs_map, callE, callX, bltE, one, truE, sliceE, noO, someO, nameG, tupG, consG, nilG, okIf, negE, bindR_ok, bindR_exc, bindR_err, bindS_ok, bindS_exc, bindS_err, seqR_nx, seqR_ret, seqR_exc, seqR_brk, seqR_cnt, seqR_err, noX_ok, fin_nx, fin_d, fin_exc, fin_scr, eq_str, ne_str, eq_int, ne_int, List.map_cons, List.map_nil, List.cons_append, List.nil_append, List.getElem?_cons_zero, List.getElem?_cons_succ, List.length_cons, List.length_nil, Nat.reduceAdd, Nat.reduceSub, List.replicate_zero, List.replicate_succ, List.set_cons_zero, List.set_cons_succ, List.take_length, Option.bind_some, Bool.not_true, Bool.not_false, if_true, if_false, Bool.false_eq_true, ite_true, ite_false, ite_self, decide_true, decide_false, Nat.zero_le, reduceCtorEq, andE_eq, andK_bl, orE_eq, orK_bl, asB_eq, asK_bl, Option.map_some, sz1, sz2, sz3, sz4, cst1, cst2, cst3]
    | say w =>
      simp only [txt, List.length_cons, List.length_append, List.length_nil] at hl
      simp only [toD, g_part_text, N_part_text, ix0, ix1, q1, q4, q6, c_quote, txt, addS (a := [34]) (b := w) (by simp; omega), funD, funX, funK, env0, retS, retN, exprS, setS, seqS, ifS, asgS, parS, nxS, raiseS, varE, cE, op2, andT, orT, notT, notE, ifE, nilA, consA, tupE, lstE, asDs_nil, asDs_cons, asDs_map, callE, callX, bltE, one, truE, sliceE, noO, someO, nameG, tupG, consG, nilG, okIf, negE, bindR_ok, bindR_exc, bindR_err, bindS_ok, bindS_exc, bindS_err, seqR_nx, seqR_ret, seqR_exc, seqR_brk, seqR_cnt, seqR_err, noX_ok, fin_nx, fin_d, fin_exc, fin_scr, eq_str, ne_str, eq_int, ne_int, List.map_cons, List.map_nil, List.cons_append, List.nil_append, List.getElem?_cons_zero, List.getElem?_cons_succ, List.length_cons, List.length_nil, Nat.reduceAdd, Nat.reduceSub, List.replicate_zero, List.replicate_succ, List.set_cons_zero, List.set_cons_succ, List.take_length, Option.bind_some, Bool.not_true, Bool.not_false, if_true, if_false, Bool.false_eq_true, ite_true, ite_false, ite_self, decide_true, decide_false, Nat.zero_le, reduceCtorEq, andE_eq, andK_bl, orE_eq, orK_bl, asB_eq, asK_bl, Option.map_some, sz1, sz2, sz3, sz4, cst1, cst2, cst3]
      rw [addS (by simp; omega)]
      simp only [funD, funX, funK, env0, retS, retN, exprS, setS, seqS, ifS, asgS, parS, nxS, raiseS, varE, cE, op2, andT, orT, notT, notE, ifE, nilA, consA, tupE, lstE, asDs_nil, asDs_cons, asDs_map, callE, callX, bltE, one, truE, sliceE, noO, someO, nameG, tupG, consG, nilG, okIf, negE, bindR_ok, bindR_exc, bindR_err, bindS_ok, bindS_exc, bindS_err, seqR_nx, seqR_ret, seqR_exc, seqR_brk, seqR_cnt, seqR_err, noX_ok, fin_nx, fin_d, fin_exc, fin_scr, eq_str, ne_str, eq_int, ne_int, List.map_cons, List.map_nil, List.cons_append, List.nil_append, List.getElem?_cons_zero, List.getElem?_cons_succ, List.length_cons, List.length_nil, Nat.reduceAdd, Nat.reduceSub, List.replicate_zero, List.replicate_succ, List.set_cons_zero, List.set_cons_succ, List.take_length, Option.bind_some, Bool.not_true, Bool.not_false, if_true, if_false, Bool.false_eq_true, ite_true, ite_false, ite_self, decide_true, decide_false, Nat.zero_le, reduceCtorEq, andE_eq, andK_bl, orE_eq, orK_bl, asB_eq, asK_bl, Option.map_some, sz1, sz2, sz3, sz4, cst1, cst2, cst3]
    | go w =>
      simp only [txt, List.length_cons] at hl
      simp only [toD, g_part_text, N_part_text, ix0, ix1, q2, q5, c_bang, txt, addS (a := [33]) (b := w) (by simp; omega), funD, funX, funK, env0, retS, retN, exprS, setS, seqS, ifS, asgS, parS, nxS, raiseS, varE, cE, op2, andT, orT, notT, notE, ifE, nilA, consA, tupE, lstE, asDs_nil, asDs_cons, asDs_map, callE, callX, bltE, one, truE, sliceE, noO, someO, nameG, tupG, consG, nilG, okIf, negE, bindR_ok, bindR_exc, bindR_err, bindS_ok, bindS_exc, bindS_err, seqR_nx, seqR_ret, seqR_exc, seqR_brk, seqR_cnt, seqR_err, noX_ok, fin_nx, fin_d, fin_exc, fin_scr, eq_str, ne_str, eq_int, ne_int, List.map_cons, List.map_nil, List.cons_append, List.nil_append, List.getElem?_cons_zero, List.getElem?_cons_succ, List.length_cons, List.length_nil, Nat.reduceAdd, Nat.reduceSub, List.replicate_zero, List.replicate_succ, List.set_cons_zero, List.set_cons_succ, List.take_length, Option.bind_some, Bool.not_true, Bool.not_false, if_true, if_false, Bool.false_eq_true, ite_true, ite_false, ite_self, decide_true, decide_false, Nat.zero_le, reduceCtorEq, andE_eq, andK_bl, orE_eq, orK_bl, asB_eq, asK_bl, Option.map_some, sz1, sz2, sz3, sz4, cst1, cst2, cst3]
    | node w ps =>
      have h' : nameB w = true ∧ okPs n l ps = true := by simpa [okP] using h
      have hn := ok_le (m := n + 1) (by omega) h'.2
      have h2 : ps.length ≤ 30 ∧ ∀ p ∈ ps, okP n l p = true := by simpa [okPs] using hn
      simp only [txt, List.length_append, List.length_cons, List.length_nil] at hl
      have lc : lcL (nameG 1) yesT (callE (F_part_text n) (consA (varE 1) nilA)) [some (.d (.tup [.str ("node" : Str), .str (S w), .tup (toDs ps)])), none] ((toDs ps).map Val.d) [] st = .ok ((ps.map fun p => S (txt p)).map D.str) st := by
        have := lc_mapP (g := nameG 1) (f := callE (F_part_text n) (consA (varE 1) nilA)) (ρ0 := [some (.d (.tup [.str ("node" : Str), .str (S w), .tup (toDs ps)])), none]) (st := st) (fun p => Val.d (toD p)) (fun p => D.str (S (txt p))) ps [] (fun p hp => ⟨_, rfl, by
          have := len_mem' ps p hp
          simp only [f_part_text n l p st (h2.2 p hp) (by omega), funD, funX, funK, env0, retS, retN, exprS, setS, seqS, ifS, asgS, parS, nxS, raiseS, varE, cE, op2, andT, orT, notT, notE, ifE, nilA, consA, tupE, lstE, asDs_nil, asDs_cons, asDs_map, callE, callX, bltE, one, truE, sliceE, noO, someO, nameG, tupG, consG, nilG, okIf, negE, bindR_ok, bindR_exc, bindR_err, bindS_ok, bindS_exc, bindS_err, seqR_nx, seqR_ret, seqR_exc, seqR_brk, seqR_cnt, seqR_err, noX_ok, fin_nx, fin_d, fin_exc, fin_scr, eq_str, ne_str, eq_int, ne_int, List.map_cons, List.map_nil, List.cons_append, List.nil_append, List.getElem?_cons_zero, List.getElem?_cons_succ, List.length_cons, List.length_nil, Nat.reduceAdd, Nat.reduceSub, List.replicate_zero, List.replicate_succ, List.set_cons_zero, List.set_cons_succ, List.take_length, Option.bind_some, Bool.not_true, Bool.not_false, if_true, if_false, Bool.false_eq_true, ite_true, ite_false, ite_self, decide_true, decide_false, Nat.zero_le, reduceCtorEq, andE_eq, andK_bl, orE_eq, orK_bl, asB_eq, asK_bl, Option.map_some, sz1, sz2, sz3, sz4, cst1, cst2, cst3]⟩) (by simp; exact small_size (by omega))
        have e1 : (toDs ps).map Val.d = ps.map fun p => Val.d (toD p) := by rw [toDs_map, List.map_map]; rfl
        have e2 : (ps.map fun p => S (txt p)).map D.str = ps.map fun p => D.str (S (txt p)) := by rw [List.map_map]; rfl
        rw [e1, e2]
        rw [List.nil_append] at this
        exact this
      simp only [toD, g_part_text, N_part_text, ix0, ix1, ix2, tm1E, lcE, seqI, itemsOf, forget, c_open, c_close, c_blank, addS (a := w) (b := [40]) (by simp; omega), lc, lcK, join_lst (join_small (by omega) h2.1), join_txts, funD, funX, funK, env0, retS, retN, exprS, setS, seqS, ifS, asgS, parS, nxS, raiseS, varE, cE, op2, andT, orT, notT, notE, ifE, nilA, consA, tupE, lstE, asDs_nil, asDs_cons, asDs_map, callE, callX, bltE, one, truE, sliceE, noO, someO, nameG, tupG, consG, nilG, okIf, negE, bindR_ok, bindR_exc, bindR_err, bindS_ok, bindS_exc, bindS_err, seqR_nx, seqR_ret, seqR_exc, seqR_brk, seqR_cnt, seqR_err, noX_ok, fin_nx, fin_d, fin_exc, fin_scr, eq_str, ne_str, eq_int, ne_int, List.map_cons, List.map_nil, List.cons_append, List.nil_append, List.getElem?_cons_zero, List.getElem?_cons_succ, List.length_cons, List.length_nil, Nat.reduceAdd, Nat.reduceSub, List.replicate_zero, List.replicate_succ, List.set_cons_zero, List.set_cons_succ, List.take_length, Option.bind_some, Bool.not_true, Bool.not_false, if_true, if_false, Bool.false_eq_true, ite_true, ite_false, ite_self, decide_true, decide_false, Nat.zero_le, reduceCtorEq, andE_eq, andK_bl, orE_eq, orK_bl, asB_eq, asK_bl, Option.map_some, sz1, sz2, sz3, sz4, cst1, cst2, cst3]
      rw [addS (by simp; omega)]
      simp only [funD, funX, funK, env0, retS, retN, exprS, setS, seqS, ifS, asgS, parS, nxS, raiseS, varE, cE, op2, andT, orT, notT, notE, ifE, nilA, consA, tupE, lstE, asDs_nil, asDs_cons, asDs_map, callE, callX, bltE, one, truE, sliceE, noO, someO, nameG, tupG, consG, nilG, okIf, negE, bindR_ok, bindR_exc, bindR_err, bindS_ok, bindS_exc, bindS_err, seqR_nx, seqR_ret, seqR_exc, seqR_brk, seqR_cnt, seqR_err, noX_ok, fin_nx, fin_d, fin_exc, fin_scr, eq_str, ne_str, eq_int, ne_int, List.map_cons, List.map_nil, List.cons_append, List.nil_append, List.getElem?_cons_zero, List.getElem?_cons_succ, List.length_cons, List.length_nil, Nat.reduceAdd, Nat.reduceSub, List.replicate_zero, List.replicate_succ, List.set_cons_zero, List.set_cons_succ, List.take_length, Option.bind_some, Bool.not_true, Bool.not_false, if_true, if_false, Bool.false_eq_true, ite_true, ite_false, ite_self, decide_true, decide_false, Nat.zero_le, reduceCtorEq, andE_eq, andK_bl, orE_eq, orK_bl, asB_eq, asK_bl, Option.map_some, sz1, sz2, sz3, sz4, cst1, cst2, cst3]
      rw [addS (by simp; omega)]
      simp only [txt, List.append_assoc, funD, funX, funK, env0, retS, retN, exprS, setS, seqS, ifS, asgS, parS, nxS, raiseS, varE, cE, op2, andT, orT, notT, notE, ifE, nilA, consA, tupE, lstE, asDs_nil, asDs_cons, asDs_map, callE, callX, bltE, one, truE, sliceE, noO, someO, nameG, tupG, consG, nilG, okIf, negE, bindR_ok, bindR_exc, bindR_err, bindS_ok, bindS_exc, bindS_err, seqR_nx, seqR_ret, seqR_exc, seqR_brk, seqR_cnt, seqR_err, noX_ok, fin_nx, fin_d, fin_exc, fin_scr, eq_str, ne_str, eq_int, ne_int, List.map_cons, List.map_nil, List.cons_append, List.nil_append, List.getElem?_cons_zero, List.getElem?_cons_succ, List.length_cons, List.length_nil, Nat.reduceAdd, Nat.reduceSub, List.replicate_zero, List.replicate_succ, List.set_cons_zero, List.set_cons_succ, List.take_length, Option.bind_some, Bool.not_true, Bool.not_false, if_true, if_false, Bool.false_eq_true, ite_true, ite_false, ite_self, decide_true, decide_false, Nat.zero_le, reduceCtorEq, andE_eq, andK_bl, orE_eq, orK_bl, asB_eq, asK_bl, Option.map_some, sz1, sz2, sz3, sz4, cst1, cst2, cst3]
end K50
end

section
set_option Elab.async false
set_option linter.all false
set_option autoImplicit false
set_option maxRecDepth 100000
set_option maxHeartbeats 4000000
/-! KP14: _law_words, turning_text, _law_pieces. -/
namespace K50
open PySem DL
def cellS (ys : List Str) : Option Cell := some (.lst ((ys.map D.str).map Val.d))
theorem aps {i : Nat} {f : SE} {ρ : DL.Env} {st : Store} {ys : List Str} {z : Str} (h1 : ρ[i]? = some (some (Val.ref st.length))) (h2 : f ρ (st ++ [cellS ys]) = .ok (.d (.str z)) (st ++ [cellS ys])) (h3 : ys.length ≤ 1000) : appendE (varE i) f ρ (st ++ [cellS ys]) = .ok (.d .non) (st ++ [cellS (ys ++ [z])]) := by
  have wq : (st ++ [cellS ys])[st.length]? = some (some (.lst ((ys.map D.str).map Val.d))) := at_new
  refine Eq.trans (append_ok (fo := varE i) (n := st.length) (xs := (ys.map D.str).map Val.d) (ys := (ys.map D.str).map Val.d) (by unfold varE; rw [h1]) wq h2 wq (by rw [List.length_map, List.length_map]; exact Nat.lt_of_lt_of_le (show ys.length < 100000 by omega) (small_size (Nat.le_refl _)))) ?_
  rw [set_new]
  unfold cellS
  simp only [List.map_append, List.map_cons, List.map_nil]
def bodyW (F : List Val → Store → R Val) : SS := (ifS (asB (op2 (eqV false) (op2 ixV (varE 2) (cE (.int 0))) (cE (.str ("node" : Str))))) (exprS (appendE (varE 1) (op2 addV (op2 addV (op2 addV (op2 ixV (varE 2) (cE (.int 1))) (cE (.str ("(" : Str)))) (callE F (consA (op2 ixV (varE 2) (cE (.int 2))) nilA))) (cE (.str (")" : Str)))))) (ifS (asB (op2 (eqV false) (op2 ixV (varE 2) (cE (.int 0))) (cE (.str ("keep" : Str))))) (exprS (appendE (varE 1) (cE (.str ("*" : Str))))) (exprS (appendE (varE 1) (ifE (asB (op2 (eqV false) (op2 ixV (varE 2) (cE (.int 0))) (cE (.str ("go" : Str))))) (op2 addV (cE (.str ("!" : Str))) (op2 ixV (varE 2) (cE (.int 1)))) (op2 addV (op2 addV (cE (.str ("\"" : Str))) (op2 ixV (varE 2) (cE (.int 1)))) (cE (.str ("\"" : Str)))))))))
theorem f_words : ∀ (n : Nat) (l : T) (ps : List Part) (st : Store), okPs n l ps = true → (txts ps).length ≤ 1000 → F__law_words n [.d (.tup (toDs ps))] st = .ok (.d (.str (S (txts ps)))) st
  | 0, l, ps, st, h, _ => by simp [okPs] at h
  | n + 1, l, ps, st, h, hl => by
    obtain ⟨q1, q2, q3, q4, q5, q6⟩ := q_nodes
    have h2 : ps.length ≤ 30 ∧ ∀ p ∈ ps, okP n l p = true := by simpa [okPs] using h
    have one_ : ∀ (p : Part) (ys : List Str), okP n l p = true → (txt p).length ≤ 1000 → ys.length ≤ 1000 → bodyW (F__law_words n) [some (.d (.tup (toDs ps))), some (.ref st.length), some (.d (toD p))] (st ++ [cellS ys]) = .nx [some (.d (.tup (toDs ps))), some (.ref st.length), some (.d (toD p))] (st ++ [cellS (ys ++ [S (txt p)])]) := by
      intro p ys hp hpl hy
      obtain ⟨m, rfl⟩ : ∃ m, n = m + 1 := by
        cases n with
        | zero => simp [okP] at hp
        | succ m => exact ⟨m, rfl⟩
      cases p with
      | keep =>
        have ap := aps (i := 1) (f := cE (.str ("*" : Str))) (ρ := [some (.d (.tup (toDs ps))), some (.ref st.length), some (.d (toD .keep))]) (st := st) (ys := ys) (z := S (txt .keep)) rfl (by simp only [cE, c_star, txt]) hy
        simp only [toD] at ap
        simp only [toD, bodyW, ix0, q3, ap, funD, funX, funK, env0, retS, retN, exprS, setS, seqS, ifS, asgS, parS, nxS, raiseS, varE, cE, op2, andT, orT, notT, notE, ifE, nilA, consA, tupE, lstE, asDs_nil, asDs_cons, asDs_map, callE, callX, bltE, one, truE, sliceE, noO, someO, nameG, tupG, consG, nilG, okIf, negE, bindR_ok, bindR_exc, bindR_err, bindS_ok, bindS_exc, bindS_err, seqR_nx, seqR_ret, seqR_exc, seqR_brk, seqR_cnt, seqR_err, noX_ok, fin_nx, fin_d, fin_exc, fin_scr, eq_str, ne_str, eq_int, ne_int, List.map_cons, List.map_nil, List.cons_append, List.nil_append, List.getElem?_cons_zero, List.getElem?_cons_succ, List.length_cons, List.length_nil, Nat.reduceAdd, Nat.reduceSub, List.replicate_zero, List.replicate_succ, List.set_cons_zero, List.set_cons_succ, List.take_length, Option.bind_some, Bool.not_true, Bool.not_false, if_true, if_false, Bool.false_eq_true, ite_true, ite_false, ite_self, decide_true, decide_false, Nat.zero_le, reduceCtorEq, andE_eq, andK_bl, orE_eq, orK_bl, asB_eq, asK_bl, Option.map_some, sz1, sz2, sz3, sz4, cst1, cst2, cst3]
      | say w =>
        simp only [txt, List.length_cons, List.length_append, List.length_nil] at hpl
        have ap := aps (i := 1) (f := (ifE (asB (op2 (eqV false) (op2 ixV (varE 2) (cE (.int 0))) (cE (.str ("go" : Str))))) (op2 addV (cE (.str ("!" : Str))) (op2 ixV (varE 2) (cE (.int 1)))) (op2 addV (op2 addV (cE (.str ("\"" : Str))) (op2 ixV (varE 2) (cE (.int 1)))) (cE (.str ("\"" : Str)))))) (ρ := [some (.d (.tup (toDs ps))), some (.ref st.length), some (.d (toD (.say w)))]) (st := st) (ys := ys) (z := S (txt (.say w))) rfl (by
          simp only [toD, ix0, ix1, q6, c_quote, txt, addS (a := [34]) (b := w) (by simp; omega), funD, funX, funK, env0, retS, retN, exprS, setS, seqS, ifS, asgS, parS, nxS, raiseS, varE, cE, op2, andT, orT, notT, notE, ifE, nilA, consA, tupE, lstE, asDs_nil, asDs_cons, asDs_map, callE, callX, bltE, one, truE, sliceE, noO, someO, nameG, tupG, consG, nilG, okIf, negE, bindR_ok, bindR_exc, bindR_err, bindS_ok, bindS_exc, bindS_err, seqR_nx, seqR_ret, seqR_exc, seqR_brk, seqR_cnt, seqR_err, noX_ok, fin_nx, fin_d, fin_exc, fin_scr, eq_str, ne_str, eq_int, ne_int, List.map_cons, List.map_nil, List.cons_append, List.nil_append, List.getElem?_cons_zero, List.getElem?_cons_succ, List.length_cons, List.length_nil, Nat.reduceAdd, Nat.reduceSub, List.replicate_zero, List.replicate_succ, List.set_cons_zero, List.set_cons_succ, List.take_length, Option.bind_some, Bool.not_true, Bool.not_false, if_true, if_false, Bool.false_eq_true, ite_true, ite_false, ite_self, decide_true, decide_false, Nat.zero_le, reduceCtorEq, andE_eq, andK_bl, orE_eq, orK_bl, asB_eq, asK_bl, Option.map_some, sz1, sz2, sz3, sz4, cst1, cst2, cst3]
          rw [addS (by simp; omega)]
          rfl) hy
        simp only [toD] at ap
        simp only [toD, bodyW, ix0, q1, q4, ap, funD, funX, funK, env0, retS, retN, exprS, setS, seqS, ifS, asgS, parS, nxS, raiseS, varE, cE, op2, andT, orT, notT, notE, ifE, nilA, consA, tupE, lstE, asDs_nil, asDs_cons, asDs_map, callE, callX, bltE, one, truE, sliceE, noO, someO, nameG, tupG, consG, nilG, okIf, negE, bindR_ok, bindR_exc, bindR_err, bindS_ok, bindS_exc, bindS_err, seqR_nx, seqR_ret, seqR_exc, seqR_brk, seqR_cnt, seqR_err, noX_ok, fin_nx, fin_d, fin_exc, fin_scr, eq_str, ne_str, eq_int, ne_int, List.map_cons, List.map_nil, List.cons_append, List.nil_append, List.getElem?_cons_zero, List.getElem?_cons_succ, List.length_cons, List.length_nil, Nat.reduceAdd, Nat.reduceSub, List.replicate_zero, List.replicate_succ, List.set_cons_zero, List.set_cons_succ, List.take_length, Option.bind_some, Bool.not_true, Bool.not_false, if_true, if_false, Bool.false_eq_true, ite_true, ite_false, ite_self, decide_true, decide_false, Nat.zero_le, reduceCtorEq, andE_eq, andK_bl, orE_eq, orK_bl, asB_eq, asK_bl, Option.map_some, sz1, sz2, sz3, sz4, cst1, cst2, cst3]
      | go w =>
        simp only [txt, List.length_cons] at hpl
        have ap := aps (i := 1) (f := (ifE (asB (op2 (eqV false) (op2 ixV (varE 2) (cE (.int 0))) (cE (.str ("go" : Str))))) (op2 addV (cE (.str ("!" : Str))) (op2 ixV (varE 2) (cE (.int 1)))) (op2 addV (op2 addV (cE (.str ("\"" : Str))) (op2 ixV (varE 2) (cE (.int 1)))) (cE (.str ("\"" : Str)))))) (ρ := [some (.d (.tup (toDs ps))), some (.ref st.length), some (.d (toD (.go w)))]) (st := st) (ys := ys) (z := S (txt (.go w))) rfl (by
          simp only [toD, ix0, ix1, c_bang, txt, addS (a := [33]) (b := w) (by simp; omega), funD, funX, funK, env0, retS, retN, exprS, setS, seqS, ifS, asgS, parS, nxS, raiseS, varE, cE, op2, andT, orT, notT, notE, ifE, nilA, consA, tupE, lstE, asDs_nil, asDs_cons, asDs_map, callE, callX, bltE, one, truE, sliceE, noO, someO, nameG, tupG, consG, nilG, okIf, negE, bindR_ok, bindR_exc, bindR_err, bindS_ok, bindS_exc, bindS_err, seqR_nx, seqR_ret, seqR_exc, seqR_brk, seqR_cnt, seqR_err, noX_ok, fin_nx, fin_d, fin_exc, fin_scr, eq_str, ne_str, eq_int, ne_int, List.map_cons, List.map_nil, List.cons_append, List.nil_append, List.getElem?_cons_zero, List.getElem?_cons_succ, List.length_cons, List.length_nil, Nat.reduceAdd, Nat.reduceSub, List.replicate_zero, List.replicate_succ, List.set_cons_zero, List.set_cons_succ, List.take_length, Option.bind_some, Bool.not_true, Bool.not_false, if_true, if_false, Bool.false_eq_true, ite_true, ite_false, ite_self, decide_true, decide_false, Nat.zero_le, reduceCtorEq, andE_eq, andK_bl, orE_eq, orK_bl, asB_eq, asK_bl, Option.map_some, sz1, sz2, sz3, sz4, cst1, cst2, cst3]) hy
        simp only [toD] at ap
        simp only [toD, bodyW, ix0, q2, q5, ap, funD, funX, funK, env0, retS, retN, exprS, setS, seqS, ifS, asgS, parS, nxS, raiseS, varE, cE, op2, andT, orT, notT, notE, ifE, nilA, consA, tupE, lstE, asDs_nil, asDs_cons, asDs_map, callE, callX, bltE, one, truE, sliceE, noO, someO, nameG, tupG, consG, nilG, okIf, negE, bindR_ok, bindR_exc, bindR_err, bindS_ok, bindS_exc, bindS_err, seqR_nx, seqR_ret, seqR_exc, seqR_brk, seqR_cnt, seqR_err, noX_ok, fin_nx, fin_d, fin_exc, fin_scr, eq_str, ne_str, eq_int, ne_int, List.map_cons, List.map_nil, List.cons_append, List.nil_append, List.getElem?_cons_zero, List.getElem?_cons_succ, List.length_cons, List.length_nil, Nat.reduceAdd, Nat.reduceSub, List.replicate_zero, List.replicate_succ, List.set_cons_zero, List.set_cons_succ, List.take_length, Option.bind_some, Bool.not_true, Bool.not_false, if_true, if_false, Bool.false_eq_true, ite_true, ite_false, ite_self, decide_true, decide_false, Nat.zero_le, reduceCtorEq, andE_eq, andK_bl, orE_eq, orK_bl, asB_eq, asK_bl, Option.map_some, sz1, sz2, sz3, sz4, cst1, cst2, cst3]
      | node w qs =>
        have h' : nameB w = true ∧ okPs m l qs = true := by simpa [okP] using hp
        simp only [txt, List.length_append, List.length_cons, List.length_nil] at hpl
        have ih := f_words (m + 1) l qs (st ++ [cellS ys]) (ok_le (by omega) h'.2) (by omega)
        have ap := aps (i := 1) (f := (op2 addV (op2 addV (op2 addV (op2 ixV (varE 2) (cE (.int 1))) (cE (.str ("(" : Str)))) (callE (F__law_words (m + 1)) (consA (op2 ixV (varE 2) (cE (.int 2))) nilA))) (cE (.str (")" : Str))))) (ρ := [some (.d (.tup (toDs ps))), some (.ref st.length), some (.d (toD (.node w qs)))]) (st := st) (ys := ys) (z := S (txt (.node w qs))) rfl (by
          simp only [toD, ix1, ix2, c_open, c_close, addS (a := w) (b := [40]) (by simp; omega), ih, funD, funX, funK, env0, retS, retN, exprS, setS, seqS, ifS, asgS, parS, nxS, raiseS, varE, cE, op2, andT, orT, notT, notE, ifE, nilA, consA, tupE, lstE, asDs_nil, asDs_cons, asDs_map, callE, callX, bltE, one, truE, sliceE, noO, someO, nameG, tupG, consG, nilG, okIf, negE, bindR_ok, bindR_exc, bindR_err, bindS_ok, bindS_exc, bindS_err, seqR_nx, seqR_ret, seqR_exc, seqR_brk, seqR_cnt, seqR_err, noX_ok, fin_nx, fin_d, fin_exc, fin_scr, eq_str, ne_str, eq_int, ne_int, List.map_cons, List.map_nil, List.cons_append, List.nil_append, List.getElem?_cons_zero, List.getElem?_cons_succ, List.length_cons, List.length_nil, Nat.reduceAdd, Nat.reduceSub, List.replicate_zero, List.replicate_succ, List.set_cons_zero, List.set_cons_succ, List.take_length, Option.bind_some, Bool.not_true, Bool.not_false, if_true, if_false, Bool.false_eq_true, ite_true, ite_false, ite_self, decide_true, decide_false, Nat.zero_le, reduceCtorEq, andE_eq, andK_bl, orE_eq, orK_bl, asB_eq, asK_bl, Option.map_some, sz1, sz2, sz3, sz4, cst1, cst2, cst3]
          rw [addS (by simp; omega), bindR_ok, addS (by simp; omega)]
          simp only [txt, List.append_assoc, funD, funX, funK, env0, retS, retN, exprS, setS, seqS, ifS, asgS, parS, nxS, raiseS, varE, cE, op2, andT, orT, notT, notE, ifE, nilA, consA, tupE, lstE, asDs_nil, asDs_cons, asDs_map, callE, callX, bltE, one, truE, sliceE, noO, someO, nameG, tupG, consG, nilG, okIf, negE, bindR_ok, bindR_exc, bindR_err, bindS_ok, bindS_exc, bindS_err, seqR_nx, seqR_ret, seqR_exc, seqR_brk, seqR_cnt, seqR_err, noX_ok, fin_nx, fin_d, fin_exc, fin_scr, eq_str, ne_str, eq_int, ne_int, List.map_cons, List.map_nil, List.cons_append, List.nil_append, List.getElem?_cons_zero, List.getElem?_cons_succ, List.length_cons, List.length_nil, Nat.reduceAdd, Nat.reduceSub, List.replicate_zero, List.replicate_succ, List.set_cons_zero, List.set_cons_succ, List.take_length, Option.bind_some, Bool.not_true, Bool.not_false, if_true, if_false, Bool.false_eq_true, ite_true, ite_false, ite_self, decide_true, decide_false, Nat.zero_le, reduceCtorEq, andE_eq, andK_bl, orE_eq, orK_bl, asB_eq, asK_bl, Option.map_some, sz1, sz2, sz3, sz4, cst1, cst2, cst3]) hy
        simp only [toD] at ap
        simp only [toD, bodyW, ix0, ap, funD, funX, funK, env0, retS, retN, exprS, setS, seqS, ifS, asgS, parS, nxS, raiseS, varE, cE, op2, andT, orT, notT, notE, ifE, nilA, consA, tupE, lstE, asDs_nil, asDs_cons, asDs_map, callE, callX, bltE, one, truE, sliceE, noO, someO, nameG, tupG, consG, nilG, okIf, negE, bindR_ok, bindR_exc, bindR_err, bindS_ok, bindS_exc, bindS_err, seqR_nx, seqR_ret, seqR_exc, seqR_brk, seqR_cnt, seqR_err, noX_ok, fin_nx, fin_d, fin_exc, fin_scr, eq_str, ne_str, eq_int, ne_int, List.map_cons, List.map_nil, List.cons_append, List.nil_append, List.getElem?_cons_zero, List.getElem?_cons_succ, List.length_cons, List.length_nil, Nat.reduceAdd, Nat.reduceSub, List.replicate_zero, List.replicate_succ, List.set_cons_zero, List.set_cons_succ, List.take_length, Option.bind_some, Bool.not_true, Bool.not_false, if_true, if_false, Bool.false_eq_true, ite_true, ite_false, ite_self, decide_true, decide_false, Nat.zero_le, reduceCtorEq, andE_eq, andK_bl, orE_eq, orK_bl, asB_eq, asK_bl, Option.map_some, sz1, sz2, sz3, sz4, cst1, cst2, cst3]
    have run : ∀ (qs : List Part) (ys : List Str), (∀ p ∈ qs, okP n l p = true ∧ (txt p).length ≤ 1000) → ys.length + qs.length ≤ 1000 → forL (nameG 2) (bodyW (F__law_words n)) [2] (qs.map fun p => Val.d (toD p)) [some (.d (.tup (toDs ps))), some (.ref st.length), none] (st ++ [cellS ys]) = .nx [some (.d (.tup (toDs ps))), some (.ref st.length), none] (st ++ [cellS (ys ++ qs.map fun p => S (txt p))]) := by
      intro qs
      induction qs with
      | nil => intro ys _ _; simp [forL]
      | cons p qs ih =>
        intro ys hq hL
        rw [List.length_cons] at hL
        obtain ⟨a, b⟩ := hq p List.mem_cons_self
        simp only [List.map_cons, forL, one_ p ys a b (by omega), loopR_nx, forget, funD, funX, funK, env0, retS, retN, exprS, setS, seqS, ifS, asgS, parS, nxS, raiseS, varE, cE, op2, andT, orT, notT, notE, ifE, nilA, consA, tupE, lstE, asDs_nil, asDs_cons, asDs_map, callE, callX, bltE, one, truE, sliceE, noO, someO, nameG, tupG, consG, nilG, okIf, negE, bindR_ok, bindR_exc, bindR_err, bindS_ok, bindS_exc, bindS_err, seqR_nx, seqR_ret, seqR_exc, seqR_brk, seqR_cnt, seqR_err, noX_ok, fin_nx, fin_d, fin_exc, fin_scr, eq_str, ne_str, eq_int, ne_int, List.map_cons, List.map_nil, List.cons_append, List.nil_append, List.getElem?_cons_zero, List.getElem?_cons_succ, List.length_cons, List.length_nil, Nat.reduceAdd, Nat.reduceSub, List.replicate_zero, List.replicate_succ, List.set_cons_zero, List.set_cons_succ, List.take_length, Option.bind_some, Bool.not_true, Bool.not_false, if_true, if_false, Bool.false_eq_true, ite_true, ite_false, ite_self, decide_true, decide_false, Nat.zero_le, reduceCtorEq, andE_eq, andK_bl, orE_eq, orK_bl, asB_eq, asK_bl, Option.map_some, sz1, sz2, sz3, sz4, cst1, cst2, cst3]
        rw [ih (ys ++ [S (txt p)]) (fun r hr => hq r (List.mem_cons_of_mem _ hr)) (by rw [List.length_append, List.length_singleton]; omega)]
        simp
    show funD N__law_words.length (g__law_words (F__law_words n)) _ st = _
    have im : itemsOf (.d (.tup (toDs ps))) = some (ps.map fun p => Val.d (toD p)) := by
      simp only [itemsOf, toDs_map, List.map_map]
      rfl
    unfold g__law_words
    simp only [N__law_words, new_nil, funD, funX, funK, env0, retS, retN, exprS, setS, seqS, ifS, asgS, parS, nxS, raiseS, varE, cE, op2, andT, orT, notT, notE, ifE, nilA, consA, tupE, lstE, asDs_nil, asDs_cons, asDs_map, callE, callX, bltE, one, truE, sliceE, noO, someO, nameG, tupG, consG, nilG, okIf, negE, bindR_ok, bindR_exc, bindR_err, bindS_ok, bindS_exc, bindS_err, seqR_nx, seqR_ret, seqR_exc, seqR_brk, seqR_cnt, seqR_err, noX_ok, fin_nx, fin_d, fin_exc, fin_scr, eq_str, ne_str, eq_int, ne_int, List.map_cons, List.map_nil, List.cons_append, List.nil_append, List.getElem?_cons_zero, List.getElem?_cons_succ, List.length_cons, List.length_nil, Nat.reduceAdd, Nat.reduceSub, List.replicate_zero, List.replicate_succ, List.set_cons_zero, List.set_cons_succ, List.take_length, Option.bind_some, Bool.not_true, Bool.not_false, if_true, if_false, Bool.false_eq_true, ite_true, ite_false, ite_self, decide_true, decide_false, Nat.zero_le, reduceCtorEq, andE_eq, andK_bl, orE_eq, orK_bl, asB_eq, asK_bl, Option.map_some, sz1, sz2, sz3, sz4, cst1, cst2, cst3]
    rw [forS_eq]
    simp only [seqI, im, funD, funX, funK, env0, retS, retN, exprS, setS, seqS, ifS, asgS, parS, nxS, raiseS, varE, cE, op2, andT, orT, notT, notE, ifE, nilA, consA, tupE, lstE, asDs_nil, asDs_cons, asDs_map, callE, callX, bltE, one, truE, sliceE, noO, someO, nameG, tupG, consG, nilG, okIf, negE, bindR_ok, bindR_exc, bindR_err, bindS_ok, bindS_exc, bindS_err, seqR_nx, seqR_ret, seqR_exc, seqR_brk, seqR_cnt, seqR_err, noX_ok, fin_nx, fin_d, fin_exc, fin_scr, eq_str, ne_str, eq_int, ne_int, List.map_cons, List.map_nil, List.cons_append, List.nil_append, List.getElem?_cons_zero, List.getElem?_cons_succ, List.length_cons, List.length_nil, Nat.reduceAdd, Nat.reduceSub, List.replicate_zero, List.replicate_succ, List.set_cons_zero, List.set_cons_succ, List.take_length, Option.bind_some, Bool.not_true, Bool.not_false, if_true, if_false, Bool.false_eq_true, ite_true, ite_false, ite_self, decide_true, decide_false, Nat.zero_le, reduceCtorEq, andE_eq, andK_bl, orE_eq, orK_bl, asB_eq, asK_bl, Option.map_some, sz1, sz2, sz3, sz4, cst1, cst2, cst3]
    have r := run ps [] (fun p hp => ⟨h2.2 p hp, Nat.le_trans (len_mem' ps p hp) hl⟩) (by simp; omega)
    unfold bodyW at r
    rw [show ([some (Cell.lst [])] : Store) = [cellS []] from rfl, r, List.nil_append]
    have jn : joinV (S [32]) (.ref st.length) (st ++ [cellS (ps.map fun p => S (txt p))]) = .ok (.d (.str (Txt.join (S [32]) (ps.map fun p => S (txt p))))) (st ++ [cellS (ps.map fun p => S (txt p))]) := join_ref at_new (join_small hl h2.1)
    simp only [tm1E, c_blank, jn, join_txts, List.take_left, funD, funX, funK, env0, retS, retN, exprS, setS, seqS, ifS, asgS, parS, nxS, raiseS, varE, cE, op2, andT, orT, notT, notE, ifE, nilA, consA, tupE, lstE, asDs_nil, asDs_cons, asDs_map, callE, callX, bltE, one, truE, sliceE, noO, someO, nameG, tupG, consG, nilG, okIf, negE, bindR_ok, bindR_exc, bindR_err, bindS_ok, bindS_exc, bindS_err, seqR_nx, seqR_ret, seqR_exc, seqR_brk, seqR_cnt, seqR_err, noX_ok, fin_nx, fin_d, fin_exc, fin_scr, eq_str, ne_str, eq_int, ne_int, List.map_cons, List.map_nil, List.cons_append, List.nil_append, List.getElem?_cons_zero, List.getElem?_cons_succ, List.length_cons, List.length_nil, Nat.reduceAdd, Nat.reduceSub, List.replicate_zero, List.replicate_succ, List.set_cons_zero, List.set_cons_succ, List.take_length, Option.bind_some, Bool.not_true, Bool.not_false, if_true, if_false, Bool.false_eq_true, ite_true, ite_false, ite_self, decide_true, decide_false, Nat.zero_le, reduceCtorEq, andE_eq, andK_bl, orE_eq, orK_bl, asB_eq, asK_bl, Option.map_some, sz1, sz2, sz3, sz4, cst1, cst2, cst3]
/-! ### the pieces -/
def pieceS (r : Rl) : Str := S (pieceT r.1 r.2.1 r.2.2)
theorem RuleOK.ok {r : Rl} (h : RuleOK r) : okPs 12 r.2.1 r.2.2 = true ∧ nameB r.1 = true ∧ letB r.2.1 = true ∧ (txts r.2.2).length ≤ 300 ∧ r.1.length ≤ 2 ∧ r.2.1.length ≤ 2 ∧ r.2.2.length ≤ 30 := by
  have a := (mds_ok _ h.m)
  have b := (lts_ok _ h.l)
  rw [S_cps] at a b
  have c := txts_len (A := szA 2) r.2.2 fun p hp => (h.gen p hp).2
  have d : r.2.2.length * (szA 2 + 1) ≤ 3 * (szA 2 + 1) := Nat.mul_le_mul_right _ h.few
  have e : szA 2 = 73 := rfl
  refine ⟨ok_le (n := 6) (by omega) ?_, a.1, b.1, by omega, a.2, b.2, by have := h.few; omega⟩
  show okPs (5 + 1) r.2.1 r.2.2 = true
  simp only [okPs, decide_eq_true (by have := h.few; omega : r.2.2.length ≤ 30), Bool.true_and, List.all_eq_true]
  exact fun p hp => (h.gen p hp).1
theorem ltT_len (l : T) : (ltT l).length ≤ l.length + 1 := by
  unfold ltT
  split
  · simp
  · omega
theorem words_len (ps : List Part) : (wordsT ps).length ≤ (txts ps).length + 1 := by
  unfold wordsT
  split
  · simp
  · omega
theorem piece_len {r : Rl} (h : RuleOK r) : (pieceT r.1 r.2.1 r.2.2).length ≤ 400 := by
  obtain ⟨_, _, _, a, b, c, _⟩ := h.ok
  have d := ltT_len r.2.1
  have e := words_len r.2.2
  unfold pieceT
  simp
  omega
/-- first + ' ' + letter + ' ' + words -/
theorem add_piece {m l w : T} {st : Store} {f1 f2 f3 : SE} {ρ : DL.Env} (h1 : f1 ρ st = .ok (.d (.str (S m))) st) (h2 : f2 ρ st = .ok (.d (.str (S l))) st) (h3 : f3 ρ st = .ok (.d (.str (S w))) st) (hl : m.length + l.length + w.length ≤ 1000) :
    op2 addV (op2 addV (op2 addV (op2 addV f1 (cE (.str (" " : Str)))) f2) (cE (.str (" " : Str)))) f3 ρ st = .ok (.d (.str (S (m ++ 32 :: (l ++ 32 :: w))))) st := by
  simp only [h1, h2, h3, c_blank, addS (a := m) (b := [32]) (by simp; omega), funD, funX, funK, env0, retS, retN, exprS, setS, seqS, ifS, asgS, parS, nxS, raiseS, varE, cE, op2, andT, orT, notT, notE, ifE, nilA, consA, tupE, lstE, asDs_nil, asDs_cons, asDs_map, callE, callX, bltE, one, truE, sliceE, noO, someO, nameG, tupG, consG, nilG, okIf, negE, bindR_ok, bindR_exc, bindR_err, bindS_ok, bindS_exc, bindS_err, seqR_nx, seqR_ret, seqR_exc, seqR_brk, seqR_cnt, seqR_err, noX_ok, fin_nx, fin_d, fin_exc, fin_scr, eq_str, ne_str, eq_int, ne_int, List.map_cons, List.map_nil, List.cons_append, List.nil_append, List.getElem?_cons_zero, List.getElem?_cons_succ, List.length_cons, List.length_nil, Nat.reduceAdd, Nat.reduceSub, List.replicate_zero, List.replicate_succ, List.set_cons_zero, List.set_cons_succ, List.take_length, Option.bind_some, Bool.not_true, Bool.not_false, if_true, if_false, Bool.false_eq_true, ite_true, ite_false, ite_self, decide_true, decide_false, Nat.zero_le, reduceCtorEq, andE_eq, andK_bl, orE_eq, orK_bl, asB_eq, asK_bl, Option.map_some, sz1, sz2, sz3, sz4, cst1, cst2, cst3]
  rw [addS (by simp; omega), bindR_ok, addS (by simp; omega), bindR_ok, h3, bindR_ok, addS (by simp; omega)]
  simp
def turnD (rs : List Rl) (mode : Str) : D := .ins ("Turning" : Str) [("rules" : Str), ("mode" : Str)] [.tup (rs.map rD), .str mode]
theorem truV_S {a : T} {st : Store} (h : a.length ≤ 1000) : truV (.d (.str (S a))) st = some (!decide (a = [])) := by
  have e : (S a).length ≤ sizeLine := by rw [S_len]; exact small_size (by omega)
  simp only [truV, if_pos e]
  rw [S_len]
  cases a with
  | nil => rfl
  | cons c a =>
    have : ((((c :: a).length : Nat) : Int) != 0) = true := by simp; omega
    rw [this]
    simp
theorem truD_tup {xs : List D} {st : Store} : truV (.d (.tup xs)) st = some (!xs.isEmpty) := truV_tup
end K50
end

section
set_option Elab.async false
set_option linter.all false
set_option autoImplicit false
set_option maxRecDepth 100000
set_option maxHeartbeats 4000000
/-! KP15: turning_text, _law_pieces. -/
namespace DL
open PySem
theorem fin_new {st : Store} {xs : List D} : fin st.length (.ret (.ref st.length) (st ++ [some (.lst (xs.map Val.d))])) = .ok (.d (.lst xs)) st := by
  show retV st.length (.ref st.length) (st ++ [some (.lst (xs.map Val.d))]) = _
  unfold retV
  simp only [Nat.lt_irrefl, if_false, at_new, asDs_map, List.take_left]
end DL
namespace K50
open PySem DL
theorem ne_tup {ps : List Part} {st : Store} (h : fitPs 12 ps = true) : eqV true (.d (.tup (toDs ps))) (.d (.tup [])) st = .ok (.d (.bl (!ps.isEmpty))) st := by
  obtain ⟨a, b⟩ := (fitP_py 12).2 ps h
  have hs : SeqAt.shaped (.tuple (pyPs ps)) = true := shaped_of (n := 12) (by omega) ⟨by simp only [PyData.canLay0, a], by simp only [PyData.depth]; omega⟩
  have e : eqB (.tup (toDs ps)) (.tup []) = some ps.isEmpty := by
    show eqG (.tup (toDs ps)) (.tup []) = _
    unfold eqG
    simp only [toPy, toPys_toDs, Option.map_some]
    show (if (SeqAt.shaped (.tuple (pyPs ps)) && SeqAt.shaped (.tuple [])) = true then some (PyData.eqv (.tuple (pyPs ps)) (.tuple [])) else none) = _
    rw [hs, if_pos (by decide +kernel)]
    cases ps <;> rfl
  unfold eqV
  show DL.bin (eqB (.tup (toDs ps)) (.tup [])) true st = _
  rw [e]
  rfl
def bodyPc : SS := (exprS (appendE (varE 2) (op2 addV (op2 addV (op2 addV (op2 addV (varE 3) (cE (.str (" " : Str)))) (ifE (asB (op2 (eqV true) (varE 4) (cE (.str ("" : Str))))) (varE 4) (cE (.str ("#" : Str))))) (cE (.str (" " : Str)))) (ifE (asB (op2 (eqV true) (varE 5) (tupE nilA))) (callE (F__law_words 12) (consA (varE 5) nilA)) (cE (.str ("-" : Str)))))))
theorem f_pieces {rs : List Rl} {mode : Str} (st : Store) (hr : ∀ r ∈ rs, RuleOK r) (hl : rs.length ≤ 12) : F__law_pieces [.d (.tup (rs.map rD)), .d (.str mode)] st = .ok (.d (.lst ((mode :: rs.map pieceS).map D.str))) st := by
  have step : ∀ (r : Rl) (ys : List Str), RuleOK r → ys.length ≤ 100 → bodyPc [some (.d (.tup (rs.map rD))), some (.d (.str mode)), some (.ref st.length), some (.d (.str (S r.1))), some (.d (.str (S r.2.1))), some (.d (.tup (toDs r.2.2)))] (st ++ [cellS ys]) = .nx [some (.d (.tup (rs.map rD))), some (.d (.str mode)), some (.ref st.length), some (.d (.str (S r.1))), some (.d (.str (S r.2.1))), some (.d (.tup (toDs r.2.2)))] (st ++ [cellS (ys ++ [pieceS r])]) := by
    intro r ys h hy
    obtain ⟨o1, o2, o3, o4, o5, o6, o7⟩ := h.ok
    have w1 := words_len r.2.2
    have w2 := ltT_len r.2.1
    have e2 : ifE (asB (op2 (eqV true) (varE 4) (cE (.str ("" : Str))))) (varE 4) (cE (.str ("#" : Str))) [some (.d (.tup (rs.map rD))), some (.d (.str mode)), some (.ref st.length), some (.d (.str (S r.1))), some (.d (.str (S r.2.1))), some (.d (.tup (toDs r.2.2)))] (st ++ [cellS ys]) = .ok (.d (.str (S (ltT r.2.1)))) (st ++ [cellS ys]) := by
      simp only [s_nil, S_inj, c_hash, ltT, funD, funX, funK, env0, retS, retN, exprS, setS, seqS, ifS, asgS, parS, nxS, raiseS, varE, cE, op2, andT, orT, notT, notE, ifE, nilA, consA, tupE, lstE, asDs_nil, asDs_cons, asDs_map, callE, callX, bltE, one, truE, sliceE, noO, someO, nameG, tupG, consG, nilG, okIf, negE, bindR_ok, bindR_exc, bindR_err, bindS_ok, bindS_exc, bindS_err, seqR_nx, seqR_ret, seqR_exc, seqR_brk, seqR_cnt, seqR_err, noX_ok, fin_nx, fin_d, fin_exc, fin_scr, eq_str, ne_str, eq_int, ne_int, List.map_cons, List.map_nil, List.cons_append, List.nil_append, List.getElem?_cons_zero, List.getElem?_cons_succ, List.length_cons, List.length_nil, Nat.reduceAdd, Nat.reduceSub, List.replicate_zero, List.replicate_succ, List.set_cons_zero, List.set_cons_succ, List.take_length, Option.bind_some, Bool.not_true, Bool.not_false, if_true, if_false, Bool.false_eq_true, ite_true, ite_false, ite_self, decide_true, decide_false, Nat.zero_le, reduceCtorEq, andE_eq, andK_bl, orE_eq, orK_bl, asB_eq, asK_bl, Option.map_some, sz1, sz2, sz3, sz4, cst1, cst2, cst3]
      by_cases e : r.2.1 = [] <;> simp only [e, decide_true, decide_false, Bool.not_true, Bool.not_false, if_true, if_false, Bool.false_eq_true]
    have e3 : ifE (asB (op2 (eqV true) (varE 5) (tupE nilA))) (callE (F__law_words 12) (consA (varE 5) nilA)) (cE (.str ("-" : Str))) [some (.d (.tup (rs.map rD))), some (.d (.str mode)), some (.ref st.length), some (.d (.str (S r.1))), some (.d (.str (S r.2.1))), some (.d (.tup (toDs r.2.2)))] (st ++ [cellS ys]) = .ok (.d (.str (S (wordsT r.2.2)))) (st ++ [cellS ys]) := by
      simp only [ne_tup ((ok_fit 12 r.2.1).2 _ o1), c_dash, f_words 12 r.2.1 r.2.2 _ o1 (by omega), wordsT, funD, funX, funK, env0, retS, retN, exprS, setS, seqS, ifS, asgS, parS, nxS, raiseS, varE, cE, op2, andT, orT, notT, notE, ifE, nilA, consA, tupE, lstE, asDs_nil, asDs_cons, asDs_map, callE, callX, bltE, one, truE, sliceE, noO, someO, nameG, tupG, consG, nilG, okIf, negE, bindR_ok, bindR_exc, bindR_err, bindS_ok, bindS_exc, bindS_err, seqR_nx, seqR_ret, seqR_exc, seqR_brk, seqR_cnt, seqR_err, noX_ok, fin_nx, fin_d, fin_exc, fin_scr, eq_str, ne_str, eq_int, ne_int, List.map_cons, List.map_nil, List.cons_append, List.nil_append, List.getElem?_cons_zero, List.getElem?_cons_succ, List.length_cons, List.length_nil, Nat.reduceAdd, Nat.reduceSub, List.replicate_zero, List.replicate_succ, List.set_cons_zero, List.set_cons_succ, List.take_length, Option.bind_some, Bool.not_true, Bool.not_false, if_true, if_false, Bool.false_eq_true, ite_true, ite_false, ite_self, decide_true, decide_false, Nat.zero_le, reduceCtorEq, andE_eq, andK_bl, orE_eq, orK_bl, asB_eq, asK_bl, Option.map_some, sz1, sz2, sz3, sz4, cst1, cst2, cst3]
      cases r.2.2.isEmpty <;> simp only [Bool.not_true, Bool.not_false, if_true, if_false, Bool.false_eq_true]
    have ap := aps (i := 2) (ρ := [some (.d (.tup (rs.map rD))), some (.d (.str mode)), some (.ref st.length), some (.d (.str (S r.1))), some (.d (.str (S r.2.1))), some (.d (.tup (toDs r.2.2)))]) (st := st) (ys := ys) (z := pieceS r) rfl (add_piece (m := r.1) (f1 := varE 3) rfl e2 e3 (by omega)) (by omega)
    unfold bodyPc exprS
    rw [ap]
    rfl
  have run : ∀ (qs : List Rl) (ys : List Str), (∀ r ∈ qs, RuleOK r) → ys.length + qs.length ≤ 100 → forL (tupG (consG (nameG 3) (consG (nameG 4) (consG (nameG 5) nilG)))) bodyPc [3, 4, 5] (qs.map fun r => Val.d (rD r)) [some (.d (.tup (rs.map rD))), some (.d (.str mode)), some (.ref st.length), none, none, none] (st ++ [cellS ys]) = .nx [some (.d (.tup (rs.map rD))), some (.d (.str mode)), some (.ref st.length), none, none, none] (st ++ [cellS (ys ++ qs.map pieceS)]) := by
    intro qs
    induction qs with
    | nil => intro ys _ _; simp [forL]
    | cons r qs ih =>
      intro ys hq hL
      rw [List.length_cons] at hL
      simp only [List.map_cons, forL, rD, rdata, step r ys (hq r List.mem_cons_self) (by omega), loopR_nx, forget, funD, funX, funK, env0, retS, retN, exprS, setS, seqS, ifS, asgS, parS, nxS, raiseS, varE, cE, op2, andT, orT, notT, notE, ifE, nilA, consA, tupE, lstE, asDs_nil, asDs_cons, asDs_map, callE, callX, bltE, one, truE, sliceE, noO, someO, nameG, tupG, consG, nilG, okIf, negE, bindR_ok, bindR_exc, bindR_err, bindS_ok, bindS_exc, bindS_err, seqR_nx, seqR_ret, seqR_exc, seqR_brk, seqR_cnt, seqR_err, noX_ok, fin_nx, fin_d, fin_exc, fin_scr, eq_str, ne_str, eq_int, ne_int, List.map_cons, List.map_nil, List.cons_append, List.nil_append, List.getElem?_cons_zero, List.getElem?_cons_succ, List.length_cons, List.length_nil, Nat.reduceAdd, Nat.reduceSub, List.replicate_zero, List.replicate_succ, List.set_cons_zero, List.set_cons_succ, List.take_length, Option.bind_some, Bool.not_true, Bool.not_false, if_true, if_false, Bool.false_eq_true, ite_true, ite_false, ite_self, decide_true, decide_false, Nat.zero_le, reduceCtorEq, andE_eq, andK_bl, orE_eq, orK_bl, asB_eq, asK_bl, Option.map_some, sz1, sz2, sz3, sz4, cst1, cst2, cst3]
      have i2 := ih (ys ++ [pieceS r]) (fun x hx => hq x (List.mem_cons_of_mem _ hx)) (by rw [List.length_append, List.length_singleton]; omega)
      simp only [rD, rdata] at i2
      rw [i2]
      simp
  have im : itemsOf (.d (.tup (rs.map rD))) = some (rs.map fun r => Val.d (rD r)) := by
    simp only [itemsOf, List.map_map]
    rfl
  unfold F__law_pieces g__law_pieces
  simp only [N__law_pieces, funD, funX, funK, env0, retS, retN, exprS, setS, seqS, ifS, asgS, parS, nxS, raiseS, varE, cE, op2, andT, orT, notT, notE, ifE, nilA, consA, tupE, lstE, asDs_nil, asDs_cons, asDs_map, callE, callX, bltE, one, truE, sliceE, noO, someO, nameG, tupG, consG, nilG, okIf, negE, bindR_ok, bindR_exc, bindR_err, bindS_ok, bindS_exc, bindS_err, seqR_nx, seqR_ret, seqR_exc, seqR_brk, seqR_cnt, seqR_err, noX_ok, fin_nx, fin_d, fin_exc, fin_scr, eq_str, ne_str, eq_int, ne_int, List.map_cons, List.map_nil, List.cons_append, List.nil_append, List.getElem?_cons_zero, List.getElem?_cons_succ, List.length_cons, List.length_nil, Nat.reduceAdd, Nat.reduceSub, List.replicate_zero, List.replicate_succ, List.set_cons_zero, List.set_cons_succ, List.take_length, Option.bind_some, Bool.not_true, Bool.not_false, if_true, if_false, Bool.false_eq_true, ite_true, ite_false, ite_self, decide_true, decide_false, Nat.zero_le, reduceCtorEq, andE_eq, andK_bl, orE_eq, orK_bl, asB_eq, asK_bl, Option.map_some, sz1, sz2, sz3, sz4, cst1, cst2, cst3]
  rw [new_one (x := .str mode) rfl, bindS_ok, seqR_nx, seqS_eq, forS_eq]
  simp only [seqI, im, funD, funX, funK, env0, retS, retN, exprS, setS, seqS, ifS, asgS, parS, nxS, raiseS, varE, cE, op2, andT, orT, notT, notE, ifE, nilA, consA, tupE, lstE, asDs_nil, asDs_cons, asDs_map, callE, callX, bltE, one, truE, sliceE, noO, someO, nameG, tupG, consG, nilG, okIf, negE, bindR_ok, bindR_exc, bindR_err, bindS_ok, bindS_exc, bindS_err, seqR_nx, seqR_ret, seqR_exc, seqR_brk, seqR_cnt, seqR_err, noX_ok, fin_nx, fin_d, fin_exc, fin_scr, eq_str, ne_str, eq_int, ne_int, List.map_cons, List.map_nil, List.cons_append, List.nil_append, List.getElem?_cons_zero, List.getElem?_cons_succ, List.length_cons, List.length_nil, Nat.reduceAdd, Nat.reduceSub, List.replicate_zero, List.replicate_succ, List.set_cons_zero, List.set_cons_succ, List.take_length, Option.bind_some, Bool.not_true, Bool.not_false, if_true, if_false, Bool.false_eq_true, ite_true, ite_false, ite_self, decide_true, decide_false, Nat.zero_le, reduceCtorEq, andE_eq, andK_bl, orE_eq, orK_bl, asB_eq, asK_bl, Option.map_some, sz1, sz2, sz3, sz4, cst1, cst2, cst3]
  have r := run rs [mode] hr (by simp; omega)
  unfold bodyPc at r
  rw [show ([some (Cell.lst [Val.d (D.str mode)])] : Store) = [cellS [mode]] from rfl, r]
  simp only [funD, funX, funK, env0, retS, retN, exprS, setS, seqS, ifS, asgS, parS, nxS, raiseS, varE, cE, op2, andT, orT, notT, notE, ifE, nilA, consA, tupE, lstE, asDs_nil, asDs_cons, asDs_map, callE, callX, bltE, one, truE, sliceE, noO, someO, nameG, tupG, consG, nilG, okIf, negE, bindR_ok, bindR_exc, bindR_err, bindS_ok, bindS_exc, bindS_err, seqR_nx, seqR_ret, seqR_exc, seqR_brk, seqR_cnt, seqR_err, noX_ok, fin_nx, fin_d, fin_exc, fin_scr, eq_str, ne_str, eq_int, ne_int, List.map_cons, List.map_nil, List.cons_append, List.nil_append, List.getElem?_cons_zero, List.getElem?_cons_succ, List.length_cons, List.length_nil, Nat.reduceAdd, Nat.reduceSub, List.replicate_zero, List.replicate_succ, List.set_cons_zero, List.set_cons_succ, List.take_length, Option.bind_some, Bool.not_true, Bool.not_false, if_true, if_false, Bool.false_eq_true, ite_true, ite_false, ite_self, decide_true, decide_false, Nat.zero_le, reduceCtorEq, andE_eq, andK_bl, orE_eq, orK_bl, asB_eq, asK_bl, Option.map_some, sz1, sz2, sz3, sz4, cst1, cst2, cst3]
  unfold cellS
  rw [fin_new]
  simp only [funD, funX, funK, env0, retS, retN, exprS, setS, seqS, ifS, asgS, parS, nxS, raiseS, varE, cE, op2, andT, orT, notT, notE, ifE, nilA, consA, tupE, lstE, asDs_nil, asDs_cons, asDs_map, callE, callX, bltE, one, truE, sliceE, noO, someO, nameG, tupG, consG, nilG, okIf, negE, bindR_ok, bindR_exc, bindR_err, bindS_ok, bindS_exc, bindS_err, seqR_nx, seqR_ret, seqR_exc, seqR_brk, seqR_cnt, seqR_err, noX_ok, fin_nx, fin_d, fin_exc, fin_scr, eq_str, ne_str, eq_int, ne_int, List.map_cons, List.map_nil, List.cons_append, List.nil_append, List.getElem?_cons_zero, List.getElem?_cons_succ, List.length_cons, List.length_nil, Nat.reduceAdd, Nat.reduceSub, List.replicate_zero, List.replicate_succ, List.set_cons_zero, List.set_cons_succ, List.take_length, Option.bind_some, Bool.not_true, Bool.not_false, if_true, if_false, Bool.false_eq_true, ite_true, ite_false, ite_self, decide_true, decide_false, Nat.zero_le, reduceCtorEq, andE_eq, andK_bl, orE_eq, orK_bl, asB_eq, asK_bl, Option.map_some, sz1, sz2, sz3, sz4, cst1, cst2, cst3]
def bodyTt : SS := (seqS (setS 5 (ifE (truE (varE 4)) (tm1E joinV (cE (.str (" " : Str))) (lcE (seqI (varE 4)) (nameG 6) yesT (callE (F_part_text 12) (consA (varE 6) nilA)) [6])) (cE (.str ("-" : Str))))) (exprS (appendE (varE 1) (op2 addV (op2 addV (op2 addV (op2 addV (varE 2) (cE (.str (" " : Str)))) (ifE (truE (varE 3)) (varE 3) (cE (.str ("#" : Str))))) (cE (.str (" " : Str)))) (varE 5)))))
theorem f_turning {rs : List Rl} {mode : Str} (st : Store) (hr : ∀ r ∈ rs, RuleOK r) (hl : rs.length ≤ 12) (hj : ((mode :: rs.map pieceS).map (·.length)).sum + (mode :: rs.map pieceS).length * (S [44, 32]).length ≤ 16777216) : F_turning_text [.d (turnD rs mode)] st = .ok (.d (.str (Txt.join (S [44, 32]) (mode :: rs.map pieceS)))) st := by
  have step : ∀ (r : Rl) (ys : List Str), RuleOK r → ys.length ≤ 100 → bodyTt [some (.d (turnD rs mode)), some (.ref st.length), some (.d (.str (S r.1))), some (.d (.str (S r.2.1))), some (.d (.tup (toDs r.2.2))), none, none] (st ++ [cellS ys]) = .nx [some (.d (turnD rs mode)), some (.ref st.length), some (.d (.str (S r.1))), some (.d (.str (S r.2.1))), some (.d (.tup (toDs r.2.2))), some (.d (.str (S (wordsT r.2.2)))), none] (st ++ [cellS (ys ++ [pieceS r])]) := by
    intro r ys h hy
    obtain ⟨o1, o2, o3, o4, o5, o6, o7⟩ := h.ok
    have w1 := words_len r.2.2
    have w2 := ltT_len r.2.1
    have h2 : ∀ p ∈ r.2.2, okP 12 r.2.1 p = true := by
      have : okPs (12 + 1) r.2.1 r.2.2 = true := ok_le (by omega) o1
      have q : r.2.2.length ≤ 30 ∧ ∀ p ∈ r.2.2, okP 12 r.2.1 p = true := by simpa [okPs] using this
      exact q.2
    have lc : lcL (nameG 6) yesT (callE (F_part_text 12) (consA (varE 6) nilA)) [some (.d (turnD rs mode)), some (.ref st.length), some (.d (.str (S r.1))), some (.d (.str (S r.2.1))), some (.d (.tup (toDs r.2.2))), none, none] ((toDs r.2.2).map Val.d) [] (st ++ [cellS ys]) = .ok ((r.2.2.map fun p => S (txt p)).map D.str) (st ++ [cellS ys]) := by
      have := lc_mapP (g := nameG 6) (f := callE (F_part_text 12) (consA (varE 6) nilA)) (ρ0 := [some (.d (turnD rs mode)), some (.ref st.length), some (.d (.str (S r.1))), some (.d (.str (S r.2.1))), some (.d (.tup (toDs r.2.2))), none, none]) (st := st ++ [cellS ys]) (fun p => Val.d (toD p)) (fun p => D.str (S (txt p))) r.2.2 [] (fun p hp => ⟨_, rfl, by
        have := len_mem' r.2.2 p hp
        simp only [f_part_text 12 r.2.1 p (st ++ [cellS ys]) (h2 p hp) (by omega), funD, funX, funK, env0, retS, retN, exprS, setS, seqS, ifS, asgS, parS, nxS, raiseS, varE, cE, op2, andT, orT, notT, notE, ifE, nilA, consA, tupE, lstE, asDs_nil, asDs_cons, asDs_map, callE, callX, bltE, one, truE, sliceE, noO, someO, nameG, tupG, consG, nilG, okIf, negE, bindR_ok, bindR_exc, bindR_err, bindS_ok, bindS_exc, bindS_err, seqR_nx, seqR_ret, seqR_exc, seqR_brk, seqR_cnt, seqR_err, noX_ok, fin_nx, fin_d, fin_exc, fin_scr, eq_str, ne_str, eq_int, ne_int, List.map_cons, List.map_nil, List.cons_append, List.nil_append, List.getElem?_cons_zero, List.getElem?_cons_succ, List.length_cons, List.length_nil, Nat.reduceAdd, Nat.reduceSub, List.replicate_zero, List.replicate_succ, List.set_cons_zero, List.set_cons_succ, List.take_length, Option.bind_some, Bool.not_true, Bool.not_false, if_true, if_false, Bool.false_eq_true, ite_true, ite_false, ite_self, decide_true, decide_false, Nat.zero_le, reduceCtorEq, andE_eq, andK_bl, orE_eq, orK_bl, asB_eq, asK_bl, Option.map_some, sz1, sz2, sz3, sz4, cst1, cst2, cst3]⟩) (by simp; exact small_size (by omega))
      have e1 : (toDs r.2.2).map Val.d = r.2.2.map fun p => Val.d (toD p) := by rw [toDs_map, List.map_map]; rfl
      have e2 : (r.2.2.map fun p => S (txt p)).map D.str = r.2.2.map fun p => D.str (S (txt p)) := by rw [List.map_map]; rfl
      rw [e1, e2]
      rw [List.nil_append] at this
      exact this
    have e5 : ifE (truE (varE 4)) (tm1E joinV (cE (.str (" " : Str))) (lcE (seqI (varE 4)) (nameG 6) yesT (callE (F_part_text 12) (consA (varE 6) nilA)) [6])) (cE (.str ("-" : Str))) [some (.d (turnD rs mode)), some (.ref st.length), some (.d (.str (S r.1))), some (.d (.str (S r.2.1))), some (.d (.tup (toDs r.2.2))), none, none] (st ++ [cellS ys]) = .ok (.d (.str (S (wordsT r.2.2)))) (st ++ [cellS ys]) := by
      have em : (toDs r.2.2).isEmpty = r.2.2.isEmpty := by rw [toDs_map]; cases r.2.2 <;> rfl
      simp only [truV_tup, em, tm1E, lcE, seqI, itemsOf, forget, c_blank, c_dash, lc, lcK, join_lst (join_small (ps := r.2.2) (by omega) o7), join_txts, wordsT, funD, funX, funK, env0, retS, retN, exprS, setS, seqS, ifS, asgS, parS, nxS, raiseS, varE, cE, op2, andT, orT, notT, notE, ifE, nilA, consA, tupE, lstE, asDs_nil, asDs_cons, asDs_map, callE, callX, bltE, one, truE, sliceE, noO, someO, nameG, tupG, consG, nilG, okIf, negE, bindR_ok, bindR_exc, bindR_err, bindS_ok, bindS_exc, bindS_err, seqR_nx, seqR_ret, seqR_exc, seqR_brk, seqR_cnt, seqR_err, noX_ok, fin_nx, fin_d, fin_exc, fin_scr, eq_str, ne_str, eq_int, ne_int, List.map_cons, List.map_nil, List.cons_append, List.nil_append, List.getElem?_cons_zero, List.getElem?_cons_succ, List.length_cons, List.length_nil, Nat.reduceAdd, Nat.reduceSub, List.replicate_zero, List.replicate_succ, List.set_cons_zero, List.set_cons_succ, List.take_length, Option.bind_some, Bool.not_true, Bool.not_false, if_true, if_false, Bool.false_eq_true, ite_true, ite_false, ite_self, decide_true, decide_false, Nat.zero_le, reduceCtorEq, andE_eq, andK_bl, orE_eq, orK_bl, asB_eq, asK_bl, Option.map_some, sz1, sz2, sz3, sz4, cst1, cst2, cst3]
      cases r.2.2.isEmpty <;> simp only [Bool.not_true, Bool.not_false, if_true, if_false, Bool.false_eq_true]
    have e3 : ifE (truE (varE 3)) (varE 3) (cE (.str ("#" : Str))) [some (.d (turnD rs mode)), some (.ref st.length), some (.d (.str (S r.1))), some (.d (.str (S r.2.1))), some (.d (.tup (toDs r.2.2))), some (.d (.str (S (wordsT r.2.2)))), none] (st ++ [cellS ys]) = .ok (.d (.str (S (ltT r.2.1)))) (st ++ [cellS ys]) := by
      simp only [truV_S (a := r.2.1) (by omega), c_hash, ltT, funD, funX, funK, env0, retS, retN, exprS, setS, seqS, ifS, asgS, parS, nxS, raiseS, varE, cE, op2, andT, orT, notT, notE, ifE, nilA, consA, tupE, lstE, asDs_nil, asDs_cons, asDs_map, callE, callX, bltE, one, truE, sliceE, noO, someO, nameG, tupG, consG, nilG, okIf, negE, bindR_ok, bindR_exc, bindR_err, bindS_ok, bindS_exc, bindS_err, seqR_nx, seqR_ret, seqR_exc, seqR_brk, seqR_cnt, seqR_err, noX_ok, fin_nx, fin_d, fin_exc, fin_scr, eq_str, ne_str, eq_int, ne_int, List.map_cons, List.map_nil, List.cons_append, List.nil_append, List.getElem?_cons_zero, List.getElem?_cons_succ, List.length_cons, List.length_nil, Nat.reduceAdd, Nat.reduceSub, List.replicate_zero, List.replicate_succ, List.set_cons_zero, List.set_cons_succ, List.take_length, Option.bind_some, Bool.not_true, Bool.not_false, if_true, if_false, Bool.false_eq_true, ite_true, ite_false, ite_self, decide_true, decide_false, Nat.zero_le, reduceCtorEq, andE_eq, andK_bl, orE_eq, orK_bl, asB_eq, asK_bl, Option.map_some, sz1, sz2, sz3, sz4, cst1, cst2, cst3]
      by_cases e : r.2.1 = [] <;> simp only [e, decide_true, decide_false, Bool.not_true, Bool.not_false, if_true, if_false, Bool.false_eq_true]
    have ap := aps (i := 1) (ρ := [some (.d (turnD rs mode)), some (.ref st.length), some (.d (.str (S r.1))), some (.d (.str (S r.2.1))), some (.d (.tup (toDs r.2.2))), some (.d (.str (S (wordsT r.2.2)))), none]) (st := st) (ys := ys) (z := pieceS r) rfl (add_piece (m := r.1) (f1 := varE 2) (f3 := varE 5) rfl e3 rfl (by omega)) (by omega)
    unfold bodyTt
    rw [seqS_eq]
    unfold setS exprS
    rw [e5, bindS_ok, seqR_nx]
    show bindS _ (appendE (varE 1) _ [some (.d (turnD rs mode)), some (.ref st.length), some (.d (.str (S r.1))), some (.d (.str (S r.2.1))), some (.d (.tup (toDs r.2.2))), some (.d (.str (S (wordsT r.2.2)))), none] _) _ = _
    rw [ap]
    rfl
  have run : ∀ (qs : List Rl) (ys : List Str), (∀ r ∈ qs, RuleOK r) → ys.length + qs.length ≤ 100 → forL (tupG (consG (nameG 2) (consG (nameG 3) (consG (nameG 4) nilG)))) bodyTt [2, 3, 4, 5] (qs.map fun r => Val.d (rD r)) [some (.d (turnD rs mode)), some (.ref st.length), none, none, none, none, none] (st ++ [cellS ys]) = .nx [some (.d (turnD rs mode)), some (.ref st.length), none, none, none, none, none] (st ++ [cellS (ys ++ qs.map pieceS)]) := by
    intro qs
    induction qs with
    | nil => intro ys _ _; simp [forL]
    | cons r qs ih =>
      intro ys hq hL
      rw [List.length_cons] at hL
      have s1 := step r ys (hq r List.mem_cons_self) (by omega)
      have gd : tupG (consG (nameG 2) (consG (nameG 3) (consG (nameG 4) nilG))) (Val.d (rD r)) [some (.d (turnD rs mode)), some (.ref st.length), none, none, none, none, none] = some [some (.d (turnD rs mode)), some (.ref st.length), some (.d (.str (S r.1))), some (.d (.str (S r.2.1))), some (.d (.tup (toDs r.2.2))), none, none] := rfl
      simp only [List.map_cons, forL, gd, s1, loopR_nx, forget, List.set_cons_zero, List.set_cons_succ]
      rw [ih (ys ++ [pieceS r]) (fun x hx => hq x (List.mem_cons_of_mem _ hx)) (by rw [List.length_append, List.length_singleton]; omega)]
      simp
  have im : itemsOf (.d (.tup (rs.map rD))) = some (rs.map fun r => Val.d (rD r)) := by
    simp only [itemsOf, List.map_map]
    rfl
  have fm : ∀ (ρ : DL.Env) (s : Store), ρ[0]? = some (some (Val.d (turnD rs mode))) → fldE ("Turning" : Str) ("mode" : Str) (varE 0) ρ s = .ok (.d (.str mode)) s := fun ρ s h => by
    unfold fldE varE
    rw [h]
    rfl
  have fr : ∀ (ρ : DL.Env) (s : Store), ρ[0]? = some (some (Val.d (turnD rs mode))) → fldE ("Turning" : Str) ("rules" : Str) (varE 0) ρ s = .ok (.d (.tup (rs.map rD))) s := fun ρ s h => by
    unfold fldE varE
    rw [h]
    rfl
  unfold F_turning_text g_turning_text
  simp only [N_turning_text, funD, funX, funK, env0, retS, retN, exprS, setS, seqS, ifS, asgS, parS, nxS, raiseS, varE, cE, op2, andT, orT, notT, notE, ifE, nilA, consA, tupE, lstE, asDs_nil, asDs_cons, asDs_map, callE, callX, bltE, one, truE, sliceE, noO, someO, nameG, tupG, consG, nilG, okIf, negE, bindR_ok, bindR_exc, bindR_err, bindS_ok, bindS_exc, bindS_err, seqR_nx, seqR_ret, seqR_exc, seqR_brk, seqR_cnt, seqR_err, noX_ok, fin_nx, fin_d, fin_exc, fin_scr, eq_str, ne_str, eq_int, ne_int, List.map_cons, List.map_nil, List.cons_append, List.nil_append, List.getElem?_cons_zero, List.getElem?_cons_succ, List.length_cons, List.length_nil, Nat.reduceAdd, Nat.reduceSub, List.replicate_zero, List.replicate_succ, List.set_cons_zero, List.set_cons_succ, List.take_length, Option.bind_some, Bool.not_true, Bool.not_false, if_true, if_false, Bool.false_eq_true, ite_true, ite_false, ite_self, decide_true, decide_false, Nat.zero_le, reduceCtorEq, andE_eq, andK_bl, orE_eq, orK_bl, asB_eq, asK_bl, Option.map_some, sz1, sz2, sz3, sz4, cst1, cst2, cst3]
  rw [new_one (x := .str mode) (fm _ _ rfl), bindS_ok, seqR_nx, seqS_eq, forS_eq]
  unfold seqI
  rw [fr _ _ rfl, bindR_ok]
  simp only [im, bindS_ok]
  have r := run rs [mode] hr (by simp; omega)
  unfold bodyTt at r
  rw [show ([some (Cell.lst [Val.d (D.str mode)])] : Store) = [cellS [mode]] from rfl]
  have jn : joinV (S [44, 32]) (.ref st.length) (st ++ [cellS (mode :: rs.map pieceS)]) = .ok (.d (.str (Txt.join (S [44, 32]) (mode :: rs.map pieceS)))) (st ++ [cellS (mode :: rs.map pieceS)]) := join_ref (ys := mode :: rs.map pieceS) at_new hj
  refine Eq.trans (congrArg (fun z => noX (fin st.length (seqR z _))) r) ?_
  simp only [tm1E, c_sep, jn, List.take_left, funD, funX, funK, env0, retS, retN, exprS, setS, seqS, ifS, asgS, parS, nxS, raiseS, varE, cE, op2, andT, orT, notT, notE, ifE, nilA, consA, tupE, lstE, asDs_nil, asDs_cons, asDs_map, callE, callX, bltE, one, truE, sliceE, noO, someO, nameG, tupG, consG, nilG, okIf, negE, bindR_ok, bindR_exc, bindR_err, bindS_ok, bindS_exc, bindS_err, seqR_nx, seqR_ret, seqR_exc, seqR_brk, seqR_cnt, seqR_err, noX_ok, fin_nx, fin_d, fin_exc, fin_scr, eq_str, ne_str, eq_int, ne_int, List.map_cons, List.map_nil, List.cons_append, List.nil_append, List.getElem?_cons_zero, List.getElem?_cons_succ, List.length_cons, List.length_nil, Nat.reduceAdd, Nat.reduceSub, List.replicate_zero, List.replicate_succ, List.set_cons_zero, List.set_cons_succ, List.take_length, Option.bind_some, Bool.not_true, Bool.not_false, if_true, if_false, Bool.false_eq_true, ite_true, ite_false, ite_self, decide_true, decide_false, Nat.zero_le, reduceCtorEq, andE_eq, andK_bl, orE_eq, orK_bl, asB_eq, asK_bl, Option.map_some, sz1, sz2, sz3, sz4, cst1, cst2, cst3]
end K50
end

section
set_option Elab.async false
set_option linter.all false
set_option autoImplicit false
set_option maxRecDepth 100000
set_option maxHeartbeats 4000000
/-! KP16: split of the joined pieces; good pieces are read, the first bad one is told (plain). -/
namespace K50
open PySem DL
theorem free_pre {p : T} (h : freeT p = true) (rest : T) : ∀ i, i < p.length → TL.pre [44, 32] ((p ++ ([44, 32] ++ rest)).drop i) = false := by
  intro i hi
  unfold freeT at h
  rw [List.all_eq_true] at h
  have q := h i (List.mem_range.mpr hi)
  have e : ((p ++ ([44, 32] ++ rest)).drop i).take 2 = ((p ++ [44, 32]).drop i).take 2 := by
    rw [← List.append_assoc, List.drop_append_of_le_length (by simp; omega), List.take_append_of_le_length (by simp; omega)]
  unfold TL.pre
  show (((p ++ ([44, 32] ++ rest)).drop i).take 2 == [44, 32]) = false
  rw [e]
  have : ¬ ((p ++ [44, 32]).drop i).take 2 = [44, 32] := by
    intro z
    rw [z] at q
    simp at q
  exact beq_eq_false_iff_ne.mpr this
theorem free_last {p : T} (h : freeT p = true) : ∀ i, i < p.length → TL.pre [44, 32] (p.drop i) = false := by
  intro i hi
  unfold freeT at h
  rw [List.all_eq_true] at h
  have q := h i (List.mem_range.mpr hi)
  unfold TL.pre
  show ((p.drop i).take 2 == [44, 32]) = false
  refine beq_eq_false_iff_ne.mpr fun z => ?_
  by_cases c : i + 2 ≤ p.length
  · have e : ((p ++ [44, 32]).drop i).take 2 = (p.drop i).take 2 := by
      rw [List.drop_append_of_le_length (by omega), List.take_append_of_le_length (by simp; omega)]
    rw [e, z] at q
    simp at q
  · have : ((p.drop i).take 2).length = 2 := by rw [z]; rfl
    rw [List.length_take, List.length_drop] at this
    omega
theorem spl_free : ∀ (ps : List T), ps ≠ [] → (∀ p ∈ ps, freeT p = true) → TL.spl [44, 32] 0 [] (TL.joinL [44, 32] ps) = ps
  | [], h, _ => absurd rfl h
  | [p], _, hp => by
    show TL.spl [44, 32] 0 [] p = [p]
    rw [TL.spl_last (free_last (hp p List.mem_cons_self)), List.nil_append]
  | p :: q :: r, _, hp => by
    show TL.spl [44, 32] 0 [] (p ++ ([44, 32] ++ TL.joinL [44, 32] (q :: r))) = p :: q :: r
    rw [TL.spl_part (by simp) (free_pre (hp p List.mem_cons_self) _), List.nil_append, spl_free (q :: r) (by simp) fun z hz => hp z (List.mem_cons_of_mem _ hz)]
theorem split_free (ps : List T) (h : ps ≠ []) (hp : ∀ p ∈ ps, freeT p = true) : Txt.split (Txt.join (S [44, 32]) (ps.map S)) (S [44, 32]) = ps.map S := by
  refine TL.map_tl_inj ?_
  have hy : TL.tl (S [44, 32]) = [44, 32] := S_cps _
  rw [TL.split_spl _ _ (by rw [hy]; simp) (TL.kind_ok (by decide +kernel)), TL.join_eq, TL.tl_join, hy]
  have e : (ps.map S).map TL.tl = ps := by
    rw [List.map_map]
    have : (TL.tl ∘ S) = id := funext fun p => S_cps p
    rw [this, List.map_id]
  rw [e]
  exact spl_free ps h hp
/-- no comma at all -/
theorem free_of_no {p : T} (h : 44 ∉ p) : freeT p = true := by
  unfold freeT
  rw [List.all_eq_true]
  intro i hi
  have hi' := List.mem_range.mp hi
  have e : (p ++ [44, 32]).drop i = p[i] :: (p ++ [44, 32]).drop (i + 1) := by
    rw [List.drop_eq_getElem_cons (by simp; omega), List.getElem_append_left hi']
  rw [e]
  have : ¬ (p[i] :: (p ++ [44, 32]).drop (i + 1)).take 2 = [44, 32] := by
    intro z
    rw [List.take_succ_cons] at z
    have := (List.cons.inj z).1
    exact h (this ▸ List.getElem_mem hi')
  rw [decide_eq_false this]
  rfl
theorem sgn_no : ∀ c ∈ sgnL, c ≠ 44 := by decide
theorem txt_no : ∀ n : Nat, (∀ (l : T) (p : Part), okP n l p = true → 44 ∉ txt p) ∧ (∀ (l : T) (ps : List Part), okPs n l ps = true → 44 ∉ txts ps ∧ 44 ∉ tailT ps)
  | 0 => ⟨fun l p h => by simp [okP] at h, fun l ps h => by simp [okPs] at h⟩
  | n + 1 => by
    obtain ⟨i1, i2⟩ := txt_no n
    have sm : ∀ w : T, nameB w = true → 44 ∉ w := fun w h z => by
      have := small_ok ((nameB_ok h).2.2 44 z)
      omega
    refine ⟨fun l p h => ?_, fun l ps h => ?_⟩
    · cases p with
      | keep => simp [txt]
      | say w =>
        have h' : textB w = true := by simpa [okP] using h
        have : 44 ∉ w := fun z => sgn_no 44 ((textB_ok h').2 44 z) rfl
        simp [txt, this]
      | go w =>
        have h' : (!decide (l = []) && nameB w) = true := by simpa [okP] using h
        rw [Bool.and_eq_true] at h'
        simp [txt, sm w h'.2]
      | node w ps =>
        have h' : nameB w = true ∧ okPs n l ps = true := by simpa [okP] using h
        simp [txt, sm w h'.1, (i2 l ps h'.2).1]
    · have h' : ps.length ≤ 30 ∧ ∀ p ∈ ps, okP n l p = true := by simpa [okPs] using h
      have tl_ : ∀ qs : List Part, (∀ p ∈ qs, okP n l p = true) → 44 ∉ tailT qs := by
        intro qs
        induction qs with
        | nil => intro _; simp [tailT]
        | cons q qs ih =>
          intro hq
          have a := i1 l q (hq q List.mem_cons_self)
          have b := ih fun r hr => hq r (List.mem_cons_of_mem _ hr)
          simp [tailT, a, b]
      refine ⟨?_, tl_ ps h'.2⟩
      cases ps with
      | nil => simp [txts]
      | cons q qs =>
        have a := i1 l q (h'.2 q List.mem_cons_self)
        have b := tl_ qs fun r hr => h'.2 r (List.mem_cons_of_mem _ hr)
        simp [txts, a, b]
theorem mds_no : ∀ s ∈ MDS, 44 ∉ s.cps.toList := by decide +kernel
theorem lts_no : ∀ s ∈ LTS, 44 ∉ s.cps.toList := by decide +kernel
theorem piece_free {r : Rl} (h : RuleOK r) : freeT (pieceT r.1 r.2.1 r.2.2) = true := by
  apply free_of_no
  have a := mds_no _ h.m
  have b := lts_no _ h.l
  rw [S_cps] at a b
  have c := ((txt_no 12).2 r.2.1 r.2.2 h.ok.1).1
  have d : 44 ∉ ltT r.2.1 := by
    unfold ltT
    split
    · simp
    · exact b
  have e : 44 ∉ wordsT r.2.2 := by
    unfold wordsT
    split
    · simp
    · exact c
  unfold pieceT
  simp [a, d, e]
/-! ### the run over good pieces -/
def lt_ (a b : Rl) : Prop := le2 b a = false
theorem loop_good (rest : List T) : ∀ (qs : List Rl) (i : Nat) (acc : List Rl), (∀ q ∈ qs, RuleOK q) → (acc ++ qs).Pairwise lt_ → loopT i acc ((qs.map fun q => pieceT q.1 q.2.1 q.2.2) ++ rest) = loopT (i + qs.length) (acc ++ qs) rest
  | [], i, acc, _, _ => by simp
  | q :: qs, i, acc, hq, hp => by
    obtain ⟨o1, o2, o3, o4, o5, o6, o7⟩ := (hq q List.mem_cons_self).ok
    have hr := rule_back o2 o3 o1 (Nat.le_trans (piece_len (hq q List.mem_cons_self)) (by omega))
    simp only [List.map_cons, List.cons_append, loopT, hr]
    have nx := loop_good rest qs (i + 1) (acc ++ [q]) (fun r hr => hq r (List.mem_cons_of_mem _ hr)) (by simpa using hp)
    have fin_ : loopT (i + 1) (acc ++ [(q.1, q.2.1, q.2.2)]) ((qs.map fun q => pieceT q.1 q.2.1 q.2.2) ++ rest) = loopT (i + (q :: qs).length) (acc ++ q :: qs) rest := by
      rw [show (q.1, q.2.1, q.2.2) = q from rfl, nx]
      simp [Nat.add_assoc, Nat.add_comm 1]
    rcases List.eq_nil_or_concat acc with rfl | ⟨acc', s, rfl⟩
    · simp only [List.getLast?_nil, Bool.false_eq_true, if_false]
      exact fin_
    · rw [List.concat_eq_append] at hp fin_ ⊢
      have c : le2 (q.1, q.2.1, q.2.2) s = false := (List.pairwise_append.mp hp).2.2 s (by simp) q List.mem_cons_self
      simp only [List.getLast?_append, List.getLast?_singleton, Option.some_or, c, Bool.false_eq_true, if_false]
      exact fin_
def pairB (f : List Str) (j : Nat) (ns : List Str) : Bool := decide ((prod (f.take j) (("" : Str) :: ns)).Pairwise fun a b => lePair b.1 b.2 a.1 a.2 = false)
theorem pair_ok : ∀ f ∈ ML3, ∀ j ∈ [1, 2, 3], ∀ ns ∈ NAMEL, pairB f j ns = true := by decide +kernel
theorem asc_ok {f : List Str} {j : Nat} {ns : List Str} {rs : List Rl} (hf : f ∈ ML3) (h1 : 1 ≤ j) (h2 : j ≤ 3) (hn : ns ∈ NAMEL) (hs : (rs.map hd).Sublist (prod (f.take j) (("" : Str) :: ns))) : rs.Pairwise lt_ := by
  have hj : j ∈ [1, 2, 3] := by
    have : j = 1 ∨ j = 2 ∨ j = 3 := by omega
    simpa using this
  have q := of_decide_eq_true (pair_ok f hf j hj ns hn)
  have q2 := q.sublist hs
  rw [List.pairwise_map] at q2
  exact q2
end K50
end

section
set_option Elab.async false
set_option linter.all false
set_option autoImplicit false
set_option maxRecDepth 100000
set_option maxHeartbeats 4000000
/-! KP17: what _law_told answers to joined pieces. -/
namespace K50
open PySem DL
theorem joinL_len : ∀ ps : List T, (∀ p ∈ ps, p.length ≤ 1000) → (TL.joinL [44, 32] ps).length ≤ 1002 * ps.length
  | [], _ => by simp [TL.joinL]
  | [p], h => by
    have := h p List.mem_cons_self
    simp [TL.joinL]
    omega
  | p :: q :: r, h => by
    have a := h p List.mem_cons_self
    have b := joinL_len (q :: r) fun z hz => h z (List.mem_cons_of_mem _ hz)
    simp only [TL.joinL, List.length_append, List.length_cons, List.length_nil] at b ⊢
    omega
structure Fit (z : Str) : Prop where
  free : freeT z.cps.toList = true
  few : z.length ≤ 1000
theorem told_gen {z : Str} {zs : List Str} (hf : ∀ x ∈ z :: zs, Fit x) (hl : zs.length ≤ 50) (he : readT ((z :: zs).map fun x => x.cps.toList) ≠ .err) (st : Store) :
    F_read_turning [.d (.str (Txt.join (S [44, 32]) (z :: zs)))] st = toTR z.cps.toList (readT ((z :: zs).map fun x => x.cps.toList)) st := by
  have e1 : ((z :: zs).map fun x => x.cps.toList).map S = z :: zs := by
    rw [List.map_map]
    have : (S ∘ fun x : Str => x.cps.toList) = id := funext fun x => S_of x
    rw [this, List.map_id]
  have sp := split_free ((z :: zs).map fun x => x.cps.toList) (by simp) (fun p hp => by
    obtain ⟨x, hx, rfl⟩ := List.mem_map.mp hp
    exact (hf x hx).free)
  rw [e1] at sp
  have hlen : (Txt.join (S [44, 32]) (z :: zs)).cps.toList.length ≤ 100000 := by
    have q : TL.tl (Txt.join (S [44, 32]) (z :: zs)) = TL.joinL [44, 32] ((z :: zs).map TL.tl) := by
      rw [TL.join_eq, TL.tl_join]
      congr 1
    show (TL.tl (Txt.join (S [44, 32]) (z :: zs))).length ≤ 100000
    rw [q]
    have := joinL_len ((z :: zs).map TL.tl) (fun p hp => by
      obtain ⟨x, hx, rfl⟩ := List.mem_map.mp hp
      have := (hf x hx).few
      rw [TL.len_tl] at this
      exact this)
    rw [List.length_map, List.length_cons] at this
    omega
  have main := f_read_turning (z := (Txt.join (S [44, 32]) (z :: zs)).cps.toList) (p := z.cps.toList) (rest := zs.map fun x : Str => x.cps.toList) st hlen (by
    rw [S_of, sp]
    show z :: zs = (z.cps.toList :: zs.map fun x => x.cps.toList).map S
    exact e1.symm) (by have := (hf z List.mem_cons_self).few; rw [TL.len_tl] at this; exact this) (by rw [List.length_map]; omega) he
  rw [S_of] at main
  exact main
theorem told_bad {z : Str} {zs : List Str} {i : Nat} (hf : ∀ x ∈ z :: zs, Fit x) (hl : zs.length ≤ 50) (he : readT ((z :: zs).map fun x => x.cps.toList) = .bad i) (st : Store) :
    F__law_told [.d (.str (Txt.join (S [44, 32]) (z :: zs)))] st = .ok (.d (dErr (i : Int))) st := by
  have := told_gen hf hl (by rw [he]; intro c; cases c) st
  rw [he] at this
  exact f_told_bad this
theorem told_ok {z : Str} {zs : List Str} {rs : List Rl} (hf : ∀ x ∈ z :: zs, Fit x) (hl : zs.length ≤ 50) (he : readT ((z :: zs).map fun x => x.cps.toList) = .ok rs) (st : Store) :
    F__law_told [.d (.str (Txt.join (S [44, 32]) (z :: zs)))] st = .ok (.d (turnD rs z)) st := by
  have := told_gen hf hl (by rw [he]; intro c; cases c) st
  rw [he] at this
  simp only [toTR, S_of] at this
  exact f_told this
/-! ### good pieces; a bad one among them -/
theorem piece_fit {r : Rl} (h : RuleOK r) : Fit (pieceS r) := ⟨by unfold pieceS; rw [S_cps]; exact piece_free h, by unfold pieceS; rw [S_len]; exact Nat.le_trans (piece_len h) (by omega)⟩
theorem mode_fit {m : Str} (h : m ∈ MDS) : Fit m := ⟨free_of_no (mds_no m h), by
  have := (mds_ok m h).2
  rw [TL.len_tl]
  show m.cps.toList.length ≤ 1000
  omega⟩
theorem cps_pieces (qs : List Rl) : (qs.map pieceS).map (fun x => x.cps.toList) = qs.map fun q => pieceT q.1 q.2.1 q.2.2 := by
  rw [List.map_map]
  apply List.map_congr_left
  intro q _
  exact S_cps _
theorem good_read {mode : Str} {rs : List Rl} (hm : mode ∈ MDS) (hr : ∀ r ∈ rs, RuleOK r) (hp : rs.Pairwise lt_) : readT ((mode :: rs.map pieceS).map fun x => x.cps.toList) = .ok rs := by
  rw [List.map_cons, cps_pieces]
  unfold readT
  simp only [(mds_ok mode hm).1, if_true]
  have := loop_good [] rs 1 [] hr (by simpa using hp)
  rw [List.append_nil] at this
  rw [this]
  simp [loopT]
theorem good_told {mode : Str} {rs : List Rl} (hm : mode ∈ MDS) (hr : ∀ r ∈ rs, RuleOK r) (hp : rs.Pairwise lt_) (hl : rs.length ≤ 12) (st : Store) : F__law_told [.d (.str (Txt.join (S [44, 32]) (mode :: rs.map pieceS)))] st = .ok (.d (turnD rs mode)) st :=
  told_ok (fun x hx => by
    rcases List.mem_cons.mp hx with rfl | hx
    · exact mode_fit hm
    · obtain ⟨r, h, rfl⟩ := List.mem_map.mp hx
      exact piece_fit (hr r h)) (by rw [List.length_map]; omega) (good_read hm hr hp) st
/-- what a bad piece behind the rules qs is -/
def badB (qs : List Rl) (b : Str) : Prop := rrule b.cps.toList = .no ∨ ∃ m l ps s, rrule b.cps.toList = .rule m l ps ∧ qs.getLast? = some s ∧ le2 (m, l, ps) s = true
theorem bad_told {mode : Str} {qs : List Rl} {b : Str} {later : List Str} (hm : mode ∈ MDS) (hr : ∀ r ∈ qs, RuleOK r) (hp : qs.Pairwise lt_) (hl : qs.length ≤ 12) (hb : badB qs b) (hbf : Fit b) (hlf : ∀ x ∈ later, Fit x) (hll : later.length ≤ 12) (st : Store) :
    F__law_told [.d (.str (Txt.join (S [44, 32]) (mode :: (qs.map pieceS ++ b :: later))))] st = .ok (.d (dErr ((qs.length + 1 : Nat) : Int))) st := by
  refine told_bad (fun x hx => ?_) (by simp; omega) ?_ st
  · rcases List.mem_cons.mp hx with rfl | hx
    · exact mode_fit hm
    · rcases List.mem_append.mp hx with hx | hx
      · obtain ⟨r, h, rfl⟩ := List.mem_map.mp hx
        exact piece_fit (hr r h)
      · rcases List.mem_cons.mp hx with rfl | hx
        · exact hbf
        · exact hlf x hx
  · rw [List.map_cons, List.map_append, cps_pieces, List.map_cons]
    unfold readT
    simp only [(mds_ok mode hm).1, if_true]
    rw [loop_good _ qs 1 [] hr (by simpa using hp), List.nil_append, Nat.add_comm 1]
    rcases hb with h | ⟨m, l, ps, s, h1, h2, h3⟩
    · simp only [loopT, h]
    · simp only [loopT, h1, h2, h3, if_true]
theorem bad_told0 {b : Str} {later : List Str} (hb : nameB b.cps.toList = false) (hbf : Fit b) (hlf : ∀ x ∈ later, Fit x) (hll : later.length ≤ 12) (st : Store) :
    F__law_told [.d (.str (Txt.join (S [44, 32]) (b :: later)))] st = .ok (.d (dErr 0)) st :=
  told_bad (i := 0) (fun x hx => by
    rcases List.mem_cons.mp hx with rfl | hx
    · exact hbf
    · exact hlf x hx) (by omega) (by unfold readT; simp only [List.map_cons, hb, Bool.false_eq_true, if_false]) st
end K50
end

section
set_option Elab.async false
set_option linter.all false
set_option autoImplicit false
set_option maxRecDepth 100000
set_option maxHeartbeats 4000000
/-! KP18: printed by gen18.py: the wrong pieces as _law_refused lays them. -/
namespace K50
open PySem DL
theorem len_app (x y : Str) : (x ++ y).length = x.length + y.length := by rw [TL.len_tl, TL.tl_append, List.length_append, ← TL.len_tl, ← TL.len_tl]
theorem consA_ok {f : SE} {g : SA} {ρ : DL.Env} {st : Store} {a : Val} {as : List Val} (h1 : f ρ st = .ok a st) (h2 : g ρ st = .ok as st) : consA f g ρ st = .ok (a :: as) st := by
  unfold consA
  rw [h1, bindR_ok, h2, bindR_ok]
theorem lst_ev {ρ : DL.Env} {st : Store} : ∀ (es : List (SE × Str)), (∀ p ∈ es, p.1 ρ st = .ok (.d (.str p.2)) st) → (es.foldr (fun p r => consA p.1 r) nilA) ρ st = .ok (es.map fun p => Val.d (.str p.2)) st
  | [], _ => rfl
  | p :: es, h => by
    have a := h p List.mem_cons_self
    have b := lst_ev es fun q hq => h q (List.mem_cons_of_mem _ hq)
    exact consA_ok a b
theorem lst_ev2 {ρ : DL.Env} {st : Store} (es : List (SE × Str)) (h : ∀ p ∈ es, p.1 ρ st = .ok (.d (.str p.2)) st) (hl : es.length ≤ 1000) : lstE (es.foldr (fun p r => consA p.1 r) nilA) ρ st = .ok (.d (.lst (es.map fun p => .str p.2))) st := by
  unfold lstE
  rw [lst_ev es h, bindR_ok]
  have e : asDs (es.map fun p => Val.d (.str p.2)) = some (es.map fun p => D.str p.2) := by
    have : (es.map fun p => Val.d (.str p.2)) = (es.map fun p => D.str p.2).map Val.d := by rw [List.map_map]; rfl
    rw [this, asDs_map]
  simp only [e]
  exact if_pos (by rw [List.length_map]; exact small_size (by omega))
theorem addY {f g : SE} {x y : Str} {ρ : DL.Env} {st : Store} (h1 : f ρ st = .ok (.d (.str x)) st) (h2 : g ρ st = .ok (.d (.str y)) st) (h : x.length + y.length ≤ 1000) : op2 addV f g ρ st = .ok (.d (.str (x ++ y))) st := by
  unfold op2
  rw [h1, bindR_ok, h2, bindR_ok, add_str (small_size (by omega))]
theorem mulA {ρ : DL.Env} {st : Store} : op2 mulSV (cE (.str ("a" : Str))) (cE (.int 17)) ρ st = .ok (.d (.str (repS ("a" : Str) 17))) st := by
  unfold op2 cE
  rw [bindR_ok, bindR_ok]
  unfold mulSV
  simp only
  rw [if_pos (by decide +kernel)]
  rfl
theorem ifL {ρ : DL.Env} {st : Store} {l : Str} (h : ρ[6]? = some (some (Val.d (.str l)))) (a b : Str) : ifE (asB (op2 (eqV false) (varE 6) (cE (.str ("" : Str))))) (cE (.str a)) (cE (.str b)) ρ st = .ok (.d (.str (if l = ("" : Str) then a else b))) st := by
  simp only [ifE, asB_eq, op2, varE, h, cE, bindR_ok, eq_str, asK_bl]
  by_cases e : l = ("" : Str) <;> simp only [e, decide_true, decide_false, if_true, if_false, Bool.false_eq_true]
theorem body_len : ∀ m ∈ MDS, ∀ l ∈ LTS, (bodyS m l).length ≤ 5 ∧ m.length ≤ 2 := by decide +kernel
theorem rep_len : (repS ("a" : Str) 17).length = 17 := by decide +kernel

theorem ll0 : ("" : Str).length ≤ 13 := by decide +kernel
theorem ll1 : (" " : Str).length ≤ 13 := by decide +kernel
theorem ll2 : (" -" : Str).length ≤ 13 := by decide +kernel
theorem ll3 : ("  -" : Str).length ≤ 13 := by decide +kernel
theorem ll4 : (" - " : Str).length ≤ 13 := by decide +kernel
theorem ll5 : (" -  -" : Str).length ≤ 13 := by decide +kernel
theorem ll6 : (" - -" : Str).length ≤ 13 := by decide +kernel
theorem ll7 : ("A # -" : Str).length ≤ 13 := by decide +kernel
theorem ll8 : (" \"" : Str).length ≤ 13 := by decide +kernel
theorem ll9 : (" \"A\"" : Str).length ≤ 13 := by decide +kernel
theorem ll10 : (" \"a\"\"b\"" : Str).length ≤ 13 := by decide +kernel
theorem ll11 : ("a" : Str).length ≤ 13 := by decide +kernel
theorem ll12 : ("\"" : Str).length ≤ 13 := by decide +kernel
theorem ll13 : (" !" : Str).length ≤ 13 := by decide +kernel
theorem ll14 : (" !A" : Str).length ≤ 13 := by decide +kernel
theorem ll15 : (" x" : Str).length ≤ 13 := by decide +kernel
theorem ll16 : (" x(" : Str).length ≤ 13 := by decide +kernel
theorem ll17 : (" x( )" : Str).length ≤ 13 := by decide +kernel
theorem ll18 : (" x(-)" : Str).length ≤ 13 := by decide +kernel
theorem ll19 : (" x())" : Str).length ≤ 13 := by decide +kernel
theorem ll20 : (" (x())" : Str).length ≤ 13 := by decide +kernel
theorem ll21 : (" ()" : Str).length ≤ 13 := by decide +kernel
theorem ll22 : (" ) (" : Str).length ≤ 13 := by decide +kernel
theorem ll23 : (" X()" : Str).length ≤ 13 := by decide +kernel
theorem ll24 : (" x() " : Str).length ≤ 13 := by decide +kernel
theorem ll25 : ("  x()" : Str).length ≤ 13 := by decide +kernel
theorem ll26 : (" \"\"  \"\"" : Str).length ≤ 13 := by decide +kernel
theorem ll27 : (" !a" : Str).length ≤ 13 := by decide +kernel
theorem ll28 : (" *" : Str).length ≤ 13 := by decide +kernel
theorem ll29 : (" x(!a)" : Str).length ≤ 13 := by decide +kernel
theorem ll30 : (" x(*)" : Str).length ≤ 13 := by decide +kernel
theorem ll31 : ("," : Str).length ≤ 13 := by decide +kernel
theorem ll32 : (" abcdefghi()" : Str).length ≤ 13 := by decide +kernel
theorem wl1 {m l : Str} {ρ : DL.Env} {st : Store} (hm : m ∈ MDS) (hl : l ∈ LTS) (g5 : ρ[5]? = some (some (Val.d (.str m)))) (v6 : ρ[6]? = some (some (Val.d (.str l)))) (g7 : ρ[7]? = some (some (Val.d (.str (bodyS m l))))) : lstE (consA (cE (.str ("" : Str))) (consA (varE 5) (consA (varE 7) (consA (op2 addV (varE 7) (cE (.str (" " : Str)))) (consA (op2 addV (op2 addV (cE (.str (" " : Str))) (varE 7)) (cE (.str (" -" : Str)))) (consA (op2 addV (varE 5) (cE (.str ("  -" : Str)))) (consA (op2 addV (varE 7) (cE (.str (" - " : Str)))) (consA (op2 addV (varE 7) (cE (.str (" -  -" : Str)))) (consA (op2 addV (varE 7) (cE (.str ("  -" : Str)))) (consA (op2 addV (varE 7) (cE (.str (" - -" : Str)))) (consA (cE (.str ("A # -" : Str))) nilA))))))))))) ρ st = .ok (.d (.lst ((wrongs1 m l).map D.str))) st := by
  have hb := (body_len m hm l hl).1
  have hm2 := (body_len m hm l hl).2
  have x0 := ll0
  have x1 := ll1
  have x2 := ll2
  have x3 := ll3
  have x4 := ll4
  have x5 := ll5
  have x6 := ll6
  have x7 := ll7
  have x8 := ll8
  have x9 := ll9
  have x10 := ll10
  have x11 := ll11
  have x12 := ll12
  have x13 := ll13
  have x14 := ll14
  have x15 := ll15
  have x16 := ll16
  have x17 := ll17
  have x18 := ll18
  have x19 := ll19
  have x20 := ll20
  have x21 := ll21
  have x22 := ll22
  have x23 := ll23
  have x24 := ll24
  have x25 := ll25
  have x26 := ll26
  have x27 := ll27
  have x28 := ll28
  have x29 := ll29
  have x30 := ll30
  have x31 := ll31
  have x32 := ll32
  have xr := rep_len
  have v5 : varE 5 ρ st = .ok (.d (.str m)) st := by unfold varE; rw [g5]
  have v7 : varE 7 ρ st = .ok (.d (.str (bodyS m l))) st := by unfold varE; rw [g7]
  exact lst_ev2 [((cE (.str ("" : Str))), ("" : Str)), ((varE 5), m), ((varE 7), (bodyS m l)), ((op2 addV (varE 7) (cE (.str (" " : Str)))), ((bodyS m l) ++ (" " : Str))), ((op2 addV (op2 addV (cE (.str (" " : Str))) (varE 7)) (cE (.str (" -" : Str)))), (((" " : Str) ++ (bodyS m l)) ++ (" -" : Str))), ((op2 addV (varE 5) (cE (.str ("  -" : Str)))), (m ++ ("  -" : Str))), ((op2 addV (varE 7) (cE (.str (" - " : Str)))), ((bodyS m l) ++ (" - " : Str))), ((op2 addV (varE 7) (cE (.str (" -  -" : Str)))), ((bodyS m l) ++ (" -  -" : Str))), ((op2 addV (varE 7) (cE (.str ("  -" : Str)))), ((bodyS m l) ++ ("  -" : Str))), ((op2 addV (varE 7) (cE (.str (" - -" : Str)))), ((bodyS m l) ++ (" - -" : Str))), ((cE (.str ("A # -" : Str))), ("A # -" : Str))] (List.forall_mem_cons.mpr ⟨rfl, List.forall_mem_cons.mpr ⟨v5, List.forall_mem_cons.mpr ⟨v7, List.forall_mem_cons.mpr ⟨(addY v7 rfl (by first | omega | (simp only [len_app]; omega) | (split <;> omega) | (simp only [len_app]; split <;> omega))), List.forall_mem_cons.mpr ⟨(addY (addY rfl v7 (by first | omega | (simp only [len_app]; omega) | (split <;> omega) | (simp only [len_app]; split <;> omega))) rfl (by first | omega | (simp only [len_app]; omega) | (split <;> omega) | (simp only [len_app]; split <;> omega))), List.forall_mem_cons.mpr ⟨(addY v5 rfl (by first | omega | (simp only [len_app]; omega) | (split <;> omega) | (simp only [len_app]; split <;> omega))), List.forall_mem_cons.mpr ⟨(addY v7 rfl (by first | omega | (simp only [len_app]; omega) | (split <;> omega) | (simp only [len_app]; split <;> omega))), List.forall_mem_cons.mpr ⟨(addY v7 rfl (by first | omega | (simp only [len_app]; omega) | (split <;> omega) | (simp only [len_app]; split <;> omega))), List.forall_mem_cons.mpr ⟨(addY v7 rfl (by first | omega | (simp only [len_app]; omega) | (split <;> omega) | (simp only [len_app]; split <;> omega))), List.forall_mem_cons.mpr ⟨(addY v7 rfl (by first | omega | (simp only [len_app]; omega) | (split <;> omega) | (simp only [len_app]; split <;> omega))), List.forall_mem_cons.mpr ⟨rfl, fun _ z => by cases z⟩⟩⟩⟩⟩⟩⟩⟩⟩⟩⟩) (by simp)
theorem wl2 {m l : Str} {ρ : DL.Env} {st : Store} (hm : m ∈ MDS) (hl : l ∈ LTS) (g5 : ρ[5]? = some (some (Val.d (.str m)))) (v6 : ρ[6]? = some (some (Val.d (.str l)))) (g7 : ρ[7]? = some (some (Val.d (.str (bodyS m l))))) : lstE (consA (op2 addV (varE 5) (cE (.str (" - -" : Str)))) (consA (op2 addV (varE 7) (cE (.str (" \"" : Str)))) (consA (op2 addV (varE 7) (cE (.str (" \"A\"" : Str)))) (consA (op2 addV (varE 7) (cE (.str (" \"a\"\"b\"" : Str)))) (consA (op2 addV (op2 addV (op2 addV (varE 7) (cE (.str (" \"" : Str)))) (op2 mulSV (cE (.str ("a" : Str))) (cE (.int 17)))) (cE (.str ("\"" : Str)))) (consA (op2 addV (varE 7) (cE (.str (" !" : Str)))) (consA (op2 addV (varE 7) (cE (.str (" !A" : Str)))) (consA (op2 addV (varE 7) (cE (.str (" x" : Str)))) (consA (op2 addV (varE 7) (cE (.str (" x(" : Str)))) nilA))))))))) ρ st = .ok (.d (.lst ((wrongs2 m l).map D.str))) st := by
  have hb := (body_len m hm l hl).1
  have hm2 := (body_len m hm l hl).2
  have x0 := ll0
  have x1 := ll1
  have x2 := ll2
  have x3 := ll3
  have x4 := ll4
  have x5 := ll5
  have x6 := ll6
  have x7 := ll7
  have x8 := ll8
  have x9 := ll9
  have x10 := ll10
  have x11 := ll11
  have x12 := ll12
  have x13 := ll13
  have x14 := ll14
  have x15 := ll15
  have x16 := ll16
  have x17 := ll17
  have x18 := ll18
  have x19 := ll19
  have x20 := ll20
  have x21 := ll21
  have x22 := ll22
  have x23 := ll23
  have x24 := ll24
  have x25 := ll25
  have x26 := ll26
  have x27 := ll27
  have x28 := ll28
  have x29 := ll29
  have x30 := ll30
  have x31 := ll31
  have x32 := ll32
  have xr := rep_len
  have v5 : varE 5 ρ st = .ok (.d (.str m)) st := by unfold varE; rw [g5]
  have v7 : varE 7 ρ st = .ok (.d (.str (bodyS m l))) st := by unfold varE; rw [g7]
  exact lst_ev2 [((op2 addV (varE 5) (cE (.str (" - -" : Str)))), (m ++ (" - -" : Str))), ((op2 addV (varE 7) (cE (.str (" \"" : Str)))), ((bodyS m l) ++ (" \"" : Str))), ((op2 addV (varE 7) (cE (.str (" \"A\"" : Str)))), ((bodyS m l) ++ (" \"A\"" : Str))), ((op2 addV (varE 7) (cE (.str (" \"a\"\"b\"" : Str)))), ((bodyS m l) ++ (" \"a\"\"b\"" : Str))), ((op2 addV (op2 addV (op2 addV (varE 7) (cE (.str (" \"" : Str)))) (op2 mulSV (cE (.str ("a" : Str))) (cE (.int 17)))) (cE (.str ("\"" : Str)))), ((((bodyS m l) ++ (" \"" : Str)) ++ (repS ("a" : Str) 17)) ++ ("\"" : Str))), ((op2 addV (varE 7) (cE (.str (" !" : Str)))), ((bodyS m l) ++ (" !" : Str))), ((op2 addV (varE 7) (cE (.str (" !A" : Str)))), ((bodyS m l) ++ (" !A" : Str))), ((op2 addV (varE 7) (cE (.str (" x" : Str)))), ((bodyS m l) ++ (" x" : Str))), ((op2 addV (varE 7) (cE (.str (" x(" : Str)))), ((bodyS m l) ++ (" x(" : Str)))] (List.forall_mem_cons.mpr ⟨(addY v5 rfl (by first | omega | (simp only [len_app]; omega) | (split <;> omega) | (simp only [len_app]; split <;> omega))), List.forall_mem_cons.mpr ⟨(addY v7 rfl (by first | omega | (simp only [len_app]; omega) | (split <;> omega) | (simp only [len_app]; split <;> omega))), List.forall_mem_cons.mpr ⟨(addY v7 rfl (by first | omega | (simp only [len_app]; omega) | (split <;> omega) | (simp only [len_app]; split <;> omega))), List.forall_mem_cons.mpr ⟨(addY v7 rfl (by first | omega | (simp only [len_app]; omega) | (split <;> omega) | (simp only [len_app]; split <;> omega))), List.forall_mem_cons.mpr ⟨(addY (addY (addY v7 rfl (by first | omega | (simp only [len_app]; omega) | (split <;> omega) | (simp only [len_app]; split <;> omega))) mulA (by first | omega | (simp only [len_app]; omega) | (split <;> omega) | (simp only [len_app]; split <;> omega))) rfl (by first | omega | (simp only [len_app]; omega) | (split <;> omega) | (simp only [len_app]; split <;> omega))), List.forall_mem_cons.mpr ⟨(addY v7 rfl (by first | omega | (simp only [len_app]; omega) | (split <;> omega) | (simp only [len_app]; split <;> omega))), List.forall_mem_cons.mpr ⟨(addY v7 rfl (by first | omega | (simp only [len_app]; omega) | (split <;> omega) | (simp only [len_app]; split <;> omega))), List.forall_mem_cons.mpr ⟨(addY v7 rfl (by first | omega | (simp only [len_app]; omega) | (split <;> omega) | (simp only [len_app]; split <;> omega))), List.forall_mem_cons.mpr ⟨(addY v7 rfl (by first | omega | (simp only [len_app]; omega) | (split <;> omega) | (simp only [len_app]; split <;> omega))), fun _ z => by cases z⟩⟩⟩⟩⟩⟩⟩⟩⟩) (by simp)
theorem wl3 {m l : Str} {ρ : DL.Env} {st : Store} (hm : m ∈ MDS) (hl : l ∈ LTS) (g5 : ρ[5]? = some (some (Val.d (.str m)))) (v6 : ρ[6]? = some (some (Val.d (.str l)))) (g7 : ρ[7]? = some (some (Val.d (.str (bodyS m l))))) : lstE (consA (op2 addV (varE 7) (cE (.str (" x( )" : Str)))) (consA (op2 addV (varE 7) (cE (.str (" x(-)" : Str)))) (consA (op2 addV (varE 7) (cE (.str (" x())" : Str)))) (consA (op2 addV (varE 7) (cE (.str (" (x())" : Str)))) (consA (op2 addV (varE 7) (cE (.str (" ()" : Str)))) (consA (op2 addV (varE 7) (cE (.str (" ) (" : Str)))) (consA (op2 addV (varE 7) (cE (.str (" X()" : Str)))) (consA (op2 addV (varE 7) (cE (.str (" x() " : Str)))) (consA (op2 addV (varE 7) (cE (.str ("  x()" : Str)))) nilA))))))))) ρ st = .ok (.d (.lst ((wrongs3 m l).map D.str))) st := by
  have hb := (body_len m hm l hl).1
  have hm2 := (body_len m hm l hl).2
  have x0 := ll0
  have x1 := ll1
  have x2 := ll2
  have x3 := ll3
  have x4 := ll4
  have x5 := ll5
  have x6 := ll6
  have x7 := ll7
  have x8 := ll8
  have x9 := ll9
  have x10 := ll10
  have x11 := ll11
  have x12 := ll12
  have x13 := ll13
  have x14 := ll14
  have x15 := ll15
  have x16 := ll16
  have x17 := ll17
  have x18 := ll18
  have x19 := ll19
  have x20 := ll20
  have x21 := ll21
  have x22 := ll22
  have x23 := ll23
  have x24 := ll24
  have x25 := ll25
  have x26 := ll26
  have x27 := ll27
  have x28 := ll28
  have x29 := ll29
  have x30 := ll30
  have x31 := ll31
  have x32 := ll32
  have xr := rep_len
  have v5 : varE 5 ρ st = .ok (.d (.str m)) st := by unfold varE; rw [g5]
  have v7 : varE 7 ρ st = .ok (.d (.str (bodyS m l))) st := by unfold varE; rw [g7]
  exact lst_ev2 [((op2 addV (varE 7) (cE (.str (" x( )" : Str)))), ((bodyS m l) ++ (" x( )" : Str))), ((op2 addV (varE 7) (cE (.str (" x(-)" : Str)))), ((bodyS m l) ++ (" x(-)" : Str))), ((op2 addV (varE 7) (cE (.str (" x())" : Str)))), ((bodyS m l) ++ (" x())" : Str))), ((op2 addV (varE 7) (cE (.str (" (x())" : Str)))), ((bodyS m l) ++ (" (x())" : Str))), ((op2 addV (varE 7) (cE (.str (" ()" : Str)))), ((bodyS m l) ++ (" ()" : Str))), ((op2 addV (varE 7) (cE (.str (" ) (" : Str)))), ((bodyS m l) ++ (" ) (" : Str))), ((op2 addV (varE 7) (cE (.str (" X()" : Str)))), ((bodyS m l) ++ (" X()" : Str))), ((op2 addV (varE 7) (cE (.str (" x() " : Str)))), ((bodyS m l) ++ (" x() " : Str))), ((op2 addV (varE 7) (cE (.str ("  x()" : Str)))), ((bodyS m l) ++ ("  x()" : Str)))] (List.forall_mem_cons.mpr ⟨(addY v7 rfl (by first | omega | (simp only [len_app]; omega) | (split <;> omega) | (simp only [len_app]; split <;> omega))), List.forall_mem_cons.mpr ⟨(addY v7 rfl (by first | omega | (simp only [len_app]; omega) | (split <;> omega) | (simp only [len_app]; split <;> omega))), List.forall_mem_cons.mpr ⟨(addY v7 rfl (by first | omega | (simp only [len_app]; omega) | (split <;> omega) | (simp only [len_app]; split <;> omega))), List.forall_mem_cons.mpr ⟨(addY v7 rfl (by first | omega | (simp only [len_app]; omega) | (split <;> omega) | (simp only [len_app]; split <;> omega))), List.forall_mem_cons.mpr ⟨(addY v7 rfl (by first | omega | (simp only [len_app]; omega) | (split <;> omega) | (simp only [len_app]; split <;> omega))), List.forall_mem_cons.mpr ⟨(addY v7 rfl (by first | omega | (simp only [len_app]; omega) | (split <;> omega) | (simp only [len_app]; split <;> omega))), List.forall_mem_cons.mpr ⟨(addY v7 rfl (by first | omega | (simp only [len_app]; omega) | (split <;> omega) | (simp only [len_app]; split <;> omega))), List.forall_mem_cons.mpr ⟨(addY v7 rfl (by first | omega | (simp only [len_app]; omega) | (split <;> omega) | (simp only [len_app]; split <;> omega))), List.forall_mem_cons.mpr ⟨(addY v7 rfl (by first | omega | (simp only [len_app]; omega) | (split <;> omega) | (simp only [len_app]; split <;> omega))), fun _ z => by cases z⟩⟩⟩⟩⟩⟩⟩⟩⟩) (by simp)
theorem wl4 {m l : Str} {ρ : DL.Env} {st : Store} (hm : m ∈ MDS) (hl : l ∈ LTS) (g5 : ρ[5]? = some (some (Val.d (.str m)))) (v6 : ρ[6]? = some (some (Val.d (.str l)))) (g7 : ρ[7]? = some (some (Val.d (.str (bodyS m l))))) : lstE (consA (op2 addV (varE 7) (cE (.str (" \"\"  \"\"" : Str)))) (consA (op2 addV (varE 7) (ifE (asB (op2 (eqV false) (varE 6) (cE (.str ("" : Str))))) (cE (.str (" !a" : Str))) (cE (.str (" *" : Str))))) (consA (op2 addV (varE 7) (ifE (asB (op2 (eqV false) (varE 6) (cE (.str ("" : Str))))) (cE (.str (" x(!a)" : Str))) (cE (.str (" x(*)" : Str))))) (consA (op2 addV (varE 7) (cE (.str ("," : Str)))) (consA (op2 addV (varE 7) (cE (.str (" abcdefghi()" : Str)))) nilA))))) ρ st = .ok (.d (.lst ((wrongs4 m l).map D.str))) st := by
  have hb := (body_len m hm l hl).1
  have hm2 := (body_len m hm l hl).2
  have x0 := ll0
  have x1 := ll1
  have x2 := ll2
  have x3 := ll3
  have x4 := ll4
  have x5 := ll5
  have x6 := ll6
  have x7 := ll7
  have x8 := ll8
  have x9 := ll9
  have x10 := ll10
  have x11 := ll11
  have x12 := ll12
  have x13 := ll13
  have x14 := ll14
  have x15 := ll15
  have x16 := ll16
  have x17 := ll17
  have x18 := ll18
  have x19 := ll19
  have x20 := ll20
  have x21 := ll21
  have x22 := ll22
  have x23 := ll23
  have x24 := ll24
  have x25 := ll25
  have x26 := ll26
  have x27 := ll27
  have x28 := ll28
  have x29 := ll29
  have x30 := ll30
  have x31 := ll31
  have x32 := ll32
  have xr := rep_len
  have v5 : varE 5 ρ st = .ok (.d (.str m)) st := by unfold varE; rw [g5]
  have v7 : varE 7 ρ st = .ok (.d (.str (bodyS m l))) st := by unfold varE; rw [g7]
  exact lst_ev2 [((op2 addV (varE 7) (cE (.str (" \"\"  \"\"" : Str)))), ((bodyS m l) ++ (" \"\"  \"\"" : Str))), ((op2 addV (varE 7) (ifE (asB (op2 (eqV false) (varE 6) (cE (.str ("" : Str))))) (cE (.str (" !a" : Str))) (cE (.str (" *" : Str))))), ((bodyS m l) ++ (if l = ("" : Str) then (" !a" : Str) else (" *" : Str)))), ((op2 addV (varE 7) (ifE (asB (op2 (eqV false) (varE 6) (cE (.str ("" : Str))))) (cE (.str (" x(!a)" : Str))) (cE (.str (" x(*)" : Str))))), ((bodyS m l) ++ (if l = ("" : Str) then (" x(!a)" : Str) else (" x(*)" : Str)))), ((op2 addV (varE 7) (cE (.str ("," : Str)))), ((bodyS m l) ++ ("," : Str))), ((op2 addV (varE 7) (cE (.str (" abcdefghi()" : Str)))), ((bodyS m l) ++ (" abcdefghi()" : Str)))] (List.forall_mem_cons.mpr ⟨(addY v7 rfl (by first | omega | (simp only [len_app]; omega) | (split <;> omega) | (simp only [len_app]; split <;> omega))), List.forall_mem_cons.mpr ⟨(addY v7 (ifL v6 _ _) (by first | omega | (simp only [len_app]; omega) | (split <;> omega) | (simp only [len_app]; split <;> omega))), List.forall_mem_cons.mpr ⟨(addY v7 (ifL v6 _ _) (by first | omega | (simp only [len_app]; omega) | (split <;> omega) | (simp only [len_app]; split <;> omega))), List.forall_mem_cons.mpr ⟨(addY v7 rfl (by first | omega | (simp only [len_app]; omega) | (split <;> omega) | (simp only [len_app]; split <;> omega))), List.forall_mem_cons.mpr ⟨(addY v7 rfl (by first | omega | (simp only [len_app]; omega) | (split <;> omega) | (simp only [len_app]; split <;> omega))), fun _ z => by cases z⟩⟩⟩⟩⟩) (by simp)
def sA : SS := (setS 3 (callE F__law_any (consA (varE 0) (consA (bltE (one lenV) (consA (varE 1) nilA)) nilA))))
def sB : SS := (setS 4 (lstE (consA (cE (.str ("" : Str))) (consA (cE (.str (" " : Str))) (consA (cE (.str ("A" : Str))) (consA (cE (.str ("a " : Str))) (consA (cE (.str (" a" : Str))) (consA (cE (.str ("a b" : Str))) (consA (cE (.str ("-" : Str))) (consA (cE (.str ("#" : Str))) (consA (cE (.str ("abcdefghi" : Str))) (consA (cE (.str ("a," : Str))) (consA (cE (.str ("," : Str))) (consA (cE (.str ("a1" : Str))) (consA (cE (.str ("!a" : Str))) nilA)))))))))))))))
def sC : SS := (ifS (asB (op2 gtV (varE 3) (cE (.int 0)))) (seqS (asgS (sliceE (op2 ixV (varE 2) (op2 subV (varE 3) (cE (.int 1)))) noO (someO (cE (.int 2)))) (tupG (consG (nameG 5) (consG (nameG 6) nilG)))) (seqS (setS 7 (op2 addV (op2 addV (varE 5) (cE (.str (" " : Str)))) (ifE (asB (op2 (eqV true) (varE 6) (cE (.str ("" : Str))))) (varE 6) (cE (.str ("#" : Str)))))) (seqS (setS 4 (lstE (consA (cE (.str ("" : Str))) (consA (varE 5) (consA (varE 7) (consA (op2 addV (varE 7) (cE (.str (" " : Str)))) (consA (op2 addV (op2 addV (cE (.str (" " : Str))) (varE 7)) (cE (.str (" -" : Str)))) (consA (op2 addV (varE 5) (cE (.str ("  -" : Str)))) (consA (op2 addV (varE 7) (cE (.str (" - " : Str)))) (consA (op2 addV (varE 7) (cE (.str (" -  -" : Str)))) (consA (op2 addV (varE 7) (cE (.str ("  -" : Str)))) (consA (op2 addV (varE 7) (cE (.str (" - -" : Str)))) (consA (cE (.str ("A # -" : Str))) nilA))))))))))))) (seqS (setS 4 (op2 addV (varE 4) (lstE (consA (op2 addV (varE 5) (cE (.str (" - -" : Str)))) (consA (op2 addV (varE 7) (cE (.str (" \"" : Str)))) (consA (op2 addV (varE 7) (cE (.str (" \"A\"" : Str)))) (consA (op2 addV (varE 7) (cE (.str (" \"a\"\"b\"" : Str)))) (consA (op2 addV (op2 addV (op2 addV (varE 7) (cE (.str (" \"" : Str)))) (op2 mulSV (cE (.str ("a" : Str))) (cE (.int 17)))) (cE (.str ("\"" : Str)))) (consA (op2 addV (varE 7) (cE (.str (" !" : Str)))) (consA (op2 addV (varE 7) (cE (.str (" !A" : Str)))) (consA (op2 addV (varE 7) (cE (.str (" x" : Str)))) (consA (op2 addV (varE 7) (cE (.str (" x(" : Str)))) nilA)))))))))))) (seqS (setS 4 (op2 addV (varE 4) (lstE (consA (op2 addV (varE 7) (cE (.str (" x( )" : Str)))) (consA (op2 addV (varE 7) (cE (.str (" x(-)" : Str)))) (consA (op2 addV (varE 7) (cE (.str (" x())" : Str)))) (consA (op2 addV (varE 7) (cE (.str (" (x())" : Str)))) (consA (op2 addV (varE 7) (cE (.str (" ()" : Str)))) (consA (op2 addV (varE 7) (cE (.str (" ) (" : Str)))) (consA (op2 addV (varE 7) (cE (.str (" X()" : Str)))) (consA (op2 addV (varE 7) (cE (.str (" x() " : Str)))) (consA (op2 addV (varE 7) (cE (.str ("  x()" : Str)))) nilA)))))))))))) (setS 4 (op2 addV (varE 4) (lstE (consA (op2 addV (varE 7) (cE (.str (" \"\"  \"\"" : Str)))) (consA (op2 addV (varE 7) (ifE (asB (op2 (eqV false) (varE 6) (cE (.str ("" : Str))))) (cE (.str (" !a" : Str))) (cE (.str (" *" : Str))))) (consA (op2 addV (varE 7) (ifE (asB (op2 (eqV false) (varE 6) (cE (.str ("" : Str))))) (cE (.str (" x(!a)" : Str))) (cE (.str (" x(*)" : Str))))) (consA (op2 addV (varE 7) (cE (.str ("," : Str)))) (consA (op2 addV (varE 7) (cE (.str (" abcdefghi()" : Str)))) nilA))))))))))))) nxS)
def sD : SS := (ifS (asB (op2 gtV (varE 3) (cE (.int 1)))) (setS 4 (op2 addV (varE 4) (lstE (consA (op2 ixV (varE 1) (op2 subV (varE 3) (cE (.int 1)))) (consA (ifE (asB (op2 (eqV false) (op2 ixV (op2 ixV (varE 2) (op2 subV (varE 3) (cE (.int 2)))) (cE (.int 0))) (varE 5))) (op2 addV (varE 5) (cE (.str (" # -" : Str)))) (op2 ixV (varE 1) (op2 subV (varE 3) (cE (.int 1))))) (consA (op2 addV (op2 ixV (op2 ixV (varE 2) (cE (.int 0))) (cE (.int 0))) (cE (.str (" # -" : Str)))) nilA)))))) nxS)
def sE : SS := (setS 8 (lcE (seqI (sliceE (varE 1) (someO (op2 addV (varE 3) (cE (.int 1)))) noO)) (nameG 10) yesT (callE F__law_of (consA (varE 0) (consA (lstE (consA (varE 10) (consA (varE 10) (consA (cE (.str ("" : Str))) nilA)))) nilA))) [10]))
def sF : SS := (setS 9 (callE F__law_told (consA (tm1E joinV (cE (.str (", " : Str))) (op2 addV (op2 addV (sliceE (varE 1) noO (someO (varE 3))) (lstE (consA (callE F__law_of (consA (varE 0) (consA (varE 4) nilA))) nilA))) (varE 8))) nilA)))
def sG : SS := (retS (op2 (eqV false) (bltE (one reprV) (consA (varE 9) nilA)) (bltE (one reprV) (consA (lstE (consA (cE (.str ("text" : Str))) (consA (varE 3) (consA (cE (.bl true)) (consA (cE (.bl false)) nilA))))) nilA))))
theorem g_split : g__law_refused = seqS sA (seqS sB (seqS sC (seqS sD (seqS sE (seqS sF sG))))) := rfl
end K50
end

section
set_option Elab.async false
set_option linter.all false
set_option autoImplicit false
set_option maxRecDepth 100000
set_option maxHeartbeats 4000000
/-! KP19: _law_refused answers True. -/
namespace K50
open PySem DL
theorem ix_tup {xs : List D} {k : Nat} {v : D} {st : Store} (h : xs[k]? = some v) : ixV (.d (.tup xs)) (.d (.int k)) st = .ok (.d v) st := by
  have : L2.atI (xs.map Val.d) (k : Int) = some (Val.d v) := atI_nat (by rw [List.getElem?_map, h]; rfl)
  simp only [ixV, valsOf, this]
/-! ### repr of what is told -/
def pyErr (i : Int) : PyData := .list [.str ("text" : Str), .int i, .bool true, .bool false]
theorem repr_err (i : Nat) (h : i ≤ 12) (st : Store) : reprV (.d (dErr (i : Int))) st = .ok (.d (.str (pyErr i).shown)) st := by
  have all : ∀ i ∈ List.range 13, reprD (pyErr ((i : Nat) : Int)) = true := by decide +kernel
  have q := all i (List.mem_range.mpr (by omega))
  have e : toPy (dErr (i : Int)) = some (pyErr i) := rfl
  unfold reprV
  show (match some (dErr (i : Int)) with | some d => (match toPy d with | some p => (if reprD p = true then R.ok (Val.d (.str p.shown)) st else .err) | none => .err) | none => .err) = _
  simp only [e, q, if_true]
/-! ### the wrong ones are bad -/
theorem mds_modes : MDS = MODES := rfl
theorem lts_lets : LTS = LETS := rfl
theorem wrong_bad {m l w : Str} (hm : m ∈ MDS) (hl : l ∈ LTS) (hw : w ∈ wrongs m l) (qs : List Rl) : badB qs w ∧ Fit w := by
  have q := refused_all m hm l hl w hw
  unfold refusedB at q
  simp only [Bool.and_eq_true, decide_eq_true_eq] at q
  refine ⟨.inl ?_, q.1.2, q.2⟩
  cases h : rrule w.cps.toList with
  | no => rfl
  | rule m l ps => rw [h] at q; simp [isNo] at q
  | err => rw [h] at q; simp [isNo] at q
theorem le_self : ∀ m ∈ MDS, ∀ l ∈ LTS, lePair m l m l = true ∧ lePair m ("" : Str) m l = true := by decide +kernel
theorem le_first : ∀ m ∈ MDS, ∀ l ∈ LTS, ∀ m0 ∈ MDS, ∀ l0 ∈ LTS, lePair m l m0 l0 = false → lePair m0 ("" : Str) m l = true := by decide +kernel
theorem rule_of {r : Rl} (h : RuleOK r) : rrule (pieceS r).cps.toList = .rule r.1 r.2.1 r.2.2 := by
  obtain ⟨o1, o2, o3, o4, o5, o6, o7⟩ := h.ok
  unfold pieceS
  rw [S_cps]
  exact rule_back o2 o3 o1 (Nat.le_trans (piece_len h) (by omega))
theorem bare_rule {m : Str} (h : m ∈ MDS) : RuleOK (m.cps.toList, [], []) ∧ m ++ (" # -" : Str) = pieceS (m.cps.toList, [], []) := by
  refine ⟨⟨by rw [S_of]; exact h, (show S [] ∈ LTS by decide +kernel), by simp, by simp⟩, ?_⟩
  have : ∀ m ∈ MDS, m ++ (" # -" : Str) = pieceS (m.cps.toList, [], []) := by decide +kernel
  exact this m h
/-- a piece that repeats, or goes back -/
theorem bare_bad {m : Str} {qs : List Rl} {s : Rl} (hm : m ∈ MDS) (hs : qs.getLast? = some s) (hle : lePair m ("" : Str) (S s.1) (S s.2.1) = true) : badB qs (m ++ (" # -" : Str)) ∧ Fit (m ++ (" # -" : Str)) := by
  obtain ⟨a, b⟩ := bare_rule hm
  rw [b]
  refine ⟨.inr ⟨_, _, _, s, rule_of a, hs, ?_⟩, piece_fit a⟩
  unfold le2
  rw [S_of, ← s_nil]
  exact hle
theorem same_bad {qs : List Rl} {s : Rl} (h : RuleOK s) (hs : qs.getLast? = some s) : badB qs (pieceS s) ∧ Fit (pieceS s) :=
  ⟨.inr ⟨_, _, _, s, rule_of h, hs, (le_self _ h.m _ h.l).1⟩, piece_fit h⟩
/-! ### later pieces -/
theorem later_ok {ρ : DL.Env} {t : Store} (h0 : ρ[0]? = some (some (Val.ref 1))) (h10 : ρ.length = 11) : ∀ (ps : List Str) (acc : List D) (cs : List Int) (mix : Int), cs.length ≤ 63 → acc.length + ps.length ≤ 1000 → ∃ (ls : List Str) (cs' : List Int) (mix' : Int), lcL (nameG 10) yesT (callE F__law_of (consA (varE 0) (consA (lstE (consA (varE 10) (consA (varE 10) (consA (cE (.str ("" : Str))) nilA)))) nilA))) (DL.forget [10] ρ) (ps.map fun p => Val.d (.str p)) acc (stD cs mix t) = .ok (acc ++ ls.map D.str) (stD cs' mix' t) ∧ cs'.length ≤ 63 ∧ ls.length = ps.length ∧ ∀ x ∈ ls, x = ("" : Str) ∨ x ∈ ps
  | [], acc, cs, mix, hc, _ => ⟨[], cs, mix, by simp [lcL], hc, rfl, by simp⟩
  | p :: ps, acc, cs, mix, hc, hl => by
    rw [List.length_cons] at hl
    obtain ⟨x, c1, m1, hx, e1, l1⟩ := of_ok cs mix t [.str p, .str p, .str ("" : Str)] hc (by simp) (by simp)
    obtain ⟨y, rfl, hy⟩ : ∃ y, x = .str y ∧ (y = ("" : Str) ∨ y = p) := by
      simp only [List.mem_cons, List.mem_nil_iff, or_false] at hx
      rcases hx with rfl | rfl | rfl
      · exact ⟨p, rfl, .inr rfl⟩
      · exact ⟨p, rfl, .inr rfl⟩
      · exact ⟨_, rfl, .inl rfl⟩
    obtain ⟨ls, c2, m2, e2, l2, n2, g2⟩ := later_ok h0 h10 ps (acc ++ [.str y]) c1 m1 l1 (by rw [List.length_append, List.length_singleton]; omega)
    refine ⟨y :: ls, c2, m2, ?_, l2, by rw [List.length_cons, List.length_cons, n2], fun z hz => ?_⟩
    · have s0 : ((DL.forget [10] ρ).set 10 (some (Val.d (.str p))))[0]? = some (some (Val.ref 1)) := by
        simp only [DL.forget]
        rw [List.getElem?_set_ne (by omega), List.getElem?_set_ne (by omega)]
        exact h0
      have s10 : ((DL.forget [10] ρ).set 10 (some (Val.d (.str p))))[10]? = some (some (Val.d (.str p))) := List.getElem?_set_self (by simp [DL.forget, h10])
      have ev : callE F__law_of (consA (varE 0) (consA (lstE (consA (varE 10) (consA (varE 10) (consA (cE (.str ("" : Str))) nilA)))) nilA)) ((DL.forget [10] ρ).set 10 (some (Val.d (.str p)))) (stD cs mix t) = .ok (.d (.str y)) (stD c1 m1 t) := by
        have v0 : varE 0 ((DL.forget [10] ρ).set 10 (some (Val.d (.str p)))) (stD cs mix t) = .ok (.ref 1) (stD cs mix t) := by unfold varE; rw [s0]
        have v10 : varE 10 ((DL.forget [10] ρ).set 10 (some (Val.d (.str p)))) (stD cs mix t) = .ok (.d (.str p)) (stD cs mix t) := by unfold varE; rw [s10]
        have l3 : lstE (consA (varE 10) (consA (varE 10) (consA (cE (.str ("" : Str))) nilA))) ((DL.forget [10] ρ).set 10 (some (Val.d (.str p)))) (stD cs mix t) = .ok (.d (.lst [.str p, .str p, .str ("" : Str)])) (stD cs mix t) := lst_ev2 [(varE 10, p), (varE 10, p), (cE (.str ("" : Str)), ("" : Str))] (List.forall_mem_cons.mpr ⟨v10, List.forall_mem_cons.mpr ⟨v10, List.forall_mem_cons.mpr ⟨rfl, fun _ z => by cases z⟩⟩⟩) (by simp)
        unfold callE
        rw [consA_ok v0 (consA_ok l3 (show nilA _ _ = .ok [] _ from rfl)), bindR_ok, e1]
        rfl
      have hl' : acc.length < sizeLine := Nat.lt_of_lt_of_le (show acc.length < 100000 by omega) (small_size (Nat.le_refl _))
      have gn : nameG 10 (Val.d (.str p)) (DL.forget [10] ρ) = some ((DL.forget [10] ρ).set 10 (some (Val.d (.str p)))) := rfl
      simp only [List.map_cons, lcL, gn, yesT, noX_ok, bindR_ok, if_true, ev, if_pos hl']
      rw [e2]
      simp
    · rcases List.mem_cons.mp hz with rfl | hz
      · exact hy.imp id fun h => by rw [h]; exact List.mem_cons_self
      · exact (g2 z hz).imp id fun h => List.mem_cons_of_mem _ h
end K50
end

section
set_option Elab.async false
set_option linter.all false
set_option autoImplicit false
set_option maxRecDepth 100000
set_option maxHeartbeats 4000000
/-! KP20: _law_refused, whole. -/
namespace K50
open PySem DL
theorem seq_nx {f g : SS} {ρ ρ' : DL.Env} {st st' : Store} (h : f ρ st = .nx ρ' st') : seqS f g ρ st = g ρ' st' := by rw [seqS_eq, h, seqR_nx]
theorem set_ok {i : Nat} {L : SE} {ρ : DL.Env} {st st' : Store} {v : Val} (h : L ρ st = .ok v st') : setS i L ρ st = .nx (ρ.set i (some v)) st' := by unfold setS; rw [h, bindS_ok]
theorem add4 {L : SE} {ρ : DL.Env} {st : Store} {xs ys : List D} (h4 : ρ[4]? = some (some (Val.d (.lst ys)))) (h : L ρ st = .ok (.d (.lst xs)) st) (hl : ys.length + xs.length ≤ 1000) : op2 addV (varE 4) L ρ st = .ok (.d (.lst (ys ++ xs))) st := by
  have v4 : varE 4 ρ st = .ok (.d (.lst ys)) st := by unfold varE; rw [h4]
  unfold op2
  rw [v4, bindR_ok, h, bindR_ok, add_lst (small_size (by omega))]
theorem if_yes {c : ST} {f g : SS} {ρ : DL.Env} {st : Store} (h : c ρ st = .ok true st) : ifS c f g ρ st = f ρ st := by unfold ifS; rw [h, bindS_ok]; rfl
theorem if_no {c : ST} {f g : SS} {ρ : DL.Env} {st : Store} (h : c ρ st = .ok false st) : ifS c f g ρ st = g ρ st := by unfold ifS; rw [h, bindS_ok]; rfl
section
variable {ps : List Str} {rs : List Rl} {st : Store}
def envR (ps : List Str) (rs : List Rl) (k : Int) (W : List Str) (x5 x6 x7 : Option Val) : DL.Env := [some (.ref 1), some (.d (.lst (ps.map D.str))), some (.d (.tup (rs.map rD))), some (.d (.int k)), some (.d (.lst (W.map D.str))), x5, x6, x7, none, none, none]
theorem sC_ok {j : Nat} {r : Rl} (hr : rs[j]? = some r) (ok : RuleOK r) : sC (envR ps rs ((j + 1 : Nat) : Int) wrong0 none none none) st = .nx (envR ps rs ((j + 1 : Nat) : Int) (wrongs (S r.1) (S r.2.1)) (some (.d (.str (S r.1)))) (some (.d (.str (S r.2.1)))) (some (.d (.str (bodyS (S r.1) (S r.2.1)))))) st := by
  have t0 : (asB (op2 gtV (varE 3) (cE (.int 0)))) (envR ps rs ((j + 1 : Nat) : Int) wrong0 none none none) st = .ok true st := by
    have : decide ((0 : Int) < ((j + 1 : Nat) : Int)) = true := decide_eq_true (by omega)
    unfold envR
    simp only [gt_int, this, funD, funX, funK, env0, retS, retN, exprS, setS, seqS, ifS, asgS, parS, nxS, raiseS, varE, cE, op2, andT, orT, notT, notE, ifE, nilA, consA, tupE, lstE, asDs_nil, asDs_cons, asDs_map, callE, callX, bltE, one, truE, sliceE, noO, someO, nameG, tupG, consG, nilG, okIf, negE, bindR_ok, bindR_exc, bindR_err, bindS_ok, bindS_exc, bindS_err, seqR_nx, seqR_ret, seqR_exc, seqR_brk, seqR_cnt, seqR_err, noX_ok, fin_nx, fin_d, fin_exc, fin_scr, eq_str, ne_str, eq_int, ne_int, List.map_cons, List.map_nil, List.cons_append, List.nil_append, List.getElem?_cons_zero, List.getElem?_cons_succ, List.length_cons, List.length_nil, Nat.reduceAdd, Nat.reduceSub, List.replicate_zero, List.replicate_succ, List.set_cons_zero, List.set_cons_succ, List.take_length, Option.bind_some, Bool.not_true, Bool.not_false, if_true, if_false, Bool.false_eq_true, ite_true, ite_false, ite_self, decide_true, decide_false, Nat.zero_le, reduceCtorEq, andE_eq, andK_bl, orE_eq, orK_bl, asB_eq, asK_bl, Option.map_some, sz1, sz2, sz3, sz4, cst1, cst2, cst3]
  have hrD : (rs.map rD)[j]? = some (rD r) := by rw [List.getElem?_map, hr]; rfl
  have sub1 : ∀ s : Store, subV (.d (.int ((j + 1 : Nat) : Int))) (.d (.int 1)) s = .ok (.d (.int (j : Int))) s := fun s => by
    show R.ok (Val.d (.int (((j + 1 : Nat) : Int) - 1))) s = _
    rw [show ((j + 1 : Nat) : Int) - 1 = (j : Int) by omega]
  have asg : asgS (sliceE (op2 ixV (varE 2) (op2 subV (varE 3) (cE (.int 1)))) noO (someO (cE (.int 2)))) (tupG (consG (nameG 5) (consG (nameG 6) nilG))) (envR ps rs ((j + 1 : Nat) : Int) wrong0 none none none) st = .nx (envR ps rs ((j + 1 : Nat) : Int) wrong0 (some (.d (.str (S r.1)))) (some (.d (.str (S r.2.1)))) none) st := by
    unfold envR
    simp only [sub1, ix_tup hrD, rD, rdata, cut2, funD, funX, funK, env0, retS, retN, exprS, setS, seqS, ifS, asgS, parS, nxS, raiseS, varE, cE, op2, andT, orT, notT, notE, ifE, nilA, consA, tupE, lstE, asDs_nil, asDs_cons, asDs_map, callE, callX, bltE, one, truE, sliceE, noO, someO, nameG, tupG, consG, nilG, okIf, negE, bindR_ok, bindR_exc, bindR_err, bindS_ok, bindS_exc, bindS_err, seqR_nx, seqR_ret, seqR_exc, seqR_brk, seqR_cnt, seqR_err, noX_ok, fin_nx, fin_d, fin_exc, fin_scr, eq_str, ne_str, eq_int, ne_int, List.map_cons, List.map_nil, List.cons_append, List.nil_append, List.getElem?_cons_zero, List.getElem?_cons_succ, List.length_cons, List.length_nil, Nat.reduceAdd, Nat.reduceSub, List.replicate_zero, List.replicate_succ, List.set_cons_zero, List.set_cons_succ, List.take_length, Option.bind_some, Bool.not_true, Bool.not_false, if_true, if_false, Bool.false_eq_true, ite_true, ite_false, ite_self, decide_true, decide_false, Nat.zero_le, reduceCtorEq, andE_eq, andK_bl, orE_eq, orK_bl, asB_eq, asK_bl, Option.map_some, sz1, sz2, sz3, sz4, cst1, cst2, cst3]
  have bl := (body_len _ ok.m _ ok.l)
  have s7 : setS 7 (op2 addV (op2 addV (varE 5) (cE (.str (" " : Str)))) (ifE (asB (op2 (eqV true) (varE 6) (cE (.str ("" : Str))))) (varE 6) (cE (.str ("#" : Str))))) (envR ps rs ((j + 1 : Nat) : Int) wrong0 (some (.d (.str (S r.1)))) (some (.d (.str (S r.2.1)))) none) st = .nx (envR ps rs ((j + 1 : Nat) : Int) wrong0 (some (.d (.str (S r.1)))) (some (.d (.str (S r.2.1)))) (some (.d (.str (bodyS (S r.1) (S r.2.1)))))) st := by
    have b1 := bl.2
    have b2 := (lts_ok _ ok.l).2
    have b3 : ((if (S r.2.1) = ("" : Str) then ("#" : Str) else (S r.2.1))).length ≤ 2 := by
      split
      · decide +kernel
      · rw [TL.len_tl]; exact b2
    have e6 : ifE (asB (op2 (eqV true) (varE 6) (cE (.str ("" : Str))))) (varE 6) (cE (.str ("#" : Str))) (envR ps rs ((j + 1 : Nat) : Int) wrong0 (some (.d (.str (S r.1)))) (some (.d (.str (S r.2.1)))) none) st = .ok (.d (.str (if (S r.2.1) = ("" : Str) then ("#" : Str) else (S r.2.1)))) st := by
      unfold envR
      simp only [funD, funX, funK, env0, retS, retN, exprS, setS, seqS, ifS, asgS, parS, nxS, raiseS, varE, cE, op2, andT, orT, notT, notE, ifE, nilA, consA, tupE, lstE, asDs_nil, asDs_cons, asDs_map, callE, callX, bltE, one, truE, sliceE, noO, someO, nameG, tupG, consG, nilG, okIf, negE, bindR_ok, bindR_exc, bindR_err, bindS_ok, bindS_exc, bindS_err, seqR_nx, seqR_ret, seqR_exc, seqR_brk, seqR_cnt, seqR_err, noX_ok, fin_nx, fin_d, fin_exc, fin_scr, eq_str, ne_str, eq_int, ne_int, List.map_cons, List.map_nil, List.cons_append, List.nil_append, List.getElem?_cons_zero, List.getElem?_cons_succ, List.length_cons, List.length_nil, Nat.reduceAdd, Nat.reduceSub, List.replicate_zero, List.replicate_succ, List.set_cons_zero, List.set_cons_succ, List.take_length, Option.bind_some, Bool.not_true, Bool.not_false, if_true, if_false, Bool.false_eq_true, ite_true, ite_false, ite_self, decide_true, decide_false, Nat.zero_le, reduceCtorEq, andE_eq, andK_bl, orE_eq, orK_bl, asB_eq, asK_bl, Option.map_some, sz1, sz2, sz3, sz4, cst1, cst2, cst3]
      by_cases e : S r.2.1 = ("" : Str) <;> simp only [e, decide_true, decide_false, Bool.not_true, Bool.not_false, if_true, if_false, Bool.false_eq_true]
    have l1 : (" " : Str).length = 1 := by decide +kernel
    exact set_ok (addY (addY (show varE 5 _ st = .ok (.d (.str (S r.1))) st from rfl) (show cE _ _ st = .ok (.d (.str (" " : Str))) st from rfl) (by omega)) e6 (by rw [len_app]; omega))
  unfold sC
  rw [if_yes t0, seq_nx asg, seq_nx s7, seq_nx (set_ok (wl1 ok.m ok.l rfl rfl rfl)), seq_nx (set_ok (add4 rfl (wl2 ok.m ok.l rfl rfl rfl) (by simp [wrongs1, wrongs2]))), seq_nx (set_ok (add4 rfl (wl3 ok.m ok.l rfl rfl rfl) (by simp [wrongs1, wrongs2, wrongs3]))), set_ok (add4 rfl (wl4 ok.m ok.l rfl rfl rfl) (by simp [wrongs1, wrongs2, wrongs3, wrongs4]))]
  unfold envR wrongs
  simp only [List.set_cons_zero, List.set_cons_succ, List.map_append]
theorem sC_no : sC (envR ps rs 0 wrong0 none none none) st = .nx (envR ps rs 0 wrong0 none none none) st := by
  have t0 : (asB (op2 gtV (varE 3) (cE (.int 0)))) (envR ps rs 0 wrong0 none none none) st = .ok false st := by
    have : decide ((0 : Int) < 0) = false := by decide
    unfold envR
    simp only [gt_int, this, funD, funX, funK, env0, retS, retN, exprS, setS, seqS, ifS, asgS, parS, nxS, raiseS, varE, cE, op2, andT, orT, notT, notE, ifE, nilA, consA, tupE, lstE, asDs_nil, asDs_cons, asDs_map, callE, callX, bltE, one, truE, sliceE, noO, someO, nameG, tupG, consG, nilG, okIf, negE, bindR_ok, bindR_exc, bindR_err, bindS_ok, bindS_exc, bindS_err, seqR_nx, seqR_ret, seqR_exc, seqR_brk, seqR_cnt, seqR_err, noX_ok, fin_nx, fin_d, fin_exc, fin_scr, eq_str, ne_str, eq_int, ne_int, List.map_cons, List.map_nil, List.cons_append, List.nil_append, List.getElem?_cons_zero, List.getElem?_cons_succ, List.length_cons, List.length_nil, Nat.reduceAdd, Nat.reduceSub, List.replicate_zero, List.replicate_succ, List.set_cons_zero, List.set_cons_succ, List.take_length, Option.bind_some, Bool.not_true, Bool.not_false, if_true, if_false, Bool.false_eq_true, ite_true, ite_false, ite_self, decide_true, decide_false, Nat.zero_le, reduceCtorEq, andE_eq, andK_bl, orE_eq, orK_bl, asB_eq, asK_bl, Option.map_some, sz1, sz2, sz3, sz4, cst1, cst2, cst3]
  unfold sC
  rw [if_no t0]
  rfl
theorem sD_no {k : Int} {W : List Str} {x5 x6 x7 : Option Val} (hk : k ≤ 1) : sD (envR ps rs k W x5 x6 x7) st = .nx (envR ps rs k W x5 x6 x7) st := by
  have t0 : (asB (op2 gtV (varE 3) (cE (.int 1)))) (envR ps rs k W x5 x6 x7) st = .ok false st := by
    have : decide ((1 : Int) < k) = false := decide_eq_false (by omega)
    unfold envR
    simp only [gt_int, this, funD, funX, funK, env0, retS, retN, exprS, setS, seqS, ifS, asgS, parS, nxS, raiseS, varE, cE, op2, andT, orT, notT, notE, ifE, nilA, consA, tupE, lstE, asDs_nil, asDs_cons, asDs_map, callE, callX, bltE, one, truE, sliceE, noO, someO, nameG, tupG, consG, nilG, okIf, negE, bindR_ok, bindR_exc, bindR_err, bindS_ok, bindS_exc, bindS_err, seqR_nx, seqR_ret, seqR_exc, seqR_brk, seqR_cnt, seqR_err, noX_ok, fin_nx, fin_d, fin_exc, fin_scr, eq_str, ne_str, eq_int, ne_int, List.map_cons, List.map_nil, List.cons_append, List.nil_append, List.getElem?_cons_zero, List.getElem?_cons_succ, List.length_cons, List.length_nil, Nat.reduceAdd, Nat.reduceSub, List.replicate_zero, List.replicate_succ, List.set_cons_zero, List.set_cons_succ, List.take_length, Option.bind_some, Bool.not_true, Bool.not_false, if_true, if_false, Bool.false_eq_true, ite_true, ite_false, ite_self, decide_true, decide_false, Nat.zero_le, reduceCtorEq, andE_eq, andK_bl, orE_eq, orK_bl, asB_eq, asK_bl, Option.map_some, sz1, sz2, sz3, sz4, cst1, cst2, cst3]
  unfold sD
  rw [if_no t0]
  rfl
theorem sD_ok {i : Nat} {W : List Str} {m p1 : Str} {s r0 : Rl} {x6 x7 : Option Val} (hp : ps[i + 1]? = some p1) (hs : rs[i]? = some s) (h0 : rs[0]? = some r0) (hW : W.length ≤ 500) (hm : m.length ≤ 2) (hm0 : (S r0.1).length ≤ 2) :
    sD (envR ps rs ((i + 2 : Nat) : Int) W (some (.d (.str m))) x6 x7) st = .nx (envR ps rs ((i + 2 : Nat) : Int) (W ++ [p1, if S s.1 = m then m ++ (" # -" : Str) else p1, S r0.1 ++ (" # -" : Str)]) (some (.d (.str m))) x6 x7) st := by
  have t0 : (asB (op2 gtV (varE 3) (cE (.int 1)))) (envR ps rs ((i + 2 : Nat) : Int) W (some (.d (.str m))) x6 x7) st = .ok true st := by
    have : decide ((1 : Int) < ((i + 2 : Nat) : Int)) = true := decide_eq_true (by omega)
    unfold envR
    simp only [gt_int, this, funD, funX, funK, env0, retS, retN, exprS, setS, seqS, ifS, asgS, parS, nxS, raiseS, varE, cE, op2, andT, orT, notT, notE, ifE, nilA, consA, tupE, lstE, asDs_nil, asDs_cons, asDs_map, callE, callX, bltE, one, truE, sliceE, noO, someO, nameG, tupG, consG, nilG, okIf, negE, bindR_ok, bindR_exc, bindR_err, bindS_ok, bindS_exc, bindS_err, seqR_nx, seqR_ret, seqR_exc, seqR_brk, seqR_cnt, seqR_err, noX_ok, fin_nx, fin_d, fin_exc, fin_scr, eq_str, ne_str, eq_int, ne_int, List.map_cons, List.map_nil, List.cons_append, List.nil_append, List.getElem?_cons_zero, List.getElem?_cons_succ, List.length_cons, List.length_nil, Nat.reduceAdd, Nat.reduceSub, List.replicate_zero, List.replicate_succ, List.set_cons_zero, List.set_cons_succ, List.take_length, Option.bind_some, Bool.not_true, Bool.not_false, if_true, if_false, Bool.false_eq_true, ite_true, ite_false, ite_self, decide_true, decide_false, Nat.zero_le, reduceCtorEq, andE_eq, andK_bl, orE_eq, orK_bl, asB_eq, asK_bl, Option.map_some, sz1, sz2, sz3, sz4, cst1, cst2, cst3]
  have hpD : (ps.map D.str)[i + 1]? = some (.str p1) := by rw [List.getElem?_map, hp]; rfl
  have hsD : (rs.map rD)[i]? = some (rD s) := by rw [List.getElem?_map, hs]; rfl
  have h0D : (rs.map rD)[0]? = some (rD r0) := by rw [List.getElem?_map, h0]; rfl
  have sub1 : ∀ q : Store, subV (.d (.int ((i + 2 : Nat) : Int))) (.d (.int 1)) q = .ok (.d (.int ((i + 1 : Nat) : Int))) q := fun q => by
    show R.ok (Val.d (.int (((i + 2 : Nat) : Int) - 1))) q = _
    rw [show ((i + 2 : Nat) : Int) - 1 = ((i + 1 : Nat) : Int) by omega]
  have sub2 : ∀ q : Store, subV (.d (.int ((i + 2 : Nat) : Int))) (.d (.int 2)) q = .ok (.d (.int (i : Int))) q := fun q => by
    show R.ok (Val.d (.int (((i + 2 : Nat) : Int) - 2))) q = _
    rw [show ((i + 2 : Nat) : Int) - 2 = (i : Int) by omega]
  have i0 : ∀ q : Store, ixV (.d (.tup (rs.map rD))) (.d (.int 0)) q = .ok (.d (rD r0)) q := fun q => ix_tup (k := 0) h0D
  have ll : (" # -" : Str).length = 4 := by decide +kernel
  have a1 : ∀ q : Store, addV (.d (.str m)) (.d (.str (" # -" : Str))) q = .ok (.d (.str (m ++ (" # -" : Str)))) q := fun q => add_str (small_size (by omega))
  have a2 : ∀ q : Store, addV (.d (.str (S r0.1))) (.d (.str (" # -" : Str))) q = .ok (.d (.str (S r0.1 ++ (" # -" : Str)))) q := fun q => add_str (small_size (by omega))
  have e1 : op2 ixV (varE 1) (op2 subV (varE 3) (cE (.int 1))) (envR ps rs ((i + 2 : Nat) : Int) W (some (.d (.str m))) x6 x7) st = .ok (.d (.str p1)) st := by
    unfold envR
    simp only [sub1, ix_lst hpD, funD, funX, funK, env0, retS, retN, exprS, setS, seqS, ifS, asgS, parS, nxS, raiseS, varE, cE, op2, andT, orT, notT, notE, ifE, nilA, consA, tupE, lstE, asDs_nil, asDs_cons, asDs_map, callE, callX, bltE, one, truE, sliceE, noO, someO, nameG, tupG, consG, nilG, okIf, negE, bindR_ok, bindR_exc, bindR_err, bindS_ok, bindS_exc, bindS_err, seqR_nx, seqR_ret, seqR_exc, seqR_brk, seqR_cnt, seqR_err, noX_ok, fin_nx, fin_d, fin_exc, fin_scr, eq_str, ne_str, eq_int, ne_int, List.map_cons, List.map_nil, List.cons_append, List.nil_append, List.getElem?_cons_zero, List.getElem?_cons_succ, List.length_cons, List.length_nil, Nat.reduceAdd, Nat.reduceSub, List.replicate_zero, List.replicate_succ, List.set_cons_zero, List.set_cons_succ, List.take_length, Option.bind_some, Bool.not_true, Bool.not_false, if_true, if_false, Bool.false_eq_true, ite_true, ite_false, ite_self, decide_true, decide_false, Nat.zero_le, reduceCtorEq, andE_eq, andK_bl, orE_eq, orK_bl, asB_eq, asK_bl, Option.map_some, sz1, sz2, sz3, sz4, cst1, cst2, cst3]
  have e2 : ifE (asB (op2 (eqV false) (op2 ixV (op2 ixV (varE 2) (op2 subV (varE 3) (cE (.int 2)))) (cE (.int 0))) (varE 5))) (op2 addV (varE 5) (cE (.str (" # -" : Str)))) (op2 ixV (varE 1) (op2 subV (varE 3) (cE (.int 1)))) (envR ps rs ((i + 2 : Nat) : Int) W (some (.d (.str m))) x6 x7) st = .ok (.d (.str (if S s.1 = m then m ++ (" # -" : Str) else p1))) st := by
    unfold envR
    simp only [sub1, sub2, ix_lst hpD, ix_tup hsD, rD, rdata, ix0, a1, funD, funX, funK, env0, retS, retN, exprS, setS, seqS, ifS, asgS, parS, nxS, raiseS, varE, cE, op2, andT, orT, notT, notE, ifE, nilA, consA, tupE, lstE, asDs_nil, asDs_cons, asDs_map, callE, callX, bltE, one, truE, sliceE, noO, someO, nameG, tupG, consG, nilG, okIf, negE, bindR_ok, bindR_exc, bindR_err, bindS_ok, bindS_exc, bindS_err, seqR_nx, seqR_ret, seqR_exc, seqR_brk, seqR_cnt, seqR_err, noX_ok, fin_nx, fin_d, fin_exc, fin_scr, eq_str, ne_str, eq_int, ne_int, List.map_cons, List.map_nil, List.cons_append, List.nil_append, List.getElem?_cons_zero, List.getElem?_cons_succ, List.length_cons, List.length_nil, Nat.reduceAdd, Nat.reduceSub, List.replicate_zero, List.replicate_succ, List.set_cons_zero, List.set_cons_succ, List.take_length, Option.bind_some, Bool.not_true, Bool.not_false, if_true, if_false, Bool.false_eq_true, ite_true, ite_false, ite_self, decide_true, decide_false, Nat.zero_le, reduceCtorEq, andE_eq, andK_bl, orE_eq, orK_bl, asB_eq, asK_bl, Option.map_some, sz1, sz2, sz3, sz4, cst1, cst2, cst3]
    by_cases e : S s.1 = m <;> simp only [e, decide_true, decide_false, if_true, if_false, Bool.false_eq_true]
  have e3 : op2 addV (op2 ixV (op2 ixV (varE 2) (cE (.int 0))) (cE (.int 0))) (cE (.str (" # -" : Str))) (envR ps rs ((i + 2 : Nat) : Int) W (some (.d (.str m))) x6 x7) st = .ok (.d (.str (S r0.1 ++ (" # -" : Str)))) st := by
    unfold envR
    simp only [i0, rD, rdata, ix0, a2, funD, funX, funK, env0, retS, retN, exprS, setS, seqS, ifS, asgS, parS, nxS, raiseS, varE, cE, op2, andT, orT, notT, notE, ifE, nilA, consA, tupE, lstE, asDs_nil, asDs_cons, asDs_map, callE, callX, bltE, one, truE, sliceE, noO, someO, nameG, tupG, consG, nilG, okIf, negE, bindR_ok, bindR_exc, bindR_err, bindS_ok, bindS_exc, bindS_err, seqR_nx, seqR_ret, seqR_exc, seqR_brk, seqR_cnt, seqR_err, noX_ok, fin_nx, fin_d, fin_exc, fin_scr, eq_str, ne_str, eq_int, ne_int, List.map_cons, List.map_nil, List.cons_append, List.nil_append, List.getElem?_cons_zero, List.getElem?_cons_succ, List.length_cons, List.length_nil, Nat.reduceAdd, Nat.reduceSub, List.replicate_zero, List.replicate_succ, List.set_cons_zero, List.set_cons_succ, List.take_length, Option.bind_some, Bool.not_true, Bool.not_false, if_true, if_false, Bool.false_eq_true, ite_true, ite_false, ite_self, decide_true, decide_false, Nat.zero_le, reduceCtorEq, andE_eq, andK_bl, orE_eq, orK_bl, asB_eq, asK_bl, Option.map_some, sz1, sz2, sz3, sz4, cst1, cst2, cst3]
  have le := lst_ev2 (ρ := envR ps rs ((i + 2 : Nat) : Int) W (some (.d (.str m))) x6 x7) (st := st) [(op2 ixV (varE 1) (op2 subV (varE 3) (cE (.int 1))), p1), (ifE (asB (op2 (eqV false) (op2 ixV (op2 ixV (varE 2) (op2 subV (varE 3) (cE (.int 2)))) (cE (.int 0))) (varE 5))) (op2 addV (varE 5) (cE (.str (" # -" : Str)))) (op2 ixV (varE 1) (op2 subV (varE 3) (cE (.int 1)))), if S s.1 = m then m ++ (" # -" : Str) else p1), (op2 addV (op2 ixV (op2 ixV (varE 2) (cE (.int 0))) (cE (.int 0))) (cE (.str (" # -" : Str))), S r0.1 ++ (" # -" : Str))]
    (List.forall_mem_cons.mpr ⟨e1, List.forall_mem_cons.mpr ⟨e2, List.forall_mem_cons.mpr ⟨e3, fun _ z => by cases z⟩⟩⟩) (by simp)
  unfold sD
  rw [if_yes t0]
  refine (set_ok (add4 (ys := W.map D.str) rfl le (by simp; omega))).trans ?_
  unfold envR
  simp only [List.set_cons_zero, List.set_cons_succ, List.map_append, List.map_cons, List.map_nil]
end
end K50
end

section
set_option Elab.async false
set_option linter.all false
set_option autoImplicit false
set_option maxRecDepth 100000
set_option maxHeartbeats 1000000
/-! KP21: _law_refused answers True. -/
namespace K50
open PySem DL
theorem cut_from {xs : List D} {j : Nat} (h : j ≤ xs.length) {st : Store} : slV (.d (.lst xs)) (some (j : Int)) none st = .ok (.d (.lst (xs.drop j))) st := by
  have : cutD xs (some (j : Int)) none = xs.drop j := by
    unfold cutD
    rw [HT.sIx_none, HT.sIx_nat, Nat.min_eq_left h, List.take_of_length_le (by rw [List.length_drop]; omega)]
  simp only [slV, listOrScr, DL.listOf, this]
theorem sB_ok {ρ : DL.Env} {st : Store} : sB ρ st = .nx (ρ.set 4 (some (.d (.lst (wrong0.map D.str))))) st := by
  have h := lst_ev2 (ρ := ρ) (st := st) (wrong0.map fun z => (cE (.str z), z)) (fun p hp => by
    obtain ⟨z, _, rfl⟩ := List.mem_map.mp hp
    rfl) (by simp [wrong0])
  have e : ((wrong0.map fun z => ((cE (.str z) : SE), z)).map fun p => D.str p.2) = wrong0.map D.str := by rw [List.map_map]; rfl
  rw [e] at h
  exact set_ok h
def wrongOK (rs : List Rl) : Nat → Str → Prop
  | 0, w => nameB w.cps.toList = false ∧ Fit w
  | j + 1, w => badB (rs.take j) w ∧ Fit w
theorem wrongs_len (m l : Str) : (wrongs m l).length = 34 := by simp [wrongs, wrongs1, wrongs2, wrongs3, wrongs4]
theorem it_ok {ρ : DL.Env} {st : Store} {xs : List Str} {k : Nat} (h1 : ρ[1]? = some (some (Val.d (.lst (xs.map D.str))))) (h3 : ρ[3]? = some (some (Val.d (.int (k : Int))))) (hk : k + 1 ≤ xs.length) : seqI (sliceE (varE 1) (someO (op2 addV (varE 3) (cE (.int 1)))) noO) ρ st = .ok ((xs.drop (k + 1)).map fun p => Val.d (.str p)) st := by
  have v1 : varE 1 ρ st = .ok (.d (.lst (xs.map D.str))) st := by unfold varE; rw [h1]
  have v3 : varE 3 ρ st = .ok (.d (.int (k : Int))) st := by unfold varE; rw [h3]
  have sl : sliceE (varE 1) (someO (op2 addV (varE 3) (cE (.int 1)))) noO ρ st = .ok (.d (.lst ((xs.map D.str).drop (k + 1)))) st := by
    unfold sliceE
    rw [v1, bindR_ok]
    have so : someO (op2 addV (varE 3) (cE (.int 1))) ρ st = .ok (some ((k + 1 : Nat) : Int)) st := by
      unfold someO op2 cE
      rw [v3, bindR_ok, bindR_ok, add_int, bindR_ok]
      rfl
    rw [so, bindR_ok]
    show bindR (R.ok none st) _ = _
    rw [bindR_ok, cut_from (by rw [List.length_map]; exact hk)]
  unfold seqI
  rw [sl, bindR_ok]
  have im : itemsOf (.d (.lst ((xs.map D.str).drop (k + 1)))) = some ((xs.drop (k + 1)).map fun p => Val.d (.str p)) := by
    show some (((xs.map D.str).drop (k + 1)).map Val.d) = _
    rw [← List.map_drop, List.map_map]
    rfl
  simp only [im]
theorem consA_one {f : SE} {ρ : DL.Env} {st st' : Store} {a : Val} (h : f ρ st = .ok a st') : consA f nilA ρ st = .ok [a] st' := by
  unfold consA nilA
  rw [h]
  rfl
theorem call_one {F : List Val → Store → R Val} {f : SE} {ρ : DL.Env} {st st' st2 : Store} {a v : Val} (h : f ρ st = .ok a st') (h2 : F [a] st' = .ok v st2) : callE F (consA f nilA) ρ st = .ok v st2 := by
  unfold callE
  rw [consA_one h, bindR_ok, h2, noX_ok]
theorem sum_fit : ∀ zs : List Str, (∀ x ∈ zs, Fit x) → (zs.map (·.length)).sum ≤ 1000 * zs.length
  | [], _ => by simp
  | z :: zs, h => by
    have a := (h z List.mem_cons_self).few
    have b := sum_fit zs fun x hx => h x (List.mem_cons_of_mem _ hx)
    simp only [List.map_cons, List.sum_cons, List.length_cons]
    omega
theorem sF_ok {ρ : DL.Env} {st st' : Store} {P W ls : List Str} {k : Nat} {w : Str} {x : D} (h0 : ρ[0]? = some (some (Val.ref 1))) (h1 : ρ[1]? = some (some (Val.d (.lst (P.map D.str))))) (h3 : ρ[3]? = some (some (Val.d (.int (k : Int))))) (h4 : ρ[4]? = some (some (Val.d (.lst (W.map D.str))))) (h8 : ρ[8]? = some (some (Val.d (.lst (ls.map D.str))))) (hk : k ≤ P.length)
    (e3 : F__law_of [.ref 1, .d (.lst (W.map D.str))] st = .ok (.d (.str w)) st') (told : F__law_told [.d (.str (Txt.join (S [44, 32]) (P.take k ++ [w] ++ ls)))] st' = .ok (.d x) st') (hf : ∀ z ∈ P.take k ++ [w] ++ ls, Fit z) (hl : (P.take k ++ [w] ++ ls).length ≤ 50) : sF ρ st = .nx (ρ.set 9 (some (.d x))) st' := by
  have v0 : varE 0 ρ st = .ok (.ref 1) st := by unfold varE; rw [h0]
  have v1 : varE 1 ρ st = .ok (.d (.lst (P.map D.str))) st := by unfold varE; rw [h1]
  have v3 : varE 3 ρ st = .ok (.d (.int (k : Int))) st := by unfold varE; rw [h3]
  have v4 : varE 4 ρ st = .ok (.d (.lst (W.map D.str))) st := by unfold varE; rw [h4]
  have v8 : varE 8 ρ st' = .ok (.d (.lst (ls.map D.str))) st' := by unfold varE; rw [h8]
  rw [List.length_append, List.length_append, List.length_singleton] at hl
  have sl : sliceE (varE 1) noO (someO (varE 3)) ρ st = .ok (.d (.lst ((P.take k).map D.str))) st := by
    unfold sliceE
    rw [v1, bindR_ok]
    show bindR (R.ok none st) _ = _
    rw [bindR_ok]
    have so : someO (varE 3) ρ st = .ok (some (k : Int)) st := by
      unfold someO
      rw [v3, bindR_ok]
    rw [so, bindR_ok, cut_to (by rw [List.length_map]; exact hk), List.map_take]
  have one_ : lstE (consA (callE F__law_of (consA (varE 0) (consA (varE 4) nilA))) nilA) ρ st = .ok (.d (.lst ([w].map D.str))) st' := by
    have c : callE F__law_of (consA (varE 0) (consA (varE 4) nilA)) ρ st = .ok (.d (.str w)) st' := by
      unfold callE
      rw [consA_ok v0 (consA_ok v4 (show nilA _ _ = .ok [] _ from rfl)), bindR_ok, e3, noX_ok]
    unfold lstE
    have d := consA_one c
    rw [d, bindR_ok]
    show (if 1 ≤ sizeLine then R.ok (Val.d (.lst [.str w])) st' else R.err) = _
    rw [if_pos (small_size (by omega))]
    rfl
  have add1 : op2 addV (sliceE (varE 1) noO (someO (varE 3))) (lstE (consA (callE F__law_of (consA (varE 0) (consA (varE 4) nilA))) nilA)) ρ st = .ok (.d (.lst ((P.take k ++ [w]).map D.str))) st' := by
    unfold op2
    rw [sl, bindR_ok, one_, bindR_ok, add_lst (small_size (by rw [List.length_map, List.length_map, List.length_singleton]; omega)), ← List.map_append]
  have add2 : op2 addV (op2 addV (sliceE (varE 1) noO (someO (varE 3))) (lstE (consA (callE F__law_of (consA (varE 0) (consA (varE 4) nilA))) nilA))) (varE 8) ρ st = .ok (.d (.lst ((P.take k ++ [w] ++ ls).map D.str))) st' := by
    have e : op2 addV (op2 addV (sliceE (varE 1) noO (someO (varE 3))) (lstE (consA (callE F__law_of (consA (varE 0) (consA (varE 4) nilA))) nilA))) (varE 8) ρ st = bindR (op2 addV (sliceE (varE 1) noO (someO (varE 3))) (lstE (consA (callE F__law_of (consA (varE 0) (consA (varE 4) nilA))) nilA)) ρ st) fun a st => bindR (varE 8 ρ st) fun b st => addV a b st := rfl
    rw [e, add1, bindR_ok, v8, bindR_ok, add_lst (small_size (by rw [List.length_map, List.length_map, List.length_append, List.length_singleton]; omega)), ← List.map_append]
  have sm := sum_fit _ hf
  have jn : tm1E joinV (cE (.str (", " : Str))) (op2 addV (op2 addV (sliceE (varE 1) noO (someO (varE 3))) (lstE (consA (callE F__law_of (consA (varE 0) (consA (varE 4) nilA))) nilA))) (varE 8)) ρ st = .ok (.d (.str (Txt.join (S [44, 32]) (P.take k ++ [w] ++ ls)))) st' := by
    unfold tm1E
    show bindR (op2 addV _ (varE 8) ρ st) (fun v st => joinV (", " : Str) v st) = _
    rw [add2, bindR_ok, c_sep, join_lst]
    rw [S_len]
    simp only [List.length_append, List.length_singleton, List.length_cons, List.length_nil] at sm ⊢
    omega
  unfold sF
  exact set_ok (call_one jn told)
theorem sG_ok {ρ : DL.Env} {st : Store} {k : Nat} (h3 : ρ[3]? = some (some (Val.d (.int (k : Int))))) (h9 : ρ[9]? = some (some (Val.d (dErr (k : Int))))) (hk : k ≤ 12) : sG ρ st = .ret (.d (.bl true)) st := by
  have v3 : varE 3 ρ st = .ok (.d (.int (k : Int))) st := by unfold varE; rw [h3]
  have v9 : varE 9 ρ st = .ok (.d (dErr (k : Int))) st := by unfold varE; rw [h9]
  have r := repr_err k hk st
  have e : lstE (consA (cE (.str ("text" : Str))) (consA (varE 3) (consA (cE (.bl true)) (consA (cE (.bl false)) nilA)))) ρ st = .ok (.d (dErr (k : Int))) st := by
    unfold lstE
    rw [consA_ok (a := .d (.str ("text" : Str))) rfl (consA_ok v3 (consA_ok (a := .d (.bl true)) rfl (consA_ok (a := .d (.bl false)) rfl (show nilA _ _ = .ok [] _ from rfl)))), bindR_ok]
    show (if 4 ≤ sizeLine then R.ok (Val.d (dErr (k : Int))) st else R.err) = _
    exact if_pos (small_size (by omega))
  have b1 : bltE (one reprV) (consA (varE 9) nilA) ρ st = .ok (.d (.str (pyErr k).shown)) st := by
    unfold bltE
    rw [consA_ok v9 (show nilA _ _ = .ok [] _ from rfl), bindR_ok]
    exact r
  have b2 : bltE (one reprV) (consA (lstE (consA (cE (.str ("text" : Str))) (consA (varE 3) (consA (cE (.bl true)) (consA (cE (.bl false)) nilA))))) nilA) ρ st = .ok (.d (.str (pyErr k).shown)) st := by
    unfold bltE
    rw [consA_ok e (show nilA _ _ = .ok [] _ from rfl), bindR_ok]
    exact r
  unfold sG retS op2
  rw [b1, bindR_ok, b2, bindR_ok, eq_str, decide_eq_true rfl, bindS_ok]
theorem wrong_ok {mode : Str} {rs : List Rl} (hr : ∀ r ∈ rs, RuleOK r) (hp : rs.Pairwise lt_) {k : Nat} (hk : k ≤ rs.length) (st : Store) : ∃ (W : List Str) (x5 x6 x7 : Option Val), (∀ rest : SS, seqS sC (seqS sD rest) (envR (mode :: rs.map pieceS) rs (k : Int) wrong0 none none none) st = rest (envR (mode :: rs.map pieceS) rs (k : Int) W x5 x6 x7) st) ∧ W ≠ [] ∧ W.length ≤ 100 ∧ ∀ w ∈ W, wrongOK rs k w := by
  match k, hk with
  | 0, hk =>
    refine ⟨wrong0, none, none, none, fun rest => ?_, by simp [wrong0], by simp [wrong0], fun w hw => ?_⟩
    · have e0 : ((0 : Nat) : Int) = 0 := rfl
      rw [e0, seq_nx sC_no, seq_nx (sD_no (by omega))]
    · obtain ⟨a, b, c⟩ := refused_0 w hw
      exact ⟨a, b, c⟩
  | j + 1, hk =>
    have hj : j < rs.length := by omega
    have hrj : rs[j]? = some rs[j] := List.getElem?_eq_getElem hj
    have ok := hr rs[j] (List.getElem_mem hj)
    have wl := wrongs_len (S rs[j].1) (S rs[j].2.1)
    have wb : ∀ w ∈ wrongs (S rs[j].1) (S rs[j].2.1), wrongOK rs (j + 1) w := fun w hw => wrong_bad ok.m ok.l hw _
    by_cases hj0 : j = 0
    · refine ⟨wrongs (S rs[j].1) (S rs[j].2.1), some (.d (.str (S rs[j].1))), some (.d (.str (S rs[j].2.1))), some (.d (.str (bodyS (S rs[j].1) (S rs[j].2.1)))), fun rest => ?_, ?_, ?_, wb⟩
      · rw [seq_nx (sC_ok hrj ok), seq_nx (sD_no (by omega))]
      · intro z; rw [z] at wl; simp at wl
      · omega
    · obtain ⟨i, hi1⟩ : ∃ i, j = i + 1 := ⟨j - 1, by omega⟩
      have hi : i < rs.length := by omega
      have hs : rs[i]? = some rs[i] := List.getElem?_eq_getElem hi
      have oks := hr rs[i] (List.getElem_mem hi)
      have h0 : rs[0]? = some rs[0] := List.getElem?_eq_getElem (by omega)
      have ok0 := hr rs[0] (List.getElem_mem (by omega))
      have hp1 : (mode :: rs.map pieceS)[i + 1]? = some (pieceS rs[i]) := by rw [List.getElem?_cons_succ, List.getElem?_map, hs]; rfl
      have last : (rs.take j).getLast? = some rs[i] := by
        rw [List.getLast?_eq_getElem?, List.length_take, Nat.min_eq_left (by omega), List.getElem?_take, if_pos (by omega), hi1, Nat.add_sub_cancel]
        exact hs
      have ek : ((j + 1 : Nat) : Int) = ((i + 2 : Nat) : Int) := by omega
      refine ⟨wrongs (S rs[j].1) (S rs[j].2.1) ++ [pieceS rs[i], if S rs[i].1 = S rs[j].1 then S rs[j].1 ++ (" # -" : Str) else pieceS rs[i], S rs[0].1 ++ (" # -" : Str)], some (.d (.str (S rs[j].1))), some (.d (.str (S rs[j].2.1))), some (.d (.str (bodyS (S rs[j].1) (S rs[j].2.1)))), fun rest => ?_, ?_, ?_, ?_⟩
      · rw [seq_nx (sC_ok hrj ok), ek]
        exact seq_nx (sD_ok hp1 hs h0 (by omega) (body_len _ ok.m _ ok.l).2 (body_len _ ok0.m _ ok0.l).2)
      · intro z; have := congrArg List.length z; rw [List.length_append, List.length_nil] at this; simp at this
      · rw [List.length_append]; simp; omega
      · intro w hw
        rcases List.mem_append.mp hw with hw | hw
        · exact wb w hw
        · simp only [List.mem_cons, List.mem_nil_iff, or_false] at hw
          have sb := same_bad oks last
          rcases hw with hw | hw | hw
          · rw [hw]; exact sb
          · rw [hw]
            by_cases e : S rs[i].1 = S rs[j].1
            · rw [if_pos e]
              refine bare_bad ok.m last ?_
              rw [← e]
              exact (le_self _ oks.m _ oks.l).2
            · rw [if_neg e]
              exact sb
          · rw [hw]
            refine bare_bad ok0.m last ?_
            by_cases c : i = 0
            · subst c
              exact (le_self _ oks.m _ oks.l).2
            · have := List.pairwise_iff_getElem.mp hp 0 i (by omega) hi (by omega)
              exact le_first _ oks.m _ oks.l _ ok0.m _ ok0.l this
theorem fit_nil : Fit ("" : Str) := ⟨by decide +kernel, by decide +kernel⟩
theorem refused_ok {mode : Str} {rs : List Rl} (hm : mode ∈ MDS) (hr : ∀ r ∈ rs, RuleOK r) (hp : rs.Pairwise lt_) (hl : rs.length ≤ 12) (cs : List Int) (mix : Int) (t : Store) (hc : cs.length ≤ 63) : ∃ cs' mix', F__law_refused [.ref 1, .d (.lst ((mode :: rs.map pieceS).map D.str)), .d (.tup (rs.map rD))] (stD cs mix t) = .ok (.d (.bl true)) (stD cs' mix' t) ∧ cs'.length ≤ 63 := by
  have hlen : ((mode :: rs.map pieceS).map D.str).length = rs.length + 1 := by simp
  have fitP_ : ∀ x ∈ mode :: rs.map pieceS, Fit x := fun x hx => by
    rcases List.mem_cons.mp hx with rfl | hx
    · exact mode_fit hm
    · obtain ⟨r, h, rfl⟩ := List.mem_map.mp hx
      exact piece_fit (hr r h)
  obtain ⟨v, c1, m1, e1, v0, v1, l1⟩ := any_ok cs mix t ((rs.length + 1 : Nat) : Int) hc (by omega) (by omega)
  obtain ⟨k, rfl⟩ : ∃ n : Nat, v = n := ⟨v.toNat, by omega⟩
  have hk : k ≤ rs.length := by omega
  obtain ⟨W, x5, x6, x7, eW, W0, Wl, Wok⟩ := wrong_ok (mode := mode) hr hp hk (stD c1 m1 t)
  obtain ⟨ls, c2, m2, e2, l2, n2, g2⟩ := later_ok (ρ := envR (mode :: rs.map pieceS) rs (k : Int) W x5 x6 x7) (t := t) rfl rfl ((mode :: rs.map pieceS).drop (k + 1)) [] c1 m1 l1 (by rw [List.length_drop]; simp; omega)
  obtain ⟨y, c3, m3, hy, e3, l3⟩ := of_ok c2 m2 t (W.map D.str) l2 (by simpa using W0) (by rw [List.length_map]; omega)
  obtain ⟨w, hw, rfl⟩ := List.mem_map.mp hy
  have wok := Wok w hw
  have lfit : ∀ x ∈ ls, Fit x := fun x hx => by
    rcases g2 x hx with rfl | h
    · exact fit_nil
    · exact fitP_ x (List.mem_of_mem_drop h)
  have ll : ls.length ≤ 12 := by rw [n2, List.length_drop]; simp; omega
  have told : F__law_told [.d (.str (Txt.join (S [44, 32]) ((mode :: rs.map pieceS).take k ++ [w] ++ ls)))] (stD c3 m3 t) = .ok (.d (dErr (k : Int))) (stD c3 m3 t) := by
    match k, hk, wok with
    | 0, _, wok => exact bad_told0 wok.1 wok.2 lfit ll _
    | j + 1, hk, wok =>
      have q := bad_told (mode := mode) (qs := rs.take j) (b := w) (later := ls) hm (fun r h => hr r (List.mem_of_mem_take h)) (hp.sublist (List.take_sublist _ _)) (by rw [List.length_take]; omega) wok.1 wok.2 lfit ll (stD c3 m3 t)
      have e : (mode :: rs.map pieceS).take (j + 1) ++ [w] ++ ls = mode :: ((rs.take j).map pieceS ++ w :: ls) := by simp [List.map_take]
      rw [e, q, List.length_take, Nat.min_eq_left (by omega)]
  have kp : k + 1 ≤ ((mode :: rs.map pieceS).map D.str).length := by rw [hlen]; omega
  have tk : ∀ (a : List Int) (m : Int), (stD a m t).take (stD cs mix t).length = stD a m t := fun a m => List.take_of_length_le (by simp [stD])
  have A1 : sA [some (.ref 1), some (.d (.lst ((mode :: rs.map pieceS).map D.str))), some (.d (.tup (rs.map rD))), none, none, none, none, none, none, none, none] (stD cs mix t) = .nx [some (.ref 1), some (.d (.lst ((mode :: rs.map pieceS).map D.str))), some (.d (.tup (rs.map rD))), some (.d (.int k)), none, none, none, none, none, none, none] (stD c1 m1 t) := by
    have e1' := e1
    rw [← hlen] at e1'
    unfold sA
    refine set_ok ?_
    unfold callE
    rw [consA_ok (a := .ref 1) rfl (consA_ok (a := .d (.int (((mode :: rs.map pieceS).map D.str).length : Nat))) (show bltE (one lenV) (consA (varE 1) nilA) _ _ = _ by unfold bltE; rw [consA_ok (a := .d (.lst ((mode :: rs.map pieceS).map D.str))) rfl (show nilA _ _ = .ok [] _ from rfl), bindR_ok]; exact len_lst) (show nilA _ _ = .ok [] _ from rfl)), bindR_ok, e1']
    rfl
  have E1 : sE (envR (mode :: rs.map pieceS) rs (k : Int) W x5 x6 x7) (stD c1 m1 t) = .nx ((envR (mode :: rs.map pieceS) rs (k : Int) W x5 x6 x7).set 8 (some (.d (.lst (ls.map D.str))))) (stD c2 m2 t) := by
    unfold sE
    refine set_ok ?_
    unfold lcE
    have it := it_ok (ρ := envR (mode :: rs.map pieceS) rs (k : Int) W x5 x6 x7) (st := stD c1 m1 t) (xs := mode :: rs.map pieceS) (k := k) rfl rfl (by simp; omega)
    rw [it, bindR_ok, e2, bindR_ok, List.nil_append]
    rfl
  have F1 := sF_ok (ρ := (envR (mode :: rs.map pieceS) rs (k : Int) W x5 x6 x7).set 8 (some (.d (.lst (ls.map D.str))))) (P := mode :: rs.map pieceS) (W := W) (ls := ls) (k := k) rfl rfl rfl rfl rfl (by simp; omega) e3 told (fun z hz => by
    rcases List.mem_append.mp hz with hz | hz
    · rcases List.mem_append.mp hz with hz | hz
      · exact fitP_ z (List.mem_of_mem_take hz)
      · rw [List.mem_singleton.mp hz]
        match k, wok with
        | 0, wok => exact wok.2
        | j + 1, wok => exact wok.2
    · exact lfit z hz) (by simp only [List.length_append, List.length_take, List.length_singleton]; omega)
  have G1 := sG_ok (ρ := ((envR (mode :: rs.map pieceS) rs (k : Int) W x5 x6 x7).set 8 (some (.d (.lst (ls.map D.str))))).set 9 (some (.d (dErr k)))) (st := stD c3 m3 t) (k := k) rfl rfl (by omega)
  refine ⟨c3, m3, ?_, l3⟩
  unfold F__law_refused funD
  rw [g_split]
  show noX (fin _ (seqS sA _ [some (.ref 1), some (.d (.lst ((mode :: rs.map pieceS).map D.str))), some (.d (.tup (rs.map rD))), none, none, none, none, none, none, none, none] _)) = _
  rw [seq_nx A1, seq_nx sB_ok]
  show noX (fin _ (seqS sC _ (envR (mode :: rs.map pieceS) rs (k : Int) wrong0 none none none) _)) = _
  rw [eW, seq_nx E1, seq_nx F1, G1, fin_d, tk, noX_ok]
end K50
end

section
set_option Elab.async false
set_option linter.all false
set_option autoImplicit false
set_option maxRecDepth 100000
set_option maxHeartbeats 1000000
/-! KP22: _law_deal. -/
namespace K50
open PySem DL
theorem filt_ok {c : ST} {ρ0 : DL.Env} {st : Store} (hc : ∀ i : Int, ∃ b, c (ρ0.set 4 (some (Val.d (.int i)))) st = .ok b st) (h4 : 4 < ρ0.length) : ∀ (xs : List Int) (acc : List Int), acc.length + xs.length ≤ 1000 → ∃ ys : List Int, lcL (nameG 4) c (varE 4) ρ0 (xs.map fun i => Val.d (.int i)) (acc.map D.int) st = .ok (ys.map D.int) st ∧ ys.length ≤ acc.length + xs.length
  | [], acc, _ => ⟨acc, rfl, by simp⟩
  | x :: xs, acc, hl => by
    rw [List.length_cons] at hl
    obtain ⟨b, hb⟩ := hc x
    have gn : nameG 4 (Val.d (.int x)) ρ0 = some (ρ0.set 4 (some (Val.d (.int x)))) := rfl
    have v4 : varE 4 (ρ0.set 4 (some (Val.d (.int x)))) st = .ok (.d (.int x)) st := by unfold varE; rw [List.getElem?_set_self h4]
    have hl' : (acc.map D.int).length < sizeLine := by rw [List.length_map]; exact Nat.lt_of_lt_of_le (show acc.length < 100000 by omega) (small_size (Nat.le_refl _))
    cases b with
    | true =>
      obtain ⟨ys, e, l⟩ := filt_ok hc h4 xs (acc ++ [x]) (by rw [List.length_append, List.length_singleton]; omega)
      refine ⟨ys, ?_, by rw [List.length_append, List.length_singleton] at l; rw [List.length_cons]; omega⟩
      simp only [List.map_cons, lcL, gn, hb, noX_ok, bindR_ok, if_true, v4, if_pos hl']
      rw [List.map_append] at e
      exact e
    | false =>
      obtain ⟨ys, e, l⟩ := filt_ok hc h4 xs acc (by omega)
      refine ⟨ys, ?_, by rw [List.length_cons]; omega⟩
      simp only [List.map_cons, lcL, gn, hb, noX_ok, bindR_ok, Bool.false_eq_true, if_false]
      exact e
def bodyM : SS := (setS 3 (op2 modV (bltE (one intV) (consA (op2 addV (op2 addV (op2 mulV (varE 3) (cE (.int 48271))) (op2 modV (varE 4) (cE (.int 2147483563)))) (cE (.int 67))) nilA)) (cE (.int 2147483647))))
theorem mix_ok {a b c : Option Val} {st : Store} : ∀ (xs : List Int) (mix : Int), ∃ mix' : Int, forL (nameG 4) bodyM [4] (xs.map fun i => Val.d (.int i)) [a, b, c, some (.d (.int mix)), none] st = .nx [a, b, c, some (.d (.int mix')), none] st
  | [], mix => ⟨mix, rfl⟩
  | x :: xs, mix => by
    have mu : mulV (.d (.int mix)) (.d (.int 48271)) st = .ok (.d (.int (mix * 48271))) st := by
      unfold mulV
      have : small64 48271 = true := by decide +kernel
      simp only [this, Bool.or_true, if_true]
    have m1 : ∀ y : Int, modV (.d (.int y)) (.d (.int 2147483563)) st = .ok (.d (.int (y % 2147483563))) st := fun y => by unfold modV; exact if_pos (by decide)
    have m2 : ∀ y : Int, modV (.d (.int y)) (.d (.int 2147483647)) st = .ok (.d (.int (y % 2147483647))) st := fun y => by unfold modV; exact if_pos (by decide)
    obtain ⟨mix', e⟩ := mix_ok (a := a) (b := b) (c := c) (st := st) xs ((mix * 48271 + x % 2147483563 + 67) % 2147483647)
    refine ⟨mix', ?_⟩
    simp only [List.map_cons, forL, bodyM, mu, m1, m2, add_int, intV, loopR_nx, forget, funD, funX, funK, env0, retS, retN, exprS, setS, seqS, ifS, asgS, parS, nxS, raiseS, varE, cE, op2, andT, orT, notT, notE, ifE, nilA, consA, tupE, lstE, asDs_nil, asDs_cons, asDs_map, callE, callX, bltE, one, truE, sliceE, noO, someO, nameG, tupG, consG, nilG, okIf, negE, bindR_ok, bindR_exc, bindR_err, bindS_ok, bindS_exc, bindS_err, seqR_nx, seqR_ret, seqR_exc, seqR_brk, seqR_cnt, seqR_err, noX_ok, fin_nx, fin_d, fin_exc, fin_scr, eq_str, ne_str, eq_int, ne_int, List.map_cons, List.map_nil, List.cons_append, List.nil_append, List.getElem?_cons_zero, List.getElem?_cons_succ, List.length_cons, List.length_nil, Nat.reduceAdd, Nat.reduceSub, List.replicate_zero, List.replicate_succ, List.set_cons_zero, List.set_cons_succ, List.take_length, Option.bind_some, Bool.not_true, Bool.not_false, if_true, if_false, Bool.false_eq_true, ite_true, ite_false, ite_self, decide_true, decide_false, Nat.zero_le, reduceCtorEq, andE_eq, andK_bl, orE_eq, orK_bl, asB_eq, asK_bl, Option.map_some, sz1, sz2, sz3, sz4, cst1, cst2, cst3]
    exact e
theorem deal_ok (ns : List Int) (h : ns.length ≤ 63) : ∃ cs mix, F__law_deal [.scr (ns.map D.int), .d (.int 50)] [] = .ok (.ref 1) (stD cs mix []) ∧ cs.length ≤ 63 := by
  have sl : slV (.scr (ns.map D.int)) none (some 63) [] = .ok (.d (.lst (ns.map D.int))) [] := by
    have : cutD (ns.map D.int) none (some 63) = ns.map D.int := by
      unfold cutD
      rw [HT.sIx_none, show (63 : Int) = ((63 : Nat) : Int) from rfl, HT.sIx_nat, List.drop_zero, Nat.sub_zero, List.take_of_length_le (by rw [List.length_map]; omega)]
    simp only [slV, listOrScr, this]
  have im : ∀ xs : List Int, itemsOf (.d (.lst (xs.map D.int))) = some (xs.map fun i => Val.d (.int i)) := fun xs => by
    simp only [itemsOf, List.map_map]
    rfl
  have ab : lcL (nameG 4) yesT (bltE (one absV) (consA (bltE (one intV) (consA (varE 4) nilA)) nilA)) [some (.scr (ns.map D.int)), some (.d (.int 50)), none, none, none] (ns.map fun i => Val.d (.int i)) [] [] = .ok ((ns.map fun i => if i < 0 then -i else i).map D.int) [] := by
    have := lc_mapP (g := nameG 4) (f := bltE (one absV) (consA (bltE (one intV) (consA (varE 4) nilA)) nilA)) (ρ0 := [some (.scr (ns.map D.int)), some (.d (.int 50)), none, none, none]) (st := []) (fun i : Int => Val.d (.int i)) (fun i => D.int (if i < 0 then -i else i)) ns [] (fun x _ => ⟨_, rfl, by simp only [intV, absV, funD, funX, funK, env0, retS, retN, exprS, setS, seqS, ifS, asgS, parS, nxS, raiseS, varE, cE, op2, andT, orT, notT, notE, ifE, nilA, consA, tupE, lstE, asDs_nil, asDs_cons, asDs_map, callE, callX, bltE, one, truE, sliceE, noO, someO, nameG, tupG, consG, nilG, okIf, negE, bindR_ok, bindR_exc, bindR_err, bindS_ok, bindS_exc, bindS_err, seqR_nx, seqR_ret, seqR_exc, seqR_brk, seqR_cnt, seqR_err, noX_ok, fin_nx, fin_d, fin_exc, fin_scr, eq_str, ne_str, eq_int, ne_int, List.map_cons, List.map_nil, List.cons_append, List.nil_append, List.getElem?_cons_zero, List.getElem?_cons_succ, List.length_cons, List.length_nil, Nat.reduceAdd, Nat.reduceSub, List.replicate_zero, List.replicate_succ, List.set_cons_zero, List.set_cons_succ, List.take_length, Option.bind_some, Bool.not_true, Bool.not_false, if_true, if_false, Bool.false_eq_true, ite_true, ite_false, ite_self, decide_true, decide_false, Nat.zero_le, reduceCtorEq, andE_eq, andK_bl, orE_eq, orK_bl, asB_eq, asK_bl, Option.map_some, sz1, sz2, sz3, sz4, cst1, cst2, cst3]⟩) (by simp; exact small_size (by omega))
    rw [List.nil_append] at this
    rw [List.map_map]
    exact this
  have hmu : mulV (.d (.int 51869)) (.d (.int 50)) [] = .ok (.d (.int (51869 * 50))) [] := by
    unfold mulV
    have : small64 50 = true := by decide +kernel
    simp only [this, Bool.or_true, if_true]
  obtain ⟨mx, emx⟩ := mix_ok (a := some (.scr (ns.map D.int))) (b := some (.d (.int 50))) (c := some (.d (.lst ((ns.map fun i => if i < 0 then -i else i).map D.int)))) (st := []) (ns.map fun i => if i < 0 then -i else i) (51869 * 50 + 977)
  have pw : powV (.d (.int 10)) (.d (.int 18)) [] = .ok (.d (.int (10 ^ (18 : Int).toNat))) [] := by
    unfold powV
    simp only
    exact if_pos (by decide)
  obtain ⟨ys, ey, ly⟩ := filt_ok (c := asB (op2 geV (varE 4) (op2 powV (cE (.int 10)) (cE (.int 18))))) (ρ0 := [some (.scr (ns.map D.int)), some (.d (.int 50)), some (.d (.lst ((ns.map fun i => if i < 0 then -i else i).map D.int))), some (.d (.int mx)), none]) (st := []) (fun i => ⟨decide ((10 : Int) ^ (18 : Int).toNat ≤ i), by simp only [pw, geV, funD, funX, funK, env0, retS, retN, exprS, setS, seqS, ifS, asgS, parS, nxS, raiseS, varE, cE, op2, andT, orT, notT, notE, ifE, nilA, consA, tupE, lstE, asDs_nil, asDs_cons, asDs_map, callE, callX, bltE, one, truE, sliceE, noO, someO, nameG, tupG, consG, nilG, okIf, negE, bindR_ok, bindR_exc, bindR_err, bindS_ok, bindS_exc, bindS_err, seqR_nx, seqR_ret, seqR_exc, seqR_brk, seqR_cnt, seqR_err, noX_ok, fin_nx, fin_d, fin_exc, fin_scr, eq_str, ne_str, eq_int, ne_int, List.map_cons, List.map_nil, List.cons_append, List.nil_append, List.getElem?_cons_zero, List.getElem?_cons_succ, List.length_cons, List.length_nil, Nat.reduceAdd, Nat.reduceSub, List.replicate_zero, List.replicate_succ, List.set_cons_zero, List.set_cons_succ, List.take_length, Option.bind_some, Bool.not_true, Bool.not_false, if_true, if_false, Bool.false_eq_true, ite_true, ite_false, ite_self, decide_true, decide_false, Nat.zero_le, reduceCtorEq, andE_eq, andK_bl, orE_eq, orK_bl, asB_eq, asK_bl, Option.map_some, sz1, sz2, sz3, sz4, cst1, cst2, cst3]⟩) (by show 4 < 5; decide) (ns.map fun i => if i < 0 then -i else i) [] (by simp; omega)
  refine ⟨ys.reverse, mx, ?_, by rw [List.length_reverse]; simp at ly; omega⟩
  unfold F__law_deal g__law_deal
  simp only [N__law_deal, sl, lcE, seqI, im, forget, ab, lcK, hmu, add_int, funD, funX, funK, env0, retS, retN, exprS, setS, seqS, ifS, asgS, parS, nxS, raiseS, varE, cE, op2, andT, orT, notT, notE, ifE, nilA, consA, tupE, lstE, asDs_nil, asDs_cons, asDs_map, callE, callX, bltE, one, truE, sliceE, noO, someO, nameG, tupG, consG, nilG, okIf, negE, bindR_ok, bindR_exc, bindR_err, bindS_ok, bindS_exc, bindS_err, seqR_nx, seqR_ret, seqR_exc, seqR_brk, seqR_cnt, seqR_err, noX_ok, fin_nx, fin_d, fin_exc, fin_scr, eq_str, ne_str, eq_int, ne_int, List.map_cons, List.map_nil, List.cons_append, List.nil_append, List.getElem?_cons_zero, List.getElem?_cons_succ, List.length_cons, List.length_nil, Nat.reduceAdd, Nat.reduceSub, List.replicate_zero, List.replicate_succ, List.set_cons_zero, List.set_cons_succ, List.take_length, Option.bind_some, Bool.not_true, Bool.not_false, if_true, if_false, Bool.false_eq_true, ite_true, ite_false, ite_self, decide_true, decide_false, Nat.zero_le, reduceCtorEq, andE_eq, andK_bl, orE_eq, orK_bl, asB_eq, asK_bl, Option.map_some, sz1, sz2, sz3, sz4, cst1, cst2, cst3]
  rw [forS_eq]
  simp only [seqI, im, funD, funX, funK, env0, retS, retN, exprS, setS, seqS, ifS, asgS, parS, nxS, raiseS, varE, cE, op2, andT, orT, notT, notE, ifE, nilA, consA, tupE, lstE, asDs_nil, asDs_cons, asDs_map, callE, callX, bltE, one, truE, sliceE, noO, someO, nameG, tupG, consG, nilG, okIf, negE, bindR_ok, bindR_exc, bindR_err, bindS_ok, bindS_exc, bindS_err, seqR_nx, seqR_ret, seqR_exc, seqR_brk, seqR_cnt, seqR_err, noX_ok, fin_nx, fin_d, fin_exc, fin_scr, eq_str, ne_str, eq_int, ne_int, List.map_cons, List.map_nil, List.cons_append, List.nil_append, List.getElem?_cons_zero, List.getElem?_cons_succ, List.length_cons, List.length_nil, Nat.reduceAdd, Nat.reduceSub, List.replicate_zero, List.replicate_succ, List.set_cons_zero, List.set_cons_succ, List.take_length, Option.bind_some, Bool.not_true, Bool.not_false, if_true, if_false, Bool.false_eq_true, ite_true, ite_false, ite_self, decide_true, decide_false, Nat.zero_le, reduceCtorEq, andE_eq, andK_bl, orE_eq, orK_bl, asB_eq, asK_bl, Option.map_some, sz1, sz2, sz3, sz4, cst1, cst2, cst3]
  unfold bodyM at emx
  rw [emx]
  simp only [List.map_nil] at ey
  simp only [seqR_nx, retS, newE, consA, revC, lcE, seqI, im, forget, ey, lcK, listOrScr, DL.listOf, funD, funX, funK, env0, retS, retN, exprS, setS, seqS, ifS, asgS, parS, nxS, raiseS, varE, cE, op2, andT, orT, notT, notE, ifE, nilA, consA, tupE, lstE, asDs_nil, asDs_cons, asDs_map, callE, callX, bltE, one, truE, sliceE, noO, someO, nameG, tupG, consG, nilG, okIf, negE, bindR_ok, bindR_exc, bindR_err, bindS_ok, bindS_exc, bindS_err, seqR_nx, seqR_ret, seqR_exc, seqR_brk, seqR_cnt, seqR_err, noX_ok, fin_nx, fin_d, fin_exc, fin_scr, eq_str, ne_str, eq_int, ne_int, List.map_cons, List.map_nil, List.cons_append, List.nil_append, List.getElem?_cons_zero, List.getElem?_cons_succ, List.length_cons, List.length_nil, Nat.reduceAdd, Nat.reduceSub, List.replicate_zero, List.replicate_succ, List.set_cons_zero, List.set_cons_succ, List.take_length, Option.bind_some, Bool.not_true, Bool.not_false, if_true, if_false, Bool.false_eq_true, ite_true, ite_false, ite_self, decide_true, decide_false, Nat.zero_le, reduceCtorEq, andE_eq, andK_bl, orE_eq, orK_bl, asB_eq, asK_bl, Option.map_some, sz1, sz2, sz3, sz4, cst1, cst2, cst3]
  have er : List.map Val.d (List.map D.int ys).reverse = intsV ys.reverse := by
    unfold intsV
    rw [← List.map_reverse, List.map_map]
    rfl
  rw [if_pos ⟨trivial, rfl⟩, bindS_ok, er]
  rfl
end K50
end

section
set_option Elab.async false
set_option linter.all false
set_option autoImplicit false
set_option maxRecDepth 100000
set_option maxHeartbeats 1000000
/-! KP23: repr and == of texts and tuples of texts. -/
namespace K50
open PySem DL
mutual
def flatP : PyData → Bool
  | .str _ => true
  | .tuple xs => flatPs xs
  | _ => false
def flatPs : List PyData → Bool
  | [] => true
  | x :: xs => flatP x && flatPs xs
end
mutual
theorem flat_eqv : ∀ d : PyData, flatP d = true → PyData.eqv d d = true
  | .str x, _ => by simp [PyData.eqv]
  | .tuple xs, h => by
    simp only [PyData.eqv]
    exact flat_eqvs xs (by simpa [flatP] using h)
  | .none, h => by simp [flatP] at h
  | .bool _, h => by simp [flatP] at h
  | .int _, h => by simp [flatP] at h
  | .list _, h => by simp [flatP] at h
  | .dict _, h => by simp [flatP] at h
theorem flat_eqvs : ∀ ds : List PyData, flatPs ds = true → PyData.eqvAll ds ds = true
  | [], _ => rfl
  | d :: ds, h => by
    have h' : flatP d = true ∧ flatPs ds = true := by simpa [flatPs] using h
    simp only [PyData.eqvAll, flat_eqv d h'.1, flat_eqvs ds h'.2, Bool.and_self]
end
mutual
theorem flat_show : ∀ d : PyData, flatP d = true → d.showable = true ∧ d.intsShort 8 = true
  | .str x, _ => ⟨by simp only [PyData.showable], by simp only [PyData.intsShort]⟩
  | .tuple xs, h => by
    have := flat_shows xs (by simpa [flatP] using h)
    exact ⟨by simp only [PyData.showable, this.1], by simp only [PyData.intsShort, this.2]⟩
  | .none, h => by simp [flatP] at h
  | .bool _, h => by simp [flatP] at h
  | .int _, h => by simp [flatP] at h
  | .list _, h => by simp [flatP] at h
  | .dict _, h => by simp [flatP] at h
theorem flat_shows : ∀ ds : List PyData, flatPs ds = true → PyData.showableAll ds = true ∧ PyData.intsShortAll 8 ds = true
  | [], _ => ⟨rfl, rfl⟩
  | d :: ds, h => by
    have h' : flatP d = true ∧ flatPs ds = true := by simpa [flatPs] using h
    have a := flat_show d h'.1
    have b := flat_shows ds h'.2
    exact ⟨by simp only [PyData.showableAll, a.1, b.1, Bool.and_self], by simp only [PyData.intsShortAll, a.2, b.2, Bool.and_self]⟩
end
theorem flat_repr {d : PyData} (hf : flatP d = true) (hy : fitPy 60 d) (hw : d.weight ≤ 2 ^ 20) : reprD d = true := by
  obtain ⟨a, b⟩ := flat_show d hf
  have sh := shaped_of (n := 60) (by omega) hy
  have lay : PyData.layable0 d = true := by
    unfold PyData.layable0
    rw [hy.1, decide_eq_true (Nat.le_trans hy.2 (by omega)), decide_eq_true hw]
    rfl
  have fits := PyData.shown_fits_of_layable0 (B := 8) (by omega) (by omega) lay b
  unfold reprD
  rw [sh, a, decide_eq_true fits]
  rfl
mutual
theorem flat_pyP : ∀ p : Part, flatP (pyP p) = true
  | .keep => rfl
  | .say w => rfl
  | .go w => rfl
  | .node w ps => by simp [pyP, flatP, flatPs, flat_pyPs ps]
theorem flat_pyPs : ∀ ps : List Part, flatPs (pyPs ps) = true
  | [] => rfl
  | p :: ps => by simp [pyPs, flatPs, flat_pyP p, flat_pyPs ps]
end
def rulePy (r : Rl) : PyData := .tuple [.str (S r.1), .str (S r.2.1), .tuple (pyPs r.2.2)]
theorem toPy_rule (r : Rl) : toPy (rD r) = some (rulePy r) := by
  simp only [rD, rdata, toPy, toPys, toPys_toDs, Option.map_some, rulePy]
theorem toPys_rules : ∀ rs : List Rl, toPys (rs.map rD) = some (rs.map rulePy)
  | [] => rfl
  | r :: rs => by simp only [List.map_cons, toPys, toPy_rule, toPys_rules rs]
theorem flat_rules : ∀ rs : List Rl, flatPs (rs.map rulePy) = true
  | [] => rfl
  | r :: rs => by simp [flatPs, flatP, rulePy, flat_pyPs, flat_rules rs]
end K50
end

section
set_option Elab.async false
set_option linter.all false
set_option autoImplicit false
set_option maxRecDepth 100000
set_option maxHeartbeats 1000000
/-! KP24: the sizes; repr and == of a turning. -/
namespace K50
open PySem DL
theorem size_S (a : T) : (S a).cps.size = a.length := by simp [S]
theorem sz_say : ("say" : Str).cps.size = 3 ∧ ("go" : Str).cps.size = 2 ∧ ("node" : Str).cps.size = 4 ∧ ("keep" : Str).cps.size = 4 := by decide +kernel
mutual
theorem weight_p : ∀ p : Part, (pyP p).weight ≤ 10 * (txt p).length
  | .keep => by
    have := sz_say
    simp only [pyP, PyData.weight, PyData.weightAll, txt, List.length_cons, List.length_nil]
    omega
  | .say w => by
    have := sz_say
    simp only [pyP, PyData.weight, PyData.weightAll, txt, List.length_cons, List.length_append, List.length_nil, size_S]
    omega
  | .go w => by
    have := sz_say
    simp only [pyP, PyData.weight, PyData.weightAll, txt, List.length_cons, size_S]
    omega
  | .node w ps => by
    have := sz_say
    have b := weight_ps ps
    have c := tail_txts ps
    simp only [pyP, PyData.weight, PyData.weightAll, txt, List.length_cons, List.length_append, List.length_nil, size_S]
    omega
theorem weight_ps : ∀ ps : List Part, PyData.weightAll (pyPs ps) ≤ 10 * (tailT ps).length
  | [] => by simp [pyPs, PyData.weightAll]
  | p :: ps => by
    have a := weight_p p
    have b := weight_ps ps
    simp only [pyPs, PyData.weightAll, tailT, List.length_cons, List.length_append]
    omega
end
theorem weight_rule {r : Rl} (h : RuleOK r) : (rulePy r).weight ≤ 4000 := by
  obtain ⟨o1, o2, o3, o4, o5, o6, o7⟩ := h.ok
  have b := weight_ps r.2.2
  have c := tail_txts r.2.2
  simp only [rulePy, PyData.weight, PyData.weightAll, size_S]
  omega
theorem weight_rules : ∀ rs : List Rl, (∀ r ∈ rs, RuleOK r) → PyData.weightAll (rs.map rulePy) ≤ 4001 * rs.length
  | [], _ => by simp [PyData.weightAll]
  | r :: rs, h => by
    have a := weight_rule (h r List.mem_cons_self)
    have b := weight_rules rs fun x hx => h x (List.mem_cons_of_mem _ hx)
    simp only [List.map_cons, PyData.weightAll, List.length_cons]
    omega
theorem lt_all {w : T} (h : nameB w = true) : w.all (· < 0x110000) = true := (strB_ok (strB_name h)).2
theorem fit_rule {r : Rl} (h : RuleOK r) : fitPy 20 (rulePy r) := by
  obtain ⟨o1, o2, o3, o4, o5, o6, o7⟩ := h.ok
  obtain ⟨a, b⟩ := (fitP_py 12).2 r.2.2 ((ok_fit 12 r.2.1).2 _ o1)
  have hl : r.2.1.all (· < 0x110000) = true := by
    unfold letB at o3
    rw [Bool.or_eq_true, decide_eq_true_eq] at o3
    rcases o3 with q | q
    · rw [q]; rfl
    · exact lt_all q
  constructor
  · simp only [rulePy, PyData.canLay0, PyData.canLayAll0, a, Bool.and_true, Bool.and_eq_true]
    exact ⟨lay_S (lt_all o2), lay_S hl⟩
  · simp only [rulePy, PyData.depth, PyData.depthAll, Nat.zero_max, Nat.max_zero]
    omega
theorem fit_rules : ∀ rs : List Rl, (∀ r ∈ rs, RuleOK r) → PyData.canLayAll0 (rs.map rulePy) = true ∧ PyData.depthAll (rs.map rulePy) ≤ 20
  | [], _ => ⟨rfl, Nat.zero_le _⟩
  | r :: rs, h => by
    obtain ⟨a, b⟩ := fit_rule (h r List.mem_cons_self)
    obtain ⟨c, d⟩ := fit_rules rs fun x hx => h x (List.mem_cons_of_mem _ hx)
    exact ⟨by simp only [List.map_cons, PyData.canLayAll0, a, c, Bool.and_self], by simp only [List.map_cons, PyData.depthAll]; exact Nat.max_le.mpr ⟨b, d⟩⟩
theorem repr_of {x : D} {p : PyData} (h : toPy x = some p) (hr : reprD p = true) (st : Store) : reprV (.d x) st = .ok (.d (.str p.shown)) st := by
  have v : valD st (.d x) = some x := rfl
  unfold reprV
  simp only [v, h, hr, if_true]
theorem repr_both {rs : List Rl} {mode : Str} (hr : ∀ r ∈ rs, RuleOK r) (hm : mode ∈ MDS) (hl : rs.length ≤ 12) : ∃ z, ∀ st, reprV (.d (.tup [.tup (rs.map rD), .str mode])) st = .ok (.d (.str z)) st := by
  have hp : toPy (.tup [.tup (rs.map rD), .str mode]) = some (.tuple [.tuple (rs.map rulePy), .str mode]) := by
    simp only [toPy, toPys, toPys_rules, Option.map_some]
  obtain ⟨a, b⟩ := fit_rules rs hr
  have w := weight_rules rs hr
  have m2 := (mds_ok mode hm)
  have lm := lay_S (lt_all m2.1)
  rw [S_of] at lm
  have ms : mode.cps.size = mode.cps.toList.length := by simp
  refine ⟨_, fun st => repr_of hp (flat_repr (by simp [flatP, flatPs, flat_rules]) ⟨?_, ?_⟩ ?_) st⟩
  · simp only [PyData.canLay0, PyData.canLayAll0, a, Bool.true_and, Bool.and_true]
    simpa [PyData.canLay0] using lm
  · simp only [PyData.depth, PyData.depthAll, Nat.zero_max, Nat.max_zero]
    omega
  · simp only [PyData.weight, PyData.weightAll, ms]
    omega
theorem repr_text {z : Str} (h1 : z.cps.toList.all (· < 0x110000) = true) (h2 : z.length ≤ 100000) : ∃ y, ∀ st, reprV (.d (.str z)) st = .ok (.d (.str y)) st := by
  have lm := lay_S h1
  rw [S_of] at lm
  have ms : z.cps.size = z.length := rfl
  exact ⟨_, fun st => repr_of (p := .str z) rfl (flat_repr rfl ⟨lm, by simp [PyData.depth]⟩ (by simp only [PyData.weight, ms]; omega)) st⟩
theorem eq_same {xs : List D} {ps : List PyData} (h : toPy (.tup xs) = some (.tuple ps)) (hs : SeqAt.shaped (.tuple ps) = true) (hf : flatP (.tuple ps) = true) (st : Store) : eqV false (.d (.tup xs)) (.d (.tup xs)) st = .ok (.d (.bl true)) st := by
  have e : eqB (.tup xs) (.tup xs) = some true := by
    show eqG (.tup xs) (.tup xs) = _
    unfold eqG
    rw [h]
    show (if (SeqAt.shaped (.tuple ps) && SeqAt.shaped (.tuple ps)) = true then some (PyData.eqv (.tuple ps) (.tuple ps)) else none) = _
    rw [hs, if_pos (show (true && true) = true from rfl), flat_eqv _ hf]
  unfold eqV
  show DL.bin (eqB (.tup xs) (.tup xs)) false st = _
  rw [e]
  rfl
theorem f_eq {rs : List Rl} {mode : Str} (hr : ∀ r ∈ rs, RuleOK r) (st : Store) : F_Turning___eq__ [.d (turnD rs mode), .d (turnD rs mode)] st = .ok (.d (.bl true)) st := by
  obtain ⟨a, b⟩ := fit_rules rs hr
  have es := eq_same (xs := rs.map rD) (ps := rs.map rulePy) (by simp only [toPy, toPys_rules, Option.map_some]) (shaped_of (n := 21) (by omega) ⟨by simp only [PyData.canLay0, a], by simp only [PyData.depth]; omega⟩) (by simp [flatP, flat_rules])
  have fm : ∀ (i : Nat) (s : Store) (ρ : DL.Env), ρ[i]? = some (some (Val.d (turnD rs mode))) → fldE ("Turning" : Str) ("mode" : Str) (varE i) ρ s = .ok (.d (.str mode)) s := fun i s ρ h => by
    unfold fldE varE
    rw [h]
    rfl
  have fr : ∀ (i : Nat) (s : Store) (ρ : DL.Env), ρ[i]? = some (some (Val.d (turnD rs mode))) → fldE ("Turning" : Str) ("rules" : Str) (varE i) ρ s = .ok (.d (.tup (rs.map rD))) s := fun i s ρ h => by
    unfold fldE varE
    rw [h]
    rfl
  unfold F_Turning___eq__ g_Turning___eq__
  simp only [N_Turning___eq__, funD, funX, funK, env0, retS, retN, exprS, setS, seqS, ifS, asgS, parS, nxS, raiseS, varE, cE, op2, andT, orT, notT, notE, ifE, nilA, consA, tupE, lstE, asDs_nil, asDs_cons, asDs_map, callE, callX, bltE, one, truE, sliceE, noO, someO, nameG, tupG, consG, nilG, okIf, negE, bindR_ok, bindR_exc, bindR_err, bindS_ok, bindS_exc, bindS_err, seqR_nx, seqR_ret, seqR_exc, seqR_brk, seqR_cnt, seqR_err, noX_ok, fin_nx, fin_d, fin_exc, fin_scr, eq_str, ne_str, eq_int, ne_int, List.map_cons, List.map_nil, List.cons_append, List.nil_append, List.getElem?_cons_zero, List.getElem?_cons_succ, List.length_cons, List.length_nil, Nat.reduceAdd, Nat.reduceSub, List.replicate_zero, List.replicate_succ, List.set_cons_zero, List.set_cons_succ, List.take_length, Option.bind_some, Bool.not_true, Bool.not_false, if_true, if_false, Bool.false_eq_true, ite_true, ite_false, ite_self, decide_true, decide_false, Nat.zero_le, reduceCtorEq, andE_eq, andK_bl, orE_eq, orK_bl, asB_eq, asK_bl, Option.map_some, sz1, sz2, sz3, sz4, cst1, cst2, cst3]
  rw [isi_d (x := turnD rs mode) (b := true) rfl (show tab_Turning (.o ("Turning" : Str)) = some true by decide +kernel)]
  have f0 := fr 0 st [some (.d (turnD rs mode)), some (.d (turnD rs mode))] rfl
  have f1 := fr 1 st [some (.d (turnD rs mode)), some (.d (turnD rs mode))] rfl
  have f2 := fm 0 st [some (.d (turnD rs mode)), some (.d (turnD rs mode))] rfl
  have f3 := fm 1 st [some (.d (turnD rs mode)), some (.d (turnD rs mode))] rfl
  simp only [f0, f1, f2, f3, es, eq_self, funD, funX, funK, env0, retS, retN, exprS, setS, seqS, ifS, asgS, parS, nxS, raiseS, varE, cE, op2, andT, orT, notT, notE, ifE, nilA, consA, tupE, lstE, asDs_nil, asDs_cons, asDs_map, callE, callX, bltE, one, truE, sliceE, noO, someO, nameG, tupG, consG, nilG, okIf, negE, bindR_ok, bindR_exc, bindR_err, bindS_ok, bindS_exc, bindS_err, seqR_nx, seqR_ret, seqR_exc, seqR_brk, seqR_cnt, seqR_err, noX_ok, fin_nx, fin_d, fin_exc, fin_scr, eq_str, ne_str, eq_int, ne_int, List.map_cons, List.map_nil, List.cons_append, List.nil_append, List.getElem?_cons_zero, List.getElem?_cons_succ, List.length_cons, List.length_nil, Nat.reduceAdd, Nat.reduceSub, List.replicate_zero, List.replicate_succ, List.set_cons_zero, List.set_cons_succ, List.take_length, Option.bind_some, Bool.not_true, Bool.not_false, if_true, if_false, Bool.false_eq_true, ite_true, ite_false, ite_self, decide_true, decide_false, Nat.zero_le, reduceCtorEq, andE_eq, andK_bl, orE_eq, orK_bl, asB_eq, asK_bl, Option.map_some, sz1, sz2, sz3, sz4, cst1, cst2, cst3]
end K50
end

section
set_option Elab.async false
set_option linter.all false
set_option autoImplicit false
set_option maxRecDepth 100000
set_option maxHeartbeats 1000000
/-! KP25: printed by gen25.py: law answers True. -/
namespace K50
open PySem DL

def t1 : SS := (asgS (callE F__law_turning (consA (varE 1) (consA (callE F__law_names (consA (varE 1) nilA)) (consA (cE (.int 3)) (consA (cE (.int 3)) (consA (cE (.int 2)) nilA)))))) (tupG (consG (nameG 3) (consG (nameG 4) nilG))))
def t2 : SS := (setS 5 (callE F__law_pieces (consA (varE 3) (consA (varE 4) nilA))))
def t3 : SS := (setS 6 (tm1E joinV (cE (.str (", " : Str))) (varE 5)))
def t4 : SS := (setS 7 (callE F__law_told (consA (varE 6) nilA)))
def t5 : SS := (ifS (orT (asB (op2 (eqV true) (bltE (one reprV) (consA (callE F_turning_text (consA (makeE ("Turning" : Str) [("rules" : Str), ("mode" : Str)] (consA (varE 3) (consA (varE 4) nilA))) nilA)) nilA)) (bltE (one reprV) (consA (varE 6) nilA)))) (notT (asB (isiE tab_Turning (varE 7))))) (retS (cE (.bl false))) nxS)
def t6 : SS := (ifS (orT (asB (op2 (eqV true) (bltE (one reprV) (consA (tupE (consA (fldE ("Turning" : Str) ("rules" : Str) (varE 7)) (consA (fldE ("Turning" : Str) ("mode" : Str) (varE 7)) nilA))) nilA)) (bltE (one reprV) (consA (tupE (consA (varE 3) (consA (varE 4) nilA))) nilA)))) (notT (asB (op2 (eqIV ("Turning" : Str) F_Turning___eq__) (varE 7) (makeE ("Turning" : Str) [("rules" : Str), ("mode" : Str)] (consA (varE 3) (consA (varE 4) nilA))))))) (retS (cE (.bl false))) nxS)
def t7 : SS := (forS (rng1I (consA (cE (.int 4)) nilA)) (nameG 8) (ifS (notT (asB (callE F__law_refused (consA (varE 1) (consA (varE 5) (consA (varE 3) nilA)))))) (retS (cE (.bl false))) nxS) [8])
def lawA : SS := (setS 1 (callE F__law_deal (consA (varE 0) (consA (cE (.int 50)) nilA))))
def lawBody : SS := seqS t1 (seqS t2 (seqS t3 (seqS t4 (seqS t5 (seqS t6 t7)))))
def lawB : SS := forS (rng1I (consA (cE (.int 2)) nilA)) (nameG 2) lawBody [2, 5, 7, 8]
def againB : SS := (ifS (notT (asB (callE F__law_refused (consA (varE 1) (consA (varE 5) (consA (varE 3) nilA)))))) (retS (cE (.bl false))) nxS)
def valB : SS := (ifS (asB (op2 (eqV true) (bltE (one reprV) (consA (callE F__law_told (consA (varE 9) nilA)) nilA)) (bltE (one reprV) (consA (lstE (consA (cE (.str ("text" : Str))) (consA (negE (cE (.int 1))) (consA (cE (.bl true)) (consA (cE (.bl false)) nilA))))) nilA)))) (retS (cE (.bl false))) nxS)
def valL : SE := (lstE (consA (cE .non) (consA (cE (.int 7)) (consA (tupE (consA (cE (.str ("a" : Str))) nilA)) (consA (lstE (consA (varE 6) nilA)) (consA (cE (.bl true)) (consA (makeE ("Turning" : Str) [("rules" : Str), ("mode" : Str)] (consA (varE 3) (consA (varE 4) nilA))) nilA)))))))
def lawC : SS := (forS (seqI (lstE (consA (cE .non) (consA (cE (.int 7)) (consA (tupE (consA (cE (.str ("a" : Str))) nilA)) (consA (lstE (consA (varE 6) nilA)) (consA (cE (.bl true)) (consA (makeE ("Turning" : Str) [("rules" : Str), ("mode" : Str)] (consA (varE 3) (consA (varE 4) nilA))) nilA)))))))) (nameG 9) (ifS (asB (op2 (eqV true) (bltE (one reprV) (consA (callE F__law_told (consA (varE 9) nilA)) nilA)) (bltE (one reprV) (consA (lstE (consA (cE (.str ("text" : Str))) (consA (negE (cE (.int 1))) (consA (cE (.bl true)) (consA (cE (.bl false)) nilA))))) nilA)))) (retS (cE (.bl false))) nxS) [9])
def lawD : SS := (retS (andE (op2 (eqV false) (callE F_turning_text (consA (makeE ("Turning" : Str) [("rules" : Str), ("mode" : Str)] (consA (tupE nilA) (consA (cE (.str ("abcdefgh" : Str))) nilA))) nilA)) (cE (.str ("abcdefgh" : Str)))) (op2 (eqIV ("Turning" : Str) F_Turning___eq__) (callE F__law_told (consA (cE (.str ("abcdefgh" : Str))) nilA)) (makeE ("Turning" : Str) [("rules" : Str), ("mode" : Str)] (consA (tupE nilA) (consA (cE (.str ("abcdefgh" : Str))) nilA))))))
theorem law_split : g_law = seqS lawA (seqS lawB (seqS lawC lawD)) := rfl
theorem lawC_eq : lawC = forS (seqI valL) (nameG 9) valB [9] := rfl
theorem t7_eq : t7 = forS (rng1I (consA (cE (.int 4)) nilA)) (nameG 8) againB [8] := rfl
def envL (s : Val) (x2 x3 x4 x5 x6 x7 x8 x9 : Option Val) : DL.Env := [some s, some (.ref 1), x2, x3, x4, x5, x6, x7, x8, x9]
theorem again_ok {s : Val} {rs : List Rl} {mode : Str} {x2 x6 x7 x9 : Option Val} (hm : mode ∈ MDS) (hr : ∀ r ∈ rs, RuleOK r) (hp : rs.Pairwise lt_) (hl : rs.length ≤ 12) : ∀ (n : Nat) (lo : Int) (cs : List Int) (mix : Int), cs.length ≤ 63 → ∃ cs' mix', forL (nameG 8) againB [8] (rangeVals lo n) (envL s x2 (some (.d (.tup (rs.map rD)))) (some (.d (.str mode))) (some (.d (.lst ((mode :: rs.map pieceS).map D.str)))) x6 x7 none x9) (stD cs mix []) = .nx (envL s x2 (some (.d (.tup (rs.map rD)))) (some (.d (.str mode))) (some (.d (.lst ((mode :: rs.map pieceS).map D.str)))) x6 x7 none x9) (stD cs' mix' []) ∧ cs'.length ≤ 63
  | 0, lo, cs, mix, hc => ⟨cs, mix, rfl, hc⟩
  | n + 1, lo, cs, mix, hc => by
    obtain ⟨c1, m1, e1, l1⟩ := refused_ok hm hr hp hl cs mix [] hc
    obtain ⟨c2, m2, e2, l2⟩ := again_ok (s := s) (x2 := x2) (x6 := x6) (x7 := x7) (x9 := x9) hm hr hp hl n (lo + 1) c1 m1 l1
    refine ⟨c2, m2, ?_, l2⟩
    rw [rng_succ]
    unfold envL at e2 ⊢
    generalize hP : (mode :: rs.map pieceS).map D.str = P at e1 e2 ⊢
    simp only [forL, againB, e1, loopR_nx, forget, funD, funX, funK, env0, retS, retN, exprS, setS, seqS, ifS, asgS, parS, nxS, raiseS, varE, cE, op2, andT, orT, notT, notE, ifE, nilA, consA, tupE, lstE, asDs_nil, asDs_cons, asDs_map, callE, callX, bltE, one, truE, sliceE, noO, someO, nameG, tupG, consG, nilG, okIf, negE, bindR_ok, bindR_exc, bindR_err, bindS_ok, bindS_exc, bindS_err, seqR_nx, seqR_ret, seqR_exc, seqR_brk, seqR_cnt, seqR_err, noX_ok, fin_nx, fin_d, fin_exc, fin_scr, eq_str, ne_str, eq_int, ne_int, List.map_cons, List.map_nil, List.cons_append, List.nil_append, List.getElem?_cons_zero, List.getElem?_cons_succ, List.length_cons, List.length_nil, Nat.reduceAdd, Nat.reduceSub, List.replicate_zero, List.replicate_succ, List.set_cons_zero, List.set_cons_succ, List.take_length, Option.bind_some, Bool.not_true, Bool.not_false, if_true, if_false, Bool.false_eq_true, ite_true, ite_false, ite_self, decide_true, decide_false, Nat.zero_le, reduceCtorEq, andE_eq, andK_bl, orE_eq, orK_bl, asB_eq, asK_bl, Option.map_some, sz1, sz2, sz3, sz4, cst1, cst2, cst3]
    unfold againB at e2
    exact e2
theorem text_ok {mode : Str} {rs : List Rl} (hm : mode ∈ MDS) (hr : ∀ r ∈ rs, RuleOK r) (hl : rs.length ≤ 12) : ((mode :: rs.map pieceS).map (·.length)).sum + (mode :: rs.map pieceS).length * (S [44, 32]).length ≤ 16777216 ∧ (Txt.join (S [44, 32]) (mode :: rs.map pieceS)).length ≤ 100000 := by
  have fitP_ : ∀ x ∈ mode :: rs.map pieceS, Fit x := fun x hx => by
    rcases List.mem_cons.mp hx with rfl | hx
    · exact mode_fit hm
    · obtain ⟨r, h, rfl⟩ := List.mem_map.mp hx
      exact piece_fit (hr r h)
  have sm := sum_fit _ fitP_
  have e : (mode :: rs.map pieceS).length = rs.length + 1 := by simp
  rw [e] at sm
  refine ⟨by rw [e, S_len]; simp only [List.length_cons, List.length_nil]; omega, ?_⟩
  have q : TL.tl (Txt.join (S [44, 32]) (mode :: rs.map pieceS)) = TL.joinL [44, 32] ((mode :: rs.map pieceS).map TL.tl) := by
    rw [TL.join_eq, TL.tl_join]
    congr 1
  rw [TL.len_tl, q]
  have := joinL_len ((mode :: rs.map pieceS).map TL.tl) (fun p hp => by
    obtain ⟨x, hx, rfl⟩ := List.mem_map.mp hp
    have := (fitP_ x hx).few
    rw [TL.len_tl] at this
    exact this)
  rw [List.length_map, e] at this
  omega
theorem bad_val {x : D} (h : tab_str (tyD x) = some false) (st : Store) : F__law_told [.d x] st = .ok (.d (dErr (-1))) st := f_told_bad (f_read_bad st h)
theorem repr_err1 (st : Store) : reprV (.d (dErr (-1))) st = .ok (.d (.str (pyErr (-1)).shown)) st := by
  have q : reprD (pyErr (-1)) = true := by decide +kernel
  exact repr_of rfl q st
theorem val_ok {s : Val} {x2 x3 x4 x5 x6 x7 x8 : Option Val} (st : Store) : ∀ (xs : List D), (∀ x ∈ xs, tab_str (tyD x) = some false) → forL (nameG 9) valB [9] (xs.map Val.d) (envL s x2 x3 x4 x5 x6 x7 x8 none) st = .nx (envL s x2 x3 x4 x5 x6 x7 x8 none) st
  | [], _ => rfl
  | x :: xs, h => by
    have ih := val_ok (s := s) (x2 := x2) (x3 := x3) (x4 := x4) (x5 := x5) (x6 := x6) (x7 := x7) (x8 := x8) st xs fun y hy => h y (List.mem_cons_of_mem _ hy)
    have b := bad_val (h x List.mem_cons_self)
    have r := repr_err1
    unfold dErr at b r
    unfold envL at ih ⊢
    simp only [List.map_cons, forL, valB, b, r, eq_self, loopR_nx, forget, funD, funX, funK, env0, retS, retN, exprS, setS, seqS, ifS, asgS, parS, nxS, raiseS, varE, cE, op2, andT, orT, notT, notE, ifE, nilA, consA, tupE, lstE, asDs_nil, asDs_cons, asDs_map, callE, callX, bltE, one, truE, sliceE, noO, someO, nameG, tupG, consG, nilG, okIf, negE, bindR_ok, bindR_exc, bindR_err, bindS_ok, bindS_exc, bindS_err, seqR_nx, seqR_ret, seqR_exc, seqR_brk, seqR_cnt, seqR_err, noX_ok, fin_nx, fin_d, fin_exc, fin_scr, eq_str, ne_str, eq_int, ne_int, List.map_cons, List.map_nil, List.cons_append, List.nil_append, List.getElem?_cons_zero, List.getElem?_cons_succ, List.length_cons, List.length_nil, Nat.reduceAdd, Nat.reduceSub, List.replicate_zero, List.replicate_succ, List.set_cons_zero, List.set_cons_succ, List.take_length, Option.bind_some, Bool.not_true, Bool.not_false, if_true, if_false, Bool.false_eq_true, ite_true, ite_false, ite_self, decide_true, decide_false, Nat.zero_le, reduceCtorEq, andE_eq, andK_bl, orE_eq, orK_bl, asB_eq, asK_bl, Option.map_some, sz1, sz2, sz3, sz4, cst1, cst2, cst3]
    unfold valB at ih
    exact ih
end K50
end

section
set_option Elab.async false
set_option linter.all false
set_option autoImplicit false
set_option maxRecDepth 100000
set_option maxHeartbeats 1000000
/-! KP26: one turn of law; law whole. -/
namespace K50
open PySem DL
def Lo (w : T) : Prop := ∀ c ∈ w, c < 1114112
theorem lo_app {a b : T} (ha : Lo a) (hb : Lo b) : Lo (a ++ b) := fun c hc => (List.mem_append.mp hc).elim (ha c) (hb c)
theorem lo_cons {c : Nat} {a : T} (hc : c < 1114112) (ha : Lo a) : Lo (c :: a) := fun d hd => (List.mem_cons.mp hd).elim (fun e => by rw [e]; exact hc) (ha d)
theorem lo_nil : Lo [] := fun c hc => by cases hc
theorem lo_str {w : T} (h : strB w = true) : Lo w := fun c hc => by
  have := (strB_ok h).2
  rw [List.all_eq_true] at this
  simpa using this c hc
mutual
theorem txt_lo : ∀ (n : Nat) (l : T) (p : Part), okP n l p = true → Lo (txt p)
  | 0, l, p, h => by simp [okP] at h
  | n + 1, l, .keep, h => lo_cons (by omega) lo_nil
  | n + 1, l, .say w, h => lo_cons (by omega) (lo_app (lo_str (strB_text (by simpa [okP] using h))) (lo_cons (by omega) lo_nil))
  | n + 1, l, .go w, h => by
    have h' : (!decide (l = []) && nameB w) = true := by simpa [okP] using h
    rw [Bool.and_eq_true] at h'
    exact lo_cons (by omega) (lo_str (strB_name h'.2))
  | n + 1, l, .node w ps, h => by
    have h' : nameB w = true ∧ okPs n l ps = true := by simpa [okP] using h
    exact lo_app (lo_str (strB_name h'.1)) (lo_cons (by omega) (lo_app (txts_lo n l ps h'.2) (lo_cons (by omega) lo_nil)))
theorem txts_lo : ∀ (n : Nat) (l : T) (ps : List Part), okPs n l ps = true → Lo (txts ps)
  | 0, l, ps, h => by simp [okPs] at h
  | n + 1, l, ps, h => by
    have h' : ps.length ≤ 30 ∧ ∀ p ∈ ps, okP n l p = true := by simpa [okPs] using h
    have tl_ : ∀ qs : List Part, (∀ p ∈ qs, okP n l p = true) → Lo (tailT qs) := by
      intro qs
      induction qs with
      | nil => intro _; exact lo_nil
      | cons q qs ih =>
        intro hq
        exact lo_cons (by omega) (lo_app (txt_lo n l q (hq q List.mem_cons_self)) (ih fun r hr => hq r (List.mem_cons_of_mem _ hr)))
    cases ps with
    | nil => exact lo_nil
    | cons q qs => exact lo_app (txt_lo n l q (h'.2 q List.mem_cons_self)) (tl_ qs fun r hr => h'.2 r (List.mem_cons_of_mem _ hr))
end
theorem piece_lo {r : Rl} (h : RuleOK r) : Lo (pieceT r.1 r.2.1 r.2.2) := by
  obtain ⟨o1, o2, o3, o4, o5, o6, o7⟩ := h.ok
  have hl : Lo r.2.1 := by
    unfold letB at o3
    rw [Bool.or_eq_true, decide_eq_true_eq] at o3
    rcases o3 with q | q
    · rw [q]; exact lo_nil
    · exact lo_str (strB_name q)
  have hlt : Lo (ltT r.2.1) := by
    unfold ltT
    split
    · exact lo_cons (by omega) lo_nil
    · exact hl
  have hw : Lo (wordsT r.2.2) := by
    unfold wordsT
    split
    · exact lo_cons (by omega) lo_nil
    · exact txts_lo 12 _ _ o1
  exact lo_app (lo_str (strB_name o2)) (lo_cons (by omega) (lo_app hlt (lo_cons (by omega) hw)))
theorem join_lo : ∀ ps : List T, (∀ p ∈ ps, Lo p) → Lo (TL.joinL [44, 32] ps)
  | [], _ => lo_nil
  | [p], h => h p List.mem_cons_self
  | p :: q :: r, h => lo_app (h p List.mem_cons_self) (lo_app (lo_cons (by omega) (lo_cons (by omega) lo_nil)) (join_lo (q :: r) fun z hz => h z (List.mem_cons_of_mem _ hz)))
theorem text_repr {mode : Str} {rs : List Rl} (hm : mode ∈ MDS) (hr : ∀ r ∈ rs, RuleOK r) (hl : rs.length ≤ 12) : ∃ y, ∀ st, reprV (.d (.str (Txt.join (S [44, 32]) (mode :: rs.map pieceS)))) st = .ok (.d (.str y)) st := by
  refine repr_text ?_ (text_ok hm hr hl).2
  have q : TL.tl (Txt.join (S [44, 32]) (mode :: rs.map pieceS)) = TL.joinL [44, 32] ((mode :: rs.map pieceS).map TL.tl) := by
    rw [TL.join_eq, TL.tl_join]
    congr 1
  show (TL.tl (Txt.join (S [44, 32]) (mode :: rs.map pieceS))).all (· < 0x110000) = true
  rw [q, List.all_eq_true]
  intro c hc
  have := join_lo ((mode :: rs.map pieceS).map TL.tl) (fun p hp => by
    obtain ⟨x, hx, rfl⟩ := List.mem_map.mp hp
    rcases List.mem_cons.mp hx with rfl | hx
    · exact lo_str (strB_name (mds_ok _ hm).1)
    · obtain ⟨r, h, rfl⟩ := List.mem_map.mp hx
      show Lo (S _).cps.toList
      rw [S_cps]
      exact piece_lo (hr r h)) c hc
  simpa using this
theorem turn_step {s i : Val} {x3 x4 x6 : Option Val} (cs : List Int) (mix : Int) (hc : cs.length ≤ 63) : ∃ rs mode z w cs' mix', mode ∈ MDS ∧ (∀ r ∈ rs, RuleOK r) ∧ lawBody (envL s (some i) x3 x4 none x6 none none none) (stD cs mix []) = .nx (envL s (some i) (some (.d (.tup (rs.map rD)))) (some (.d (.str mode))) z (some (.d (.str w))) (some (.d (turnD rs mode))) none none) (stD cs' mix' []) ∧ cs'.length ≤ 63 := by
  obtain ⟨ns, c1, m1, hns, en, l1⟩ := names_ok cs mix [] hc
  obtain ⟨f, j, rs, mode, c2, m2, hf, j1, j3, hmode, et, l2, hs, hr, hl⟩ := turning_ok c1 m1 [] ns hns l1
  have hm : mode ∈ MDS := (modes_ok f hf j j1 j3).1 mode hmode
  have hp := asc_ok hf j1 j3 hns hs
  obtain ⟨tj, tl⟩ := text_ok hm hr hl
  obtain ⟨y, hy⟩ := text_repr hm hr hl
  obtain ⟨z2, hz2⟩ := repr_both hr hm hl
  have ep := f_pieces (mode := mode) (stD c2 m2 []) hr hl
  have ejoin : joinV (S [44, 32]) (.d (.lst ((mode :: rs.map pieceS).map D.str))) (stD c2 m2 []) = .ok (.d (.str (Txt.join (S [44, 32]) (mode :: rs.map pieceS)))) (stD c2 m2 []) := join_lst tj
  have etold := good_told hm hr hp hl (stD c2 m2 [])
  have ett := f_turning (mode := mode) (stD c2 m2 []) hr hl tj
  obtain ⟨c3, m3, ea, l3⟩ := again_ok (s := s) (x2 := some i) (x6 := some (.d (.str (Txt.join (S [44, 32]) (mode :: rs.map pieceS))))) (x7 := some (.d (turnD rs mode))) (x9 := none) hm hr hp hl 4 0 c2 m2 l2
  generalize hP : (mode :: rs.map pieceS).map D.str = P at ep ejoin ea
  generalize hX : Txt.join (S [44, 32]) (mode :: rs.map pieceS) = X at ejoin etold ett ea hy
  refine ⟨rs, mode, some (.d (.lst P)), X, c3, m3, hm, hr, ?_, l3⟩
  have a1 : t1 (envL s (some i) x3 x4 none x6 none none none) (stD cs mix []) = .nx (envL s (some i) (some (.d (.tup (rs.map rD)))) (some (.d (.str mode))) none x6 none none none) (stD c2 m2 []) := by
    unfold t1 envL
    simp only [en, et, funD, funX, funK, env0, retS, retN, exprS, setS, seqS, ifS, asgS, parS, nxS, raiseS, varE, cE, op2, andT, orT, notT, notE, ifE, nilA, consA, tupE, lstE, asDs_nil, asDs_cons, asDs_map, callE, callX, bltE, one, truE, sliceE, noO, someO, nameG, tupG, consG, nilG, okIf, negE, bindR_ok, bindR_exc, bindR_err, bindS_ok, bindS_exc, bindS_err, seqR_nx, seqR_ret, seqR_exc, seqR_brk, seqR_cnt, seqR_err, noX_ok, fin_nx, fin_d, fin_exc, fin_scr, eq_str, ne_str, eq_int, ne_int, List.map_cons, List.map_nil, List.cons_append, List.nil_append, List.getElem?_cons_zero, List.getElem?_cons_succ, List.length_cons, List.length_nil, Nat.reduceAdd, Nat.reduceSub, List.replicate_zero, List.replicate_succ, List.set_cons_zero, List.set_cons_succ, List.take_length, Option.bind_some, Bool.not_true, Bool.not_false, if_true, if_false, Bool.false_eq_true, ite_true, ite_false, ite_self, decide_true, decide_false, Nat.zero_le, reduceCtorEq, andE_eq, andK_bl, orE_eq, orK_bl, asB_eq, asK_bl, Option.map_some, sz1, sz2, sz3, sz4, cst1, cst2, cst3]
  have a2 : t2 (envL s (some i) (some (.d (.tup (rs.map rD)))) (some (.d (.str mode))) none x6 none none none) (stD c2 m2 []) = .nx (envL s (some i) (some (.d (.tup (rs.map rD)))) (some (.d (.str mode))) (some (.d (.lst P))) x6 none none none) (stD c2 m2 []) := by
    unfold t2 envL
    simp only [ep, funD, funX, funK, env0, retS, retN, exprS, setS, seqS, ifS, asgS, parS, nxS, raiseS, varE, cE, op2, andT, orT, notT, notE, ifE, nilA, consA, tupE, lstE, asDs_nil, asDs_cons, asDs_map, callE, callX, bltE, one, truE, sliceE, noO, someO, nameG, tupG, consG, nilG, okIf, negE, bindR_ok, bindR_exc, bindR_err, bindS_ok, bindS_exc, bindS_err, seqR_nx, seqR_ret, seqR_exc, seqR_brk, seqR_cnt, seqR_err, noX_ok, fin_nx, fin_d, fin_exc, fin_scr, eq_str, ne_str, eq_int, ne_int, List.map_cons, List.map_nil, List.cons_append, List.nil_append, List.getElem?_cons_zero, List.getElem?_cons_succ, List.length_cons, List.length_nil, Nat.reduceAdd, Nat.reduceSub, List.replicate_zero, List.replicate_succ, List.set_cons_zero, List.set_cons_succ, List.take_length, Option.bind_some, Bool.not_true, Bool.not_false, if_true, if_false, Bool.false_eq_true, ite_true, ite_false, ite_self, decide_true, decide_false, Nat.zero_le, reduceCtorEq, andE_eq, andK_bl, orE_eq, orK_bl, asB_eq, asK_bl, Option.map_some, sz1, sz2, sz3, sz4, cst1, cst2, cst3]
  have a3 : t3 (envL s (some i) (some (.d (.tup (rs.map rD)))) (some (.d (.str mode))) (some (.d (.lst P))) x6 none none none) (stD c2 m2 []) = .nx (envL s (some i) (some (.d (.tup (rs.map rD)))) (some (.d (.str mode))) (some (.d (.lst P))) (some (.d (.str X))) none none none) (stD c2 m2 []) := by
    unfold t3 envL
    simp only [tm1E, c_sep, ejoin, funD, funX, funK, env0, retS, retN, exprS, setS, seqS, ifS, asgS, parS, nxS, raiseS, varE, cE, op2, andT, orT, notT, notE, ifE, nilA, consA, tupE, lstE, asDs_nil, asDs_cons, asDs_map, callE, callX, bltE, one, truE, sliceE, noO, someO, nameG, tupG, consG, nilG, okIf, negE, bindR_ok, bindR_exc, bindR_err, bindS_ok, bindS_exc, bindS_err, seqR_nx, seqR_ret, seqR_exc, seqR_brk, seqR_cnt, seqR_err, noX_ok, fin_nx, fin_d, fin_exc, fin_scr, eq_str, ne_str, eq_int, ne_int, List.map_cons, List.map_nil, List.cons_append, List.nil_append, List.getElem?_cons_zero, List.getElem?_cons_succ, List.length_cons, List.length_nil, Nat.reduceAdd, Nat.reduceSub, List.replicate_zero, List.replicate_succ, List.set_cons_zero, List.set_cons_succ, List.take_length, Option.bind_some, Bool.not_true, Bool.not_false, if_true, if_false, Bool.false_eq_true, ite_true, ite_false, ite_self, decide_true, decide_false, Nat.zero_le, reduceCtorEq, andE_eq, andK_bl, orE_eq, orK_bl, asB_eq, asK_bl, Option.map_some, sz1, sz2, sz3, sz4, cst1, cst2, cst3]
  have a4 : t4 (envL s (some i) (some (.d (.tup (rs.map rD)))) (some (.d (.str mode))) (some (.d (.lst P))) (some (.d (.str X))) none none none) (stD c2 m2 []) = .nx (envL s (some i) (some (.d (.tup (rs.map rD)))) (some (.d (.str mode))) (some (.d (.lst P))) (some (.d (.str X))) (some (.d (turnD rs mode))) none none) (stD c2 m2 []) := by
    unfold t4 envL
    simp only [etold, funD, funX, funK, env0, retS, retN, exprS, setS, seqS, ifS, asgS, parS, nxS, raiseS, varE, cE, op2, andT, orT, notT, notE, ifE, nilA, consA, tupE, lstE, asDs_nil, asDs_cons, asDs_map, callE, callX, bltE, one, truE, sliceE, noO, someO, nameG, tupG, consG, nilG, okIf, negE, bindR_ok, bindR_exc, bindR_err, bindS_ok, bindS_exc, bindS_err, seqR_nx, seqR_ret, seqR_exc, seqR_brk, seqR_cnt, seqR_err, noX_ok, fin_nx, fin_d, fin_exc, fin_scr, eq_str, ne_str, eq_int, ne_int, List.map_cons, List.map_nil, List.cons_append, List.nil_append, List.getElem?_cons_zero, List.getElem?_cons_succ, List.length_cons, List.length_nil, Nat.reduceAdd, Nat.reduceSub, List.replicate_zero, List.replicate_succ, List.set_cons_zero, List.set_cons_succ, List.take_length, Option.bind_some, Bool.not_true, Bool.not_false, if_true, if_false, Bool.false_eq_true, ite_true, ite_false, ite_self, decide_true, decide_false, Nat.zero_le, reduceCtorEq, andE_eq, andK_bl, orE_eq, orK_bl, asB_eq, asK_bl, Option.map_some, sz1, sz2, sz3, sz4, cst1, cst2, cst3]
  have tt_ : tab_Turning (.o ("Turning" : Str)) = some true := by decide +kernel
  generalize hE : envL s (some i) (some (.d (.tup (rs.map rD)))) (some (.d (.str mode))) (some (.d (.lst P))) (some (.d (.str X))) (some (.d (turnD rs mode))) none none = ρ at a4
  have v3 : ∀ st, varE 3 ρ st = .ok (.d (.tup (rs.map rD))) st := fun st => by rw [← hE]; rfl
  have v4 : ∀ st, varE 4 ρ st = .ok (.d (.str mode)) st := fun st => by rw [← hE]; rfl
  have v6 : ∀ st, varE 6 ρ st = .ok (.d (.str X)) st := fun st => by rw [← hE]; rfl
  have v7 : ∀ st, varE 7 ρ st = .ok (.d (turnD rs mode)) st := fun st => by rw [← hE]; rfl
  have mk : ∀ st, makeE ("Turning" : Str) [("rules" : Str), ("mode" : Str)] (consA (varE 3) (consA (varE 4) nilA)) ρ st = .ok (.d (turnD rs mode)) st := fun st => by
    unfold makeE
    rw [consA_ok (v3 st) (consA_ok (v4 st) (show nilA _ _ = .ok [] _ from rfl)), bindR_ok]
    rfl
  have isT : ∀ st, isiE tab_Turning (varE 7) ρ st = .ok (.d (.bl true)) st := fun st => isi_d (v7 st) tt_
  have f1 : ∀ st, fldE ("Turning" : Str) ("rules" : Str) (varE 7) ρ st = .ok (.d (.tup (rs.map rD))) st := fun st => by
    unfold fldE
    rw [v7, bindR_ok]
    rfl
  have f2 : ∀ st, fldE ("Turning" : Str) ("mode" : Str) (varE 7) ρ st = .ok (.d (.str mode)) st := fun st => by
    unfold fldE
    rw [v7, bindR_ok]
    rfl
  have bl1 : ∀ (f : SE) (x y : D) (st : Store), f ρ st = .ok (.d x) st → reprV (.d x) st = .ok (.d y) st → bltE (one reprV) (consA f nilA) ρ st = .ok (.d y) st := fun f x y st h1 h2 => by
    unfold bltE
    rw [consA_one h1, bindR_ok]
    exact h2
  have b5 : ifS (orT (asB (op2 (eqV true) (bltE (one reprV) (consA (callE F_turning_text (consA (makeE ("Turning" : Str) [("rules" : Str), ("mode" : Str)] (consA (varE 3) (consA (varE 4) nilA))) nilA)) nilA)) (bltE (one reprV) (consA (varE 6) nilA)))) (notT (asB (isiE tab_Turning (varE 7))))) (retS (cE (.bl false))) nxS ρ (stD c2 m2 []) = .nx ρ (stD c2 m2 []) := by
    refine if_no ?_
    have q1 := bl1 (callE F_turning_text (consA (makeE ("Turning" : Str) [("rules" : Str), ("mode" : Str)] (consA (varE 3) (consA (varE 4) nilA))) nilA)) _ _ _ (call_one (mk _) ett) (hy _)
    have q2 := bl1 (varE 6) _ _ _ (v6 _) (hy (stD c2 m2 []))
    unfold orT asB op2 notT
    rw [q1, bindR_ok, q2, bindR_ok, ne_str, decide_eq_true rfl, bindR_ok]
    simp only [bindR_ok, Bool.not_true, Bool.false_eq_true, if_false, isT]
  have b6 : ifS (orT (asB (op2 (eqV true) (bltE (one reprV) (consA (tupE (consA (fldE ("Turning" : Str) ("rules" : Str) (varE 7)) (consA (fldE ("Turning" : Str) ("mode" : Str) (varE 7)) nilA))) nilA)) (bltE (one reprV) (consA (tupE (consA (varE 3) (consA (varE 4) nilA))) nilA)))) (notT (asB (op2 (eqIV ("Turning" : Str) F_Turning___eq__) (varE 7) (makeE ("Turning" : Str) [("rules" : Str), ("mode" : Str)] (consA (varE 3) (consA (varE 4) nilA))))))) (retS (cE (.bl false))) nxS ρ (stD c2 m2 []) = .nx ρ (stD c2 m2 []) := by
    refine if_no ?_
    have tp : ∀ (f g : SE) (st : Store), f ρ st = .ok (.d (.tup (rs.map rD))) st → g ρ st = .ok (.d (.str mode)) st → tupE (consA f (consA g nilA)) ρ st = .ok (.d (.tup [.tup (rs.map rD), .str mode])) st := fun f g st h1 h2 => by
      unfold tupE
      rw [consA_ok h1 (consA_ok h2 (show nilA _ _ = .ok [] _ from rfl)), bindR_ok]
      show (if 2 ≤ sizeLine then R.ok _ st else R.err) = _
      exact if_pos (small_size (by omega))
    have q1 := bl1 _ _ _ _ (tp _ _ _ (f1 (stD c2 m2 [])) (f2 _)) (hz2 _)
    have q2 := bl1 _ _ _ _ (tp _ _ _ (v3 (stD c2 m2 [])) (v4 _)) (hz2 _)
    have q3 : eqIV ("Turning" : Str) F_Turning___eq__ (.d (turnD rs mode)) (.d (turnD rs mode)) (stD c2 m2 []) = .ok (.d (.bl true)) (stD c2 m2 []) := by
      show (if ("Turning" : Str) = ("Turning" : Str) ∧ ("Turning" : Str) = ("Turning" : Str) then noX (F_Turning___eq__ [.d (turnD rs mode), .d (turnD rs mode)] (stD c2 m2 [])) else .err) = _
      rw [if_pos ⟨rfl, rfl⟩, f_eq hr, noX_ok]
    unfold orT asB notT
    show bindR (bindR (bindR (bltE (one reprV) _ ρ _) fun a st => bindR (bltE (one reprV) _ ρ st) fun b st => eqV true a b st) _) _ = _
    rw [q1, bindR_ok, q2, bindR_ok, ne_str, decide_eq_true rfl, bindR_ok]
    simp only [bindR_ok, Bool.not_true, Bool.false_eq_true, if_false, op2, v7, mk, q3]
  have a7 : t7 ρ (stD c2 m2 []) = .nx ρ (stD c3 m3 []) := by
    rw [t7_eq, forS_eq, rng1_ok (v := 4) (st' := stD c2 m2 []) rfl (by omega) (by omega), bindS_ok, ← hE]
    exact ea
  unfold lawBody
  rw [seq_nx a1, seq_nx a2, seq_nx a3, seq_nx a4]
  rw [seq_nx (show t5 ρ (stD c2 m2 []) = .nx ρ (stD c2 m2 []) from b5), seq_nx (show t6 ρ (stD c2 m2 []) = .nx ρ (stD c2 m2 []) from b6), a7, ← hE]
end K50
end

section
set_option Elab.async false
set_option linter.all false
set_option autoImplicit false
set_option maxRecDepth 100000
set_option maxHeartbeats 1000000
/-! KP27: the plain law. -/
namespace K50
open PySem DL
theorem lstE_ok {g : SA} {ρ : DL.Env} {st st' : Store} {as : List Val} {xs : List D} (h : g ρ st = .ok as st') (ha : asDs as = some xs) (hl : xs.length ≤ 1000) : lstE g ρ st = .ok (.d (.lst xs)) st' := by
  unfold lstE
  rw [h, bindR_ok]
  simp only [ha]
  exact if_pos (small_size (by omega))
theorem join_one (m : Str) : Txt.join (S [44, 32]) [m] = m := by rw [TL.join_eq]; rfl
theorem last_text (st : Store) : F_turning_text [.d (turnD [] ("abcdefgh" : Str))] st = .ok (.d (.str ("abcdefgh" : Str))) st := by
  have h := f_turning (rs := []) (mode := ("abcdefgh" : Str)) st (fun r h => by cases h) (by simp) (by decide +kernel)
  rw [List.map_nil, join_one] at h
  exact h
theorem last_told (st : Store) : F__law_told [.d (.str ("abcdefgh" : Str))] st = .ok (.d (turnD [] ("abcdefgh" : Str))) st := by
  have fit : Fit ("abcdefgh" : Str) := ⟨by decide +kernel, by decide +kernel⟩
  have nm : nameB ("abcdefgh" : Str).cps.toList = true := by decide +kernel
  have h := told_ok (z := ("abcdefgh" : Str)) (zs := []) (rs := []) (fun x hx => by rw [List.mem_singleton.mp hx]; exact fit) (by simp) (by
    unfold readT
    simp only [List.map_cons, List.map_nil, nm, if_true]
    rfl) st
  rw [join_one] at h
  exact h
theorem plain : ∀ ns : List Int, ns.length ≤ 63 → ∃ st, F_law [.scr (ns.map D.int)] [] = .ok (.d (.bl true)) st := by
  intro ns hn
  obtain ⟨cs, mix, ed, l0⟩ := deal_ok ns hn
  obtain ⟨rs1, mode1, z1, w1, c1, m1, hm1, hr1, e1, l1⟩ := turn_step (s := .scr (ns.map D.int)) (i := .d (.int 0)) (x3 := none) (x4 := none) (x6 := none) cs mix l0
  obtain ⟨rs, mode, z, w, c2, m2, hm, hr, e2, l2⟩ := turn_step (s := .scr (ns.map D.int)) (i := .d (.int 1)) (x3 := some (.d (.tup (rs1.map rD)))) (x4 := some (.d (.str mode1))) (x6 := some (.d (.str w1))) c1 m1 l1
  have A1 : lawA [some (.scr (ns.map D.int)), none, none, none, none, none, none, none, none, none] [] = .nx (envL (.scr (ns.map D.int)) none none none none none none none none) (stD cs mix []) := by
    unfold lawA envL
    refine set_ok (v := .ref 1) ?_
    unfold callE
    rw [consA_ok (a := .scr (ns.map D.int)) rfl (consA_ok (a := .d (.int 50)) rfl (show nilA _ _ = .ok [] _ from rfl)), bindR_ok, ed, noX_ok]
  have B1 : lawB (envL (.scr (ns.map D.int)) none none none none none none none none) (stD cs mix []) = .nx (envL (.scr (ns.map D.int)) none (some (.d (.tup (rs.map rD)))) (some (.d (.str mode))) none (some (.d (.str w))) none none none) (stD c2 m2 []) := by
    unfold lawB
    rw [forS_eq, rng1_ok (v := 2) (st' := stD cs mix []) rfl (by omega) (by omega), bindS_ok]
    show forL (nameG 2) lawBody [2, 5, 7, 8] (rangeVals 0 (1 + 1)) _ _ = _
    rw [rng_succ, rng_succ, rng_zero]
    have g1 : nameG 2 (.d (.int 0)) (envL (.scr (ns.map D.int)) none none none none none none none none) = some (envL (.scr (ns.map D.int)) (some (.d (.int 0))) none none none none none none none) := rfl
    have fg1 : forget [2, 5, 7, 8] (envL (.scr (ns.map D.int)) (some (.d (.int 0))) (some (.d (.tup (rs1.map rD)))) (some (.d (.str mode1))) z1 (some (.d (.str w1))) (some (.d (turnD rs1 mode1))) none none) = envL (.scr (ns.map D.int)) none (some (.d (.tup (rs1.map rD)))) (some (.d (.str mode1))) none (some (.d (.str w1))) none none none := rfl
    have g2 : nameG 2 (.d (.int 1)) (envL (.scr (ns.map D.int)) none (some (.d (.tup (rs1.map rD)))) (some (.d (.str mode1))) none (some (.d (.str w1))) none none none) = some (envL (.scr (ns.map D.int)) (some (.d (.int 1))) (some (.d (.tup (rs1.map rD)))) (some (.d (.str mode1))) none (some (.d (.str w1))) none none none) := rfl
    have fg2 : forget [2, 5, 7, 8] (envL (.scr (ns.map D.int)) (some (.d (.int 1))) (some (.d (.tup (rs.map rD)))) (some (.d (.str mode))) z (some (.d (.str w))) (some (.d (turnD rs mode))) none none) = envL (.scr (ns.map D.int)) none (some (.d (.tup (rs.map rD)))) (some (.d (.str mode))) none (some (.d (.str w))) none none none := rfl
    unfold forL
    simp only [g1]
    rw [e1, loopR_nx, fg1]
    unfold forL
    simp only [show (0 : Int) + 1 = 1 from rfl, g2]
    rw [e2, loopR_nx, fg2]
    rfl
  have C1 : lawC (envL (.scr (ns.map D.int)) none (some (.d (.tup (rs.map rD)))) (some (.d (.str mode))) none (some (.d (.str w))) none none none) (stD c2 m2 []) = .nx (envL (.scr (ns.map D.int)) none (some (.d (.tup (rs.map rD)))) (some (.d (.str mode))) none (some (.d (.str w))) none none none) (stD c2 m2 []) := by
    generalize hE : envL (.scr (ns.map D.int)) none (some (.d (.tup (rs.map rD)))) (some (.d (.str mode))) none (some (.d (.str w))) none none none = ρ
    have v3 : ∀ st, varE 3 ρ st = .ok (.d (.tup (rs.map rD))) st := fun st => by rw [← hE]; rfl
    have v4 : ∀ st, varE 4 ρ st = .ok (.d (.str mode)) st := fun st => by rw [← hE]; rfl
    have v6 : ∀ st, varE 6 ρ st = .ok (.d (.str w)) st := fun st => by rw [← hE]; rfl
    have mk : ∀ st, makeE ("Turning" : Str) [("rules" : Str), ("mode" : Str)] (consA (varE 3) (consA (varE 4) nilA)) ρ st = .ok (.d (turnD rs mode)) st := fun st => by
      unfold makeE
      rw [consA_ok (v3 st) (consA_ok (v4 st) (show nilA _ _ = .ok [] _ from rfl)), bindR_ok]
      rfl
    have tp : ∀ st, tupE (consA (cE (.str ("a" : Str))) nilA) ρ st = .ok (.d (.tup [.str ("a" : Str)])) st := fun st => by
      simp only [funD, funX, funK, env0, retS, retN, exprS, setS, seqS, ifS, asgS, parS, nxS, raiseS, varE, cE, op2, andT, orT, notT, notE, ifE, nilA, consA, tupE, lstE, asDs_nil, asDs_cons, asDs_map, callE, callX, bltE, one, truE, sliceE, noO, someO, nameG, tupG, consG, nilG, okIf, negE, bindR_ok, bindR_exc, bindR_err, bindS_ok, bindS_exc, bindS_err, seqR_nx, seqR_ret, seqR_exc, seqR_brk, seqR_cnt, seqR_err, noX_ok, fin_nx, fin_d, fin_exc, fin_scr, eq_str, ne_str, eq_int, ne_int, List.map_cons, List.map_nil, List.cons_append, List.nil_append, List.getElem?_cons_zero, List.getElem?_cons_succ, List.length_cons, List.length_nil, Nat.reduceAdd, Nat.reduceSub, List.replicate_zero, List.replicate_succ, List.set_cons_zero, List.set_cons_succ, List.take_length, Option.bind_some, Bool.not_true, Bool.not_false, if_true, if_false, Bool.false_eq_true, ite_true, ite_false, ite_self, decide_true, decide_false, Nat.zero_le, reduceCtorEq, andE_eq, andK_bl, orE_eq, orK_bl, asB_eq, asK_bl, Option.map_some, sz1, sz2, sz3, sz4, cst1, cst2, cst3]
    have ls : ∀ st, lstE (consA (varE 6) nilA) ρ st = .ok (.d (.lst [.str w])) st := fun st => by
      unfold lstE
      rw [consA_one (v6 st), bindR_ok]
      show (if 1 ≤ sizeLine then R.ok (Val.d (.lst [.str w])) st else R.err) = _
      exact if_pos (small_size (by omega))
    have vl : valL ρ (stD c2 m2 []) = .ok (.d (.lst [.non, .int 7, .tup [.str ("a" : Str)], .lst [.str w], .bl true, turnD rs mode])) (stD c2 m2 []) := by
      unfold valL
      exact lstE_ok (consA_ok (a := .d .non) rfl (consA_ok (a := .d (.int 7)) rfl (consA_ok (tp _) (consA_ok (ls _) (consA_ok (a := .d (.bl true)) rfl (consA_ok (mk _) (show nilA _ _ = .ok [] _ from rfl))))))) rfl (by simp)
    rw [lawC_eq, forS_eq]
    unfold seqI
    rw [vl, bindR_ok]
    show bindS ρ (R.ok ([.non, .int 7, .tup [.str ("a" : Str)], .lst [.str w], .bl true, turnD rs mode].map Val.d) (stD c2 m2 [])) _ = _
    rw [bindS_ok, ← hE]
    refine val_ok _ _ (List.forall_mem_cons.mpr ⟨by decide +kernel, List.forall_mem_cons.mpr ⟨by decide +kernel, List.forall_mem_cons.mpr ⟨by decide +kernel, List.forall_mem_cons.mpr ⟨(show tab_str (.b "list") = some false by decide +kernel), List.forall_mem_cons.mpr ⟨by decide +kernel, List.forall_mem_cons.mpr ⟨(show tab_str (.o ("Turning" : Str)) = some false by decide +kernel), fun _ z => by cases z⟩⟩⟩⟩⟩⟩)
  have D1 : ∀ (ρ : DL.Env) (st : Store), lawD ρ st = .ret (.d (.bl true)) st := fun ρ st => by
    have mk : makeE ("Turning" : Str) [("rules" : Str), ("mode" : Str)] (consA (tupE nilA) (consA (cE (.str ("abcdefgh" : Str))) nilA)) ρ st = .ok (.d (turnD [] ("abcdefgh" : Str))) st := by
      unfold makeE
      rw [consA_ok (a := .d (.tup [])) (by simp only [funD, funX, funK, env0, retS, retN, exprS, setS, seqS, ifS, asgS, parS, nxS, raiseS, varE, cE, op2, andT, orT, notT, notE, ifE, nilA, consA, tupE, lstE, asDs_nil, asDs_cons, asDs_map, callE, callX, bltE, one, truE, sliceE, noO, someO, nameG, tupG, consG, nilG, okIf, negE, bindR_ok, bindR_exc, bindR_err, bindS_ok, bindS_exc, bindS_err, seqR_nx, seqR_ret, seqR_exc, seqR_brk, seqR_cnt, seqR_err, noX_ok, fin_nx, fin_d, fin_exc, fin_scr, eq_str, ne_str, eq_int, ne_int, List.map_cons, List.map_nil, List.cons_append, List.nil_append, List.getElem?_cons_zero, List.getElem?_cons_succ, List.length_cons, List.length_nil, Nat.reduceAdd, Nat.reduceSub, List.replicate_zero, List.replicate_succ, List.set_cons_zero, List.set_cons_succ, List.take_length, Option.bind_some, Bool.not_true, Bool.not_false, if_true, if_false, Bool.false_eq_true, ite_true, ite_false, ite_self, decide_true, decide_false, Nat.zero_le, reduceCtorEq, andE_eq, andK_bl, orE_eq, orK_bl, asB_eq, asK_bl, Option.map_some, sz1, sz2, sz3, sz4, cst1, cst2, cst3]) (consA_ok (a := .d (.str ("abcdefgh" : Str))) rfl (show nilA _ _ = .ok [] _ from rfl)), bindR_ok]
      rfl
    have c1 := call_one mk (last_text st)
    have c2 := call_one (F := F__law_told) (f := cE (.str ("abcdefgh" : Str))) (ρ := ρ) (st := st) (a := .d (.str ("abcdefgh" : Str))) rfl (last_told st)
    have q3 : eqIV ("Turning" : Str) F_Turning___eq__ (.d (turnD [] ("abcdefgh" : Str))) (.d (turnD [] ("abcdefgh" : Str))) st = .ok (.d (.bl true)) st := by
      show (if ("Turning" : Str) = ("Turning" : Str) ∧ ("Turning" : Str) = ("Turning" : Str) then noX (F_Turning___eq__ [.d (turnD [] ("abcdefgh" : Str)), .d (turnD [] ("abcdefgh" : Str))] st) else .err) = _
      rw [if_pos ⟨rfl, rfl⟩, f_eq (fun r h => by cases h), noX_ok]
    unfold lawD retS
    rw [andE_eq]
    unfold op2
    rw [c1, bindR_ok]
    show bindS ρ (bindR (bindR (R.ok (Val.d (.str ("abcdefgh" : Str))) st) _) _) _ = _
    rw [bindR_ok, eq_str, decide_eq_true rfl, bindR_ok, andK_bl, if_pos rfl, c2, bindR_ok, mk, bindR_ok, q3, bindS_ok]
  refine ⟨[], ?_⟩
  unfold F_law funD
  rw [law_split]
  show noX (fin _ (seqS lawA _ [some (.scr (ns.map D.int)), none, none, none, none, none, none, none, none, none] [])) = _
  rw [seq_nx A1, seq_nx B1, seq_nx C1, D1, fin_d]
  rfl
end K50
end

section
set_option Elab.async false
set_option linter.all false
set_option autoImplicit false
set_option maxRecDepth 100000
set_option maxHeartbeats 4000000
/-! printed by gen.py with conf50.py: the program top. -/
namespace K50
open PySem PySem.Spec PyProof.Rows L2 DL
abbrev prg : Program := PySem.Challenge.rw_turnsfit_k50_whole_texts_of_turnings_the.prog
abbrev s_Turning_init : Stmt := meth 17 0
abbrev s_InvalidText_init : Stmt := meth 3 0
theorem mem_lk {α β : Type} [BEq α] [LawfulBEq α] {a : α} {b : β} : ∀ {l : List (α × β)}, l.lookup a = some b → (a, b) ∈ l
  | [], e => by cases e
  | (c, d) :: r, e => by
    unfold List.lookup at e
    split at e
    · rename_i h
      cases e
      rw [eq_of_beq h]
      exact List.mem_cons_self
    · exact List.mem_cons_of_mem _ (mem_lk e)
theorem tab_ok {K : PySem.W.Frag} {mg : Str → Option Value} {T : String} {Ts : List (String × Bool)} {Cs : List (Str × Bool)} {cv : Value} (h1 : ∀ p ∈ Ts, PySem.W.kitOne K (.type p.1) cv = some p.2) (h2 : ∀ p ∈ Cs, ∀ C, mg p.1 = some (.ref C) → InsTy K C ∧ PySem.W.kitOne K (.ref C) cv = some p.2) : ∀ t b, isTab T Ts Cs t = some b → TabOk K mg cv t b := fun t b e => by
  cases t with
  | b s => exact h1 (s, b) (mem_lk e)
  | o c => exact fun C hC => h2 (c, b) (mem_lk e) C hC
theorem kit_own {K : PySem.W.Frag} {C : Addr} {t : Value} {b : Bool} (h1 : PySem.W.isClsIn K C = true) (h2 : PySem.W.typeIn K (.ref C) = some (.type "type")) (h3 : PySem.W.subIn K t (.ref C) = some b) (hne : b = false → (t == Value.ref C) = false) : PySem.W.kitOne K t (.ref C) = some b := by
  unfold PySem.W.kitOne
  have h1' : (PySem.W.clsIn K C).isSome = true := h1
  have q : PySem.W.kitCls K t (.ref C) = some b := by
    show (if ((PySem.W.clsIn K C).isSome && PySem.W.typeIn K (.ref C) == some (.type "type")) = true then PySem.W.subIn K t (.ref C) else none) = some b
    rw [h1', h2, if_pos (by first | rfl | decide), h3]
  rw [q]
  cases b with
  | true => split <;> rfl
  | false => rw [hne rfl]; rfl
theorem kit_blt {K : PySem.W.Frag} {C : Addr} {T : String} {b : Bool} (h1 : PySem.W.kitMeta T = true) (h3 : PySem.W.subIn K (.ref C) (.type T) = some b) : PySem.W.kitOne K (.ref C) (.type T) = some b := by
  have e : (Value.ref C == Value.type T) = false := rfl
  show (if (Value.ref C == Value.type T) = true then some true else if PySem.W.kitMeta T = true then PySem.W.subIn K (.ref C) (.type T) else none) = some b
  rw [e, if_neg Bool.false_ne_true, if_pos h1, h3]
theorem sup_of {K : PySem.W.Frag} {cX cF : Addr} {cdX cdF : ClassData} {name : Str} {r : Option Value} (h1 : PySem.W.clsIn K cX = some cdX) (h2 : PySem.W.clsIn K cF = some cdF) (hm : (cdX.mro.dropWhile (· != .ref cX)).drop 1 = cdF.mro) (h3 : PySem.W.findIn K (.ref cF) name = some r) : PySem.W.ks_superIn K cX cX name = some r := by
  unfold PySem.W.ks_superIn
  rw [h1]
  show PySem.W.alongIn K name ((cdX.mro.dropWhile (· != .ref cX)).drop 1) = some r
  rw [hm]
  unfold PySem.W.clsIn at h2
  unfold PySem.W.findIn at h3
  split at h2
  · rename_i e
    cases h2
    simp only [e] at h3
    exact h3
  · cases h2
theorem sup_body : EX.SupBody (defScope s_InvalidText_init) (defBody s_InvalidText_init) :=
  ⟨⟨_, _, _, _, _, _, _, _, _, _, rfl, fun _ => ⟨_, rfl⟩, fun _ => rfl, fun _ => rfl⟩, rfl, rfl, rfl, by decide +kernel, rfl, rfl, rfl, rfl⟩
theorem vis_init : ∀ z ∈ (["self", "rules", "mode"] : List Str), Vis (defScope s_Turning_init) z ∧ (z == ("__debug__" : Str)) = false ∧ (z == ("__classdict__" : Str)) = false :=
  List.forall_mem_cons.mpr ⟨⟨.inl rfl, by decide, by decide⟩, List.forall_mem_cons.mpr ⟨⟨.inl rfl, by decide, by decide⟩, List.forall_mem_cons.mpr ⟨⟨.inl rfl, by decide, by decide⟩, fun _ z => by cases z⟩⟩⟩
theorem all_mk {w : World} {K : PySem.W.Frag} {h : Heap} {mg : Str → Option Value} {fa : Addr} (X : K.In h) (G : h.Ns mainGlobals mg) (hfa : mg "law" = some (.ref fa))
    {f0 : Addr} {od0 an0 : Option Addr} {sl0 : Array (Option Value)} {oc0 kV0 dc0 pm0 cd0 ct0 : Value}
    {f1 : Addr} {od1 an1 : Option Addr} {sl1 : Array (Option Value)} {oc1 kV1 dc1 pm1 cd1 ct1 : Value}
    {f2 : Addr} {od2 an2 : Option Addr} {sl2 : Array (Option Value)} {oc2 kV2 dc2 pm2 cd2 ct2 : Value}
    {f3 : Addr} {od3 an3 : Option Addr} {sl3 : Array (Option Value)} {oc3 kV3 dc3 pm3 cd3 ct3 : Value}
    {f4 : Addr} {od4 an4 : Option Addr} {sl4 : Array (Option Value)} {oc4 kV4 dc4 pm4 cd4 ct4 : Value}
    {f5 : Addr} {od5 an5 : Option Addr} {sl5 : Array (Option Value)} {oc5 kV5 dc5 pm5 cd5 ct5 : Value}
    {f6 : Addr} {od6 an6 : Option Addr} {sl6 : Array (Option Value)} {oc6 kV6 dc6 pm6 cd6 ct6 : Value}
    {f7 : Addr} {od7 an7 : Option Addr} {sl7 : Array (Option Value)} {oc7 kV7 dc7 pm7 cd7 ct7 : Value}
    {f8 : Addr} {od8 an8 : Option Addr} {sl8 : Array (Option Value)} {oc8 kV8 dc8 pm8 cd8 ct8 : Value}
    {f9 : Addr} {od9 an9 : Option Addr} {sl9 : Array (Option Value)} {oc9 kV9 dc9 pm9 cd9 ct9 : Value}
    {f10 : Addr} {od10 an10 : Option Addr} {sl10 : Array (Option Value)} {oc10 kV10 dc10 pm10 cd10 ct10 : Value}
    {f11 : Addr} {od11 an11 : Option Addr} {sl11 : Array (Option Value)} {oc11 kV11 dc11 pm11 cd11 ct11 : Value}
    {f12 : Addr} {od12 an12 : Option Addr} {sl12 : Array (Option Value)} {oc12 kV12 dc12 pm12 cd12 ct12 : Value}
    {f13 : Addr} {od13 an13 : Option Addr} {sl13 : Array (Option Value)} {oc13 kV13 dc13 pm13 cd13 ct13 : Value}
    {f14 : Addr} {od14 an14 : Option Addr} {sl14 : Array (Option Value)} {oc14 kV14 dc14 pm14 cd14 ct14 : Value}
    {f15 : Addr} {od15 an15 : Option Addr} {sl15 : Array (Option Value)} {oc15 kV15 dc15 pm15 cd15 ct15 : Value}
    {f16 : Addr} {od16 an16 : Option Addr} {sl16 : Array (Option Value)} {oc16 kV16 dc16 pm16 cd16 ct16 : Value}
    {f17 : Addr} {od17 an17 : Option Addr} {sl17 : Array (Option Value)} {oc17 kV17 dc17 pm17 cd17 ct17 : Value}
    {f18 : Addr} {od18 an18 : Option Addr} {sl18 : Array (Option Value)} {oc18 kV18 dc18 pm18 cd18 ct18 : Value}
    {f19 : Addr} {od19 an19 : Option Addr} {sl19 : Array (Option Value)} {oc19 kV19 dc19 pm19 cd19 ct19 : Value}
    {f20 : Addr} {od20 an20 : Option Addr} {sl20 : Array (Option Value)} {oc20 kV20 dc20 pm20 cd20 ct20 : Value}
    {f21 : Addr} {od21 an21 : Option Addr} {sl21 : Array (Option Value)} {oc21 kV21 dc21 pm21 cd21 ct21 : Value}
    {f22 : Addr} {od22 an22 : Option Addr} {sl22 : Array (Option Value)} {oc22 kV22 dc22 pm22 cd22 ct22 : Value}
    {f23 : Addr} {od23 an23 : Option Addr} {sl23 : Array (Option Value)} {oc23 kV23 dc23 pm23 cd23 ct23 : Value}
    {f24 : Addr} {od24 an24 : Option Addr} {sl24 : Array (Option Value)} {oc24 kV24 dc24 pm24 cd24 ct24 : Value}
    {f25 : Addr} {od25 an25 : Option Addr} {sl25 : Array (Option Value)} {oc25 kV25 dc25 pm25 cd25 ct25 : Value}
    {f26 : Addr} {od26 an26 : Option Addr} {sl26 : Array (Option Value)} {oc26 kV26 dc26 pm26 cd26 ct26 : Value}
    {t_LONGEST_NAME : Tok}
    {t_LETTERS : Tok}
    {t_LONGEST_TEXT : Tok}
    {t_SIGNS : Tok}
    {cT : Addr}
    {f_init : Addr} {od_init an_init : Option Addr} {sl_init : Array (Option Value)} {oc_init kV_init dc_init pm_init cd_init ct_init : Value}
    {f_eq : Addr} {od_eq an_eq : Option Addr} {sl_eq : Array (Option Value)} {oc_eq kV_eq dc_eq pm_eq cd_eq ct_eq : Value}
    {cX cF cV fI cda ccl : Addr} {cdX cdF : ClassData} {nm q : Str} {N : Addr} {bs bm : List Value} {sn : List Str} {sub : List Value} {ab : Bool} {col : Option Bool} {dd : Option Addr} {m0 m1 m2 m3 m5 : Option Value}
    {odI anI cddI : Option Addr} {slI ccsI : Array (Option Value)} {ocI kVI dcI pmI ctI cclI : Value} {vsI : Array Value} {file : Str} {tf : Tok} {clC : Value} {cldC : Option Addr} {cslC : Array (Option Value)}
    (a0 : PySem.W.nsIn K mainGlobals ("is_name" : Str) = some (some (.ref f0)))
    (l0 : K.lookup f0 = some ⟨oc0, od0, .func (PySem.W.fnOf ("is_name" : Str) ("is_name" : Str) (defArgs s_is_name) (defBody s_is_name) (defScope s_is_name) .none kV0 dc0 pm0 an0 cd0 ct0), sl0⟩)
    (c0 : PySem.W.codeIn K cd0 ("is_name" : Str) = true)
    (k0 : PySem.W.keepIn K (.ref f0) = true)
    (a1 : PySem.W.nsIn K mainGlobals ("is_text" : Str) = some (some (.ref f1)))
    (l1 : K.lookup f1 = some ⟨oc1, od1, .func (PySem.W.fnOf ("is_text" : Str) ("is_text" : Str) (defArgs s_is_text) (defBody s_is_text) (defScope s_is_text) .none kV1 dc1 pm1 an1 cd1 ct1), sl1⟩)
    (c1 : PySem.W.codeIn K cd1 ("is_text" : Str) = true)
    (k1 : PySem.W.keepIn K (.ref f1) = true)
    (a2 : PySem.W.nsIn K mainGlobals ("is_tuple_of" : Str) = some (some (.ref f2)))
    (l2 : K.lookup f2 = some ⟨oc2, od2, .func (PySem.W.fnOf ("is_tuple_of" : Str) ("is_tuple_of" : Str) (defArgs s_is_tuple_of) (defBody s_is_tuple_of) (defScope s_is_tuple_of) .none kV2 dc2 pm2 an2 cd2 ct2), sl2⟩)
    (c2 : PySem.W.codeIn K cd2 ("is_tuple_of" : Str) = true)
    (k2 : PySem.W.keepIn K (.ref f2) = true)
    (a3 : PySem.W.nsIn K mainGlobals ("is_letter" : Str) = some (some (.ref f3)))
    (l3 : K.lookup f3 = some ⟨oc3, od3, .func (PySem.W.fnOf ("is_letter" : Str) ("is_letter" : Str) (defArgs s_is_letter) (defBody s_is_letter) (defScope s_is_letter) .none kV3 dc3 pm3 an3 cd3 ct3), sl3⟩)
    (c3 : PySem.W.codeIn K cd3 ("is_letter" : Str) = true)
    (k3 : PySem.W.keepIn K (.ref f3) = true)
    (a4 : PySem.W.nsIn K mainGlobals ("is_small" : Str) = some (some (.ref f4)))
    (l4 : K.lookup f4 = some ⟨oc4, od4, .func (PySem.W.fnOf ("is_small" : Str) ("is_small" : Str) (defArgs s_is_small) (defBody s_is_small) (defScope s_is_small) .none kV4 dc4 pm4 an4 cd4 ct4), sl4⟩)
    (c4 : PySem.W.codeIn K cd4 ("is_small" : Str) = true)
    (k4 : PySem.W.keepIn K (.ref f4) = true)
    (a5 : PySem.W.nsIn K mainGlobals ("is_piece" : Str) = some (some (.ref f5)))
    (l5 : K.lookup f5 = some ⟨oc5, od5, .func (PySem.W.fnOf ("is_piece" : Str) ("is_piece" : Str) (defArgs s_is_piece) (defBody s_is_piece) (defScope s_is_piece) .none kV5 dc5 pm5 an5 cd5 ct5), sl5⟩)
    (c5 : PySem.W.codeIn K cd5 ("is_piece" : Str) = true)
    (k5 : PySem.W.keepIn K (.ref f5) = true)
    (a6 : PySem.W.nsIn K mainGlobals ("are_pieces" : Str) = some (some (.ref f6)))
    (l6 : K.lookup f6 = some ⟨oc6, od6, .func (PySem.W.fnOf ("are_pieces" : Str) ("are_pieces" : Str) (defArgs s_are_pieces) (defBody s_are_pieces) (defScope s_are_pieces) .none kV6 dc6 pm6 an6 cd6 ct6), sl6⟩)
    (c6 : PySem.W.codeIn K cd6 ("are_pieces" : Str) = true)
    (k6 : PySem.W.keepIn K (.ref f6) = true)
    (a7 : PySem.W.nsIn K mainGlobals ("is_rule" : Str) = some (some (.ref f7)))
    (l7 : K.lookup f7 = some ⟨oc7, od7, .func (PySem.W.fnOf ("is_rule" : Str) ("is_rule" : Str) (defArgs s_is_rule) (defBody s_is_rule) (defScope s_is_rule) .none kV7 dc7 pm7 an7 cd7 ct7), sl7⟩)
    (c7 : PySem.W.codeIn K cd7 ("is_rule" : Str) = true)
    (k7 : PySem.W.keepIn K (.ref f7) = true)
    (a8 : PySem.W.nsIn K mainGlobals ("part_text" : Str) = some (some (.ref f8)))
    (l8 : K.lookup f8 = some ⟨oc8, od8, .func (PySem.W.fnOf ("part_text" : Str) ("part_text" : Str) (defArgs s_part_text) (defBody s_part_text) (defScope s_part_text) .none kV8 dc8 pm8 an8 cd8 ct8), sl8⟩)
    (c8 : PySem.W.codeIn K cd8 ("part_text" : Str) = true)
    (k8 : PySem.W.keepIn K (.ref f8) = true)
    (a9 : PySem.W.nsIn K mainGlobals ("turning_text" : Str) = some (some (.ref f9)))
    (l9 : K.lookup f9 = some ⟨oc9, od9, .func (PySem.W.fnOf ("turning_text" : Str) ("turning_text" : Str) (defArgs s_turning_text) (defBody s_turning_text) (defScope s_turning_text) .none kV9 dc9 pm9 an9 cd9 ct9), sl9⟩)
    (c9 : PySem.W.codeIn K cd9 ("turning_text" : Str) = true)
    (k9 : PySem.W.keepIn K (.ref f9) = true)
    (a10 : PySem.W.nsIn K mainGlobals ("letters_end" : Str) = some (some (.ref f10)))
    (l10 : K.lookup f10 = some ⟨oc10, od10, .func (PySem.W.fnOf ("letters_end" : Str) ("letters_end" : Str) (defArgs s_letters_end) (defBody s_letters_end) (defScope s_letters_end) .none kV10 dc10 pm10 an10 cd10 ct10), sl10⟩)
    (c10 : PySem.W.codeIn K cd10 ("letters_end" : Str) = true)
    (k10 : PySem.W.keepIn K (.ref f10) = true)
    (a11 : PySem.W.nsIn K mainGlobals ("inner_parts" : Str) = some (some (.ref f11)))
    (l11 : K.lookup f11 = some ⟨oc11, od11, .func (PySem.W.fnOf ("inner_parts" : Str) ("inner_parts" : Str) (defArgs s_inner_parts) (defBody s_inner_parts) (defScope s_inner_parts) .none kV11 dc11 pm11 an11 cd11 ct11), sl11⟩)
    (c11 : PySem.W.codeIn K cd11 ("inner_parts" : Str) = true)
    (k11 : PySem.W.keepIn K (.ref f11) = true)
    (a12 : PySem.W.nsIn K mainGlobals ("part_at" : Str) = some (some (.ref f12)))
    (l12 : K.lookup f12 = some ⟨oc12, od12, .func (PySem.W.fnOf ("part_at" : Str) ("part_at" : Str) (defArgs s_part_at) (defBody s_part_at) (defScope s_part_at) .none kV12 dc12 pm12 an12 cd12 ct12), sl12⟩)
    (c12 : PySem.W.codeIn K cd12 ("part_at" : Str) = true)
    (k12 : PySem.W.keepIn K (.ref f12) = true)
    (a13 : PySem.W.nsIn K mainGlobals ("parts_in" : Str) = some (some (.ref f13)))
    (l13 : K.lookup f13 = some ⟨oc13, od13, .func (PySem.W.fnOf ("parts_in" : Str) ("parts_in" : Str) (defArgs s_parts_in) (defBody s_parts_in) (defScope s_parts_in) .none kV13 dc13 pm13 an13 cd13 ct13), sl13⟩)
    (c13 : PySem.W.codeIn K cd13 ("parts_in" : Str) = true)
    (k13 : PySem.W.keepIn K (.ref f13) = true)
    (a14 : PySem.W.nsIn K mainGlobals ("read_rule" : Str) = some (some (.ref f14)))
    (l14 : K.lookup f14 = some ⟨oc14, od14, .func (PySem.W.fnOf ("read_rule" : Str) ("read_rule" : Str) (defArgs s_read_rule) (defBody s_read_rule) (defScope s_read_rule) .none kV14 dc14 pm14 an14 cd14 ct14), sl14⟩)
    (c14 : PySem.W.codeIn K cd14 ("read_rule" : Str) = true)
    (k14 : PySem.W.keepIn K (.ref f14) = true)
    (a15 : PySem.W.nsIn K mainGlobals ("read_turning" : Str) = some (some (.ref f15)))
    (l15 : K.lookup f15 = some ⟨oc15, od15, .func (PySem.W.fnOf ("read_turning" : Str) ("read_turning" : Str) (defArgs s_read_turning) (defBody s_read_turning) (defScope s_read_turning) .none kV15 dc15 pm15 an15 cd15 ct15), sl15⟩)
    (c15 : PySem.W.codeIn K cd15 ("read_turning" : Str) = true)
    (k15 : PySem.W.keepIn K (.ref f15) = true)
    (a16 : PySem.W.nsIn K mainGlobals ("_law_deal" : Str) = some (some (.ref f16)))
    (l16 : K.lookup f16 = some ⟨oc16, od16, .func (PySem.W.fnOf ("_law_deal" : Str) ("_law_deal" : Str) (defArgs s__law_deal) (defBody s__law_deal) (defScope s__law_deal) .none kV16 dc16 pm16 an16 cd16 ct16), sl16⟩)
    (c16 : PySem.W.codeIn K cd16 ("_law_deal" : Str) = true)
    (k16 : PySem.W.keepIn K (.ref f16) = true)
    (a17 : PySem.W.nsIn K mainGlobals ("_law_any" : Str) = some (some (.ref f17)))
    (l17 : K.lookup f17 = some ⟨oc17, od17, .func (PySem.W.fnOf ("_law_any" : Str) ("_law_any" : Str) (defArgs s__law_any) (defBody s__law_any) (defScope s__law_any) .none kV17 dc17 pm17 an17 cd17 ct17), sl17⟩)
    (c17 : PySem.W.codeIn K cd17 ("_law_any" : Str) = true)
    (k17 : PySem.W.keepIn K (.ref f17) = true)
    (a18 : PySem.W.nsIn K mainGlobals ("_law_of" : Str) = some (some (.ref f18)))
    (l18 : K.lookup f18 = some ⟨oc18, od18, .func (PySem.W.fnOf ("_law_of" : Str) ("_law_of" : Str) (defArgs s__law_of) (defBody s__law_of) (defScope s__law_of) .none kV18 dc18 pm18 an18 cd18 ct18), sl18⟩)
    (c18 : PySem.W.codeIn K cd18 ("_law_of" : Str) = true)
    (k18 : PySem.W.keepIn K (.ref f18) = true)
    (a19 : PySem.W.nsIn K mainGlobals ("_law_names" : Str) = some (some (.ref f19)))
    (l19 : K.lookup f19 = some ⟨oc19, od19, .func (PySem.W.fnOf ("_law_names" : Str) ("_law_names" : Str) (defArgs s__law_names) (defBody s__law_names) (defScope s__law_names) .none kV19 dc19 pm19 an19 cd19 ct19), sl19⟩)
    (c19 : PySem.W.codeIn K cd19 ("_law_names" : Str) = true)
    (k19 : PySem.W.keepIn K (.ref f19) = true)
    (a20 : PySem.W.nsIn K mainGlobals ("_law_parts" : Str) = some (some (.ref f20)))
    (l20 : K.lookup f20 = some ⟨oc20, od20, .func (PySem.W.fnOf ("_law_parts" : Str) ("_law_parts" : Str) (defArgs s__law_parts) (defBody s__law_parts) (defScope s__law_parts) .none kV20 dc20 pm20 an20 cd20 ct20), sl20⟩)
    (c20 : PySem.W.codeIn K cd20 ("_law_parts" : Str) = true)
    (k20 : PySem.W.keepIn K (.ref f20) = true)
    (a21 : PySem.W.nsIn K mainGlobals ("_law_turning" : Str) = some (some (.ref f21)))
    (l21 : K.lookup f21 = some ⟨oc21, od21, .func (PySem.W.fnOf ("_law_turning" : Str) ("_law_turning" : Str) (defArgs s__law_turning) (defBody s__law_turning) (defScope s__law_turning) .none kV21 dc21 pm21 an21 cd21 ct21), sl21⟩)
    (c21 : PySem.W.codeIn K cd21 ("_law_turning" : Str) = true)
    (k21 : PySem.W.keepIn K (.ref f21) = true)
    (a22 : PySem.W.nsIn K mainGlobals ("_law_words" : Str) = some (some (.ref f22)))
    (l22 : K.lookup f22 = some ⟨oc22, od22, .func (PySem.W.fnOf ("_law_words" : Str) ("_law_words" : Str) (defArgs s__law_words) (defBody s__law_words) (defScope s__law_words) .none kV22 dc22 pm22 an22 cd22 ct22), sl22⟩)
    (c22 : PySem.W.codeIn K cd22 ("_law_words" : Str) = true)
    (k22 : PySem.W.keepIn K (.ref f22) = true)
    (a23 : PySem.W.nsIn K mainGlobals ("_law_pieces" : Str) = some (some (.ref f23)))
    (l23 : K.lookup f23 = some ⟨oc23, od23, .func (PySem.W.fnOf ("_law_pieces" : Str) ("_law_pieces" : Str) (defArgs s__law_pieces) (defBody s__law_pieces) (defScope s__law_pieces) .none kV23 dc23 pm23 an23 cd23 ct23), sl23⟩)
    (c23 : PySem.W.codeIn K cd23 ("_law_pieces" : Str) = true)
    (k23 : PySem.W.keepIn K (.ref f23) = true)
    (a24 : PySem.W.nsIn K mainGlobals ("_law_told" : Str) = some (some (.ref f24)))
    (l24 : K.lookup f24 = some ⟨oc24, od24, .func (PySem.W.fnOf ("_law_told" : Str) ("_law_told" : Str) (defArgs s__law_told) (defBody s__law_told) (defScope s__law_told) .none kV24 dc24 pm24 an24 cd24 ct24), sl24⟩)
    (c24 : PySem.W.codeIn K cd24 ("_law_told" : Str) = true)
    (k24 : PySem.W.keepIn K (.ref f24) = true)
    (a25 : PySem.W.nsIn K mainGlobals ("_law_refused" : Str) = some (some (.ref f25)))
    (l25 : K.lookup f25 = some ⟨oc25, od25, .func (PySem.W.fnOf ("_law_refused" : Str) ("_law_refused" : Str) (defArgs s__law_refused) (defBody s__law_refused) (defScope s__law_refused) .none kV25 dc25 pm25 an25 cd25 ct25), sl25⟩)
    (c25 : PySem.W.codeIn K cd25 ("_law_refused" : Str) = true)
    (k25 : PySem.W.keepIn K (.ref f25) = true)
    (a26 : PySem.W.nsIn K mainGlobals ("law" : Str) = some (some (.ref f26)))
    (l26 : K.lookup f26 = some ⟨oc26, od26, .func (PySem.W.fnOf ("law" : Str) ("law" : Str) (defArgs s_law) (defBody s_law) (defScope s_law) .none kV26 dc26 pm26 an26 cd26 ct26), sl26⟩)
    (c26 : PySem.W.codeIn K cd26 ("law" : Str) = true)
    (k26 : PySem.W.keepIn K (.ref f26) = true)
    (z_len : PySem.W.nsIn K mainGlobals "len" = some none)
    (z_LONGEST_NAME : PySem.W.nsIn K mainGlobals "LONGEST_NAME" = some (some (.int 8 t_LONGEST_NAME)))
    (z_isinstance : PySem.W.nsIn K mainGlobals "isinstance" = some none)
    (z_str : PySem.W.nsIn K mainGlobals "str" = some none)
    (z_LETTERS : PySem.W.nsIn K mainGlobals "LETTERS" = some (some (.str "abcdefghijklmnopqrstuvwxyz" t_LETTERS)))
    (z_all : PySem.W.nsIn K mainGlobals "all" = some none)
    (z_LONGEST_TEXT : PySem.W.nsIn K mainGlobals "LONGEST_TEXT" = some (some (.int 16 t_LONGEST_TEXT)))
    (z_SIGNS : PySem.W.nsIn K mainGlobals "SIGNS" = some (some (.str "abcdefghijklmnopqrstuvwxyz0123456789 " t_SIGNS)))
    (z_tuple : PySem.W.nsIn K mainGlobals "tuple" = some none)
    (z_super : PySem.W.nsIn K mainGlobals "super" = some none)
    (z_range : PySem.W.nsIn K mainGlobals "range" = some none)
    (z_int : PySem.W.nsIn K mainGlobals "int" = some none)
    (z_abs : PySem.W.nsIn K mainGlobals "abs" = some none)
    (z_repr : PySem.W.nsIn K mainGlobals "repr" = some none)
    (tA : PySem.W.nsIn K mainGlobals "Turning" = some (some (.ref cT)))
    (tmk : PySem.W.makesIn K cT = true)
    (tkp : PySem.W.keepIn K (.ref cT) = true)
    (ta_init : PySem.W.findIn K (.ref cT) "__init__" = some (some (.ref f_init)))
    (tf_init : PySem.W.isFn K (.ref f_init) = true)
    (tl_init : K.lookup f_init = some ⟨oc_init, od_init, .func (PySem.W.fnOf "__init__" "Turning.__init__" (defArgs s_Turning_init) (defBody s_Turning_init) (defScope s_Turning_init) .none kV_init dc_init pm_init an_init cd_init ct_init), sl_init⟩)
    (tc_init : PySem.W.codeIn K cd_init "Turning.__init__" = true)
    (tk_init : PySem.W.keepIn K (.ref f_init) = true)
    (ta_eq : PySem.W.findIn K (.ref cT) "__eq__" = some (some (.ref f_eq)))
    (tf_eq : PySem.W.isFn K (.ref f_eq) = true)
    (tl_eq : K.lookup f_eq = some ⟨oc_eq, od_eq, .func (PySem.W.fnOf "__eq__" "Turning.__eq__" (defArgs s_Turning___eq__) (defBody s_Turning___eq__) (defScope s_Turning___eq__) .none kV_eq dc_eq pm_eq an_eq cd_eq ct_eq), sl_eq⟩)
    (tc_eq : PySem.W.codeIn K cd_eq "Turning.__eq__" = true)
    (tk_eq : PySem.W.keepIn K (.ref f_eq) = true)
    (tpg : PySem.W.plainGet K cT Str.empty = true)
    (thd : PySem.W.hasDictIn K cT = true)
    (tpo : PySem.W.plainOver K cT = true)
    (tsa : PySem.W.findIn K (.ref cT) "__setattr__" = some (some (.builtin "object.__setattr__")))
    (tn1 : PySem.W.findIn K (.ref cT) "rules" = some none)
    (tn2 : PySem.W.findIn K (.ref cT) "mode" = some none)
    (tha : PySem.W.findIn K (.ref cT) "__class__" = some (some (.builtin "object.__class__")))
    (thn : PySem.W.specialIn K (.builtin "object.__class__") "__get__" = some (some (.builtin "getset_descriptor.__get__")))
    (tht : PySem.W.takesIn K (.builtin "object.__class__") = some true)
    (thm : PySem.W.mroIn K cT (.type "object") = some true)
    (q_str_o : PySem.W.subIn K (.ref cT) (.type "str") = some false)
    (q_tuple_o : PySem.W.subIn K (.ref cT) (.type "tuple") = some false)
    (q_NoneType : PySem.W.subIn K (.type "NoneType") (.ref cT) = some false)
    (q_bool : PySem.W.subIn K (.type "bool") (.ref cT) = some false)
    (q_int : PySem.W.subIn K (.type "int") (.ref cT) = some false)
    (q_str : PySem.W.subIn K (.type "str") (.ref cT) = some false)
    (q_list : PySem.W.subIn K (.type "list") (.ref cT) = some false)
    (q_tuple : PySem.W.subIn K (.type "tuple") (.ref cT) = some false)
    (tss : PySem.W.subIn K (.ref cT) (.ref cT) = some true)
    (tic : PySem.W.isClsIn K cT = true)
    (tty : PySem.W.typeIn K (.ref cT) = some (.type "type"))
    (xF : PySem.W.nsIn K mainGlobals "FitError" = some (some (.ref cF)))
    (xV : PySem.W.nsIn K mainGlobals "InvalidTurning" = some (some (.ref cV)))
    (xA : PySem.W.nsIn K mainGlobals "InvalidText" = some (some (.ref cX)))
    (xL : K.lookup cX = some (excClassObj nm q cX N bs bm true sn sub ab col dd m0 m1 m2 m3 m5 "Exception.__new__"))
    (xO : EX.ownEx bm = true)
    (xsa : PySem.W.findIn K (.ref cX) "__setattr__" = some (some (.builtin "object.__setattr__")))
    (xeB : PySem.W.subIn K (.ref cX) (.type "BaseException") = some true)
    (xeE : PySem.W.subIn K (.ref cX) (.type "Exception") = some true)
    (xty : PySem.W.typeIn K (.ref cX) = some (.type "type"))
    (xk : PySem.W.keepIn K (.ref cX) = true)
    (xi : PySem.W.findIn K (.ref cX) "__init__" = some (some (.ref fI)))
    (xti : PySem.W.typeIn K (.ref fI) = some (.type "function"))
    (xl : K.lookup fI = some ⟨ocI, odI, .func (PySem.W.ksFn "__init__" "InvalidText.__init__" (defArgs s_InvalidText_init) (defBody s_InvalidText_init) (defScope s_InvalidText_init) .none kVI dcI pmI anI (.ref cda) ctI ccl), slI⟩)
    (xc : PySem.W.codeIn K (.ref cda) "InvalidText.__init__" = true)
    (xco : K.lookup cda = some ⟨cclI, cddI, .fields vsI, ccsI⟩)
    (xv : vsI[2]? = some (.str file tf))
    (xfi : ((prg.main.file : Str) == file) = true)
    (xcc : K.lookup ccl = some ⟨clC, cldC, .cell (some (.ref cX)), cslC⟩)
    (xcX : PySem.W.clsIn K cX = some cdX)
    (xcF : PySem.W.clsIn K cF = some cdF)
    (xmm : (cdX.mro.dropWhile (· != .ref cX)).drop 1 = cdF.mro)
    (xsF : PySem.W.findIn K (.ref cF) "__init__" = some (some (.builtin "Exception.__init__")))
    (xan : PySem.W.nsIn K cStatics "thirdparty.any" = some none)
    (xmr : PySem.W.mroIn K cX (.ref cX) = some true)
    (xat : PySem.W.findIn K (.ref cX) "at" = some none)
    (xga : PySem.W.findIn K (.ref cX) "__getattribute__" = some (some (.builtin "BaseException.__getattribute__")))
    (xgg : PySem.W.findIn K (.ref cX) "__getattr__" = some none)
    (xhd : PySem.W.hasDictIn K cX = true)
    (xcl : PySem.W.findIn K (.ref cX) "__class__" = some (some (.builtin "object.__class__")))
    (xmo : PySem.W.mroIn K cX (.type "object") = some true)
    (xss : PySem.W.subIn K (.ref cX) (.ref cX) = some true)
    (xk1 : PySem.W.subIn K (.ref cX) (.ref cF) = some true)
    (xic : PySem.W.isClsIn K cF = true)
    (xtF : PySem.W.typeIn K (.ref cF) = some (.type "type"))
    (xk2 : PySem.W.subIn K (.ref cX) (.ref cV) = some false)
    (xiV : PySem.W.isClsIn K cV = true)
    (xtV : PySem.W.typeIn K (.ref cV) = some (.type "type"))
    (xnV : (Value.ref cX == Value.ref cV) = false)
    : ∃ fd : FuncData, (∀ (s : Shared) (v : Value), BindsTo s fd ⟨[v], []⟩ [("script", v)]) ∧ ∀ base : Heap, K.In base → base.Ns mainGlobals mg → FnD prg w K mg base 20 fa fd ["script"] F_law := by
  have e := hfa.symm.trans (PySem.W.mg_of X G a26)
  cases e
  have F0 := fun_mk (st := s_is_name) l0 c0 k0
  have i_is_name : Inst K mg ("is_name" : Str) s_is_name [("value" : Str)] := ⟨_, _, F0, PySem.W.mg_of X G a0, F0.binds (ps := [("value" : Str)]) fun _ _ _ _ _ _ us hl => match us, hl with | [_], _ => rfl⟩
  have F1 := fun_mk (st := s_is_text) l1 c1 k1
  have i_is_text : Inst K mg ("is_text" : Str) s_is_text [("value" : Str)] := ⟨_, _, F1, PySem.W.mg_of X G a1, F1.binds (ps := [("value" : Str)]) fun _ _ _ _ _ _ us hl => match us, hl with | [_], _ => rfl⟩
  have F2 := fun_mk (st := s_is_tuple_of) l2 c2 k2
  have i_is_tuple_of : Inst K mg ("is_tuple_of" : Str) s_is_tuple_of [("value" : Str), ("size" : Str)] := ⟨_, _, F2, PySem.W.mg_of X G a2, F2.binds (ps := [("value" : Str), ("size" : Str)]) fun _ _ _ _ _ _ us hl => match us, hl with | [_, _], _ => rfl⟩
  have F3 := fun_mk (st := s_is_letter) l3 c3 k3
  have i_is_letter : Inst K mg ("is_letter" : Str) s_is_letter [("value" : Str)] := ⟨_, _, F3, PySem.W.mg_of X G a3, F3.binds (ps := [("value" : Str)]) fun _ _ _ _ _ _ us hl => match us, hl with | [_], _ => rfl⟩
  have F4 := fun_mk (st := s_is_small) l4 c4 k4
  have i_is_small : Inst K mg ("is_small" : Str) s_is_small [("sign" : Str)] := ⟨_, _, F4, PySem.W.mg_of X G a4, F4.binds (ps := [("sign" : Str)]) fun _ _ _ _ _ _ us hl => match us, hl with | [_], _ => rfl⟩
  have F5 := fun_mk (st := s_is_piece) l5 c5 k5
  have i_is_piece : Inst K mg ("is_piece" : Str) s_is_piece [("value" : Str), ("letter" : Str)] := ⟨_, _, F5, PySem.W.mg_of X G a5, F5.binds (ps := [("value" : Str), ("letter" : Str)]) fun _ _ _ _ _ _ us hl => match us, hl with | [_, _], _ => rfl⟩
  have F6 := fun_mk (st := s_are_pieces) l6 c6 k6
  have i_are_pieces : Inst K mg ("are_pieces" : Str) s_are_pieces [("value" : Str), ("letter" : Str)] := ⟨_, _, F6, PySem.W.mg_of X G a6, F6.binds (ps := [("value" : Str), ("letter" : Str)]) fun _ _ _ _ _ _ us hl => match us, hl with | [_, _], _ => rfl⟩
  have F7 := fun_mk (st := s_is_rule) l7 c7 k7
  have i_is_rule : Inst K mg ("is_rule" : Str) s_is_rule [("value" : Str)] := ⟨_, _, F7, PySem.W.mg_of X G a7, F7.binds (ps := [("value" : Str)]) fun _ _ _ _ _ _ us hl => match us, hl with | [_], _ => rfl⟩
  have F8 := fun_mk (st := s_part_text) l8 c8 k8
  have i_part_text : Inst K mg ("part_text" : Str) s_part_text [("part" : Str)] := ⟨_, _, F8, PySem.W.mg_of X G a8, F8.binds (ps := [("part" : Str)]) fun _ _ _ _ _ _ us hl => match us, hl with | [_], _ => rfl⟩
  have F9 := fun_mk (st := s_turning_text) l9 c9 k9
  have i_turning_text : Inst K mg ("turning_text" : Str) s_turning_text [("turning" : Str)] := ⟨_, _, F9, PySem.W.mg_of X G a9, F9.binds (ps := [("turning" : Str)]) fun _ _ _ _ _ _ us hl => match us, hl with | [_], _ => rfl⟩
  have j_turning_text : InstK K mg ("turning_text" : Str) s_turning_text ("turning" : Str) := ⟨_, _, F9, PySem.W.mg_of X G a9, F9.binds (ps := [("turning" : Str)]) fun _ _ _ _ _ _ us hl => match us, hl with | [_], _ => rfl, kb_one F9 fun _ _ _ _ _ _ _ => rfl⟩
  have F10 := fun_mk (st := s_letters_end) l10 c10 k10
  have i_letters_end : Inst K mg ("letters_end" : Str) s_letters_end [("text" : Str), ("at" : Str)] := ⟨_, _, F10, PySem.W.mg_of X G a10, F10.binds (ps := [("text" : Str), ("at" : Str)]) fun _ _ _ _ _ _ us hl => match us, hl with | [_, _], _ => rfl⟩
  have F11 := fun_mk (st := s_inner_parts) l11 c11 k11
  have i_inner_parts : Inst K mg ("inner_parts" : Str) s_inner_parts [("text" : Str), ("at" : Str)] := ⟨_, _, F11, PySem.W.mg_of X G a11, F11.binds (ps := [("text" : Str), ("at" : Str)]) fun _ _ _ _ _ _ us hl => match us, hl with | [_, _], _ => rfl⟩
  have F12 := fun_mk (st := s_part_at) l12 c12 k12
  have i_part_at : Inst K mg ("part_at" : Str) s_part_at [("text" : Str), ("at" : Str)] := ⟨_, _, F12, PySem.W.mg_of X G a12, F12.binds (ps := [("text" : Str), ("at" : Str)]) fun _ _ _ _ _ _ us hl => match us, hl with | [_, _], _ => rfl⟩
  have F13 := fun_mk (st := s_parts_in) l13 c13 k13
  have i_parts_in : Inst K mg ("parts_in" : Str) s_parts_in [("words" : Str)] := ⟨_, _, F13, PySem.W.mg_of X G a13, F13.binds (ps := [("words" : Str)]) fun _ _ _ _ _ _ us hl => match us, hl with | [_], _ => rfl⟩
  have F14 := fun_mk (st := s_read_rule) l14 c14 k14
  have i_read_rule : Inst K mg ("read_rule" : Str) s_read_rule [("piece" : Str)] := ⟨_, _, F14, PySem.W.mg_of X G a14, F14.binds (ps := [("piece" : Str)]) fun _ _ _ _ _ _ us hl => match us, hl with | [_], _ => rfl⟩
  have F15 := fun_mk (st := s_read_turning) l15 c15 k15
  have i_read_turning : Inst K mg ("read_turning" : Str) s_read_turning [("text" : Str)] := ⟨_, _, F15, PySem.W.mg_of X G a15, F15.binds (ps := [("text" : Str)]) fun _ _ _ _ _ _ us hl => match us, hl with | [_], _ => rfl⟩
  have j_read_turning : InstK K mg ("read_turning" : Str) s_read_turning ("text" : Str) := ⟨_, _, F15, PySem.W.mg_of X G a15, F15.binds (ps := [("text" : Str)]) fun _ _ _ _ _ _ us hl => match us, hl with | [_], _ => rfl, kb_one F15 fun _ _ _ _ _ _ _ => rfl⟩
  have F16 := fun_mk (st := s__law_deal) l16 c16 k16
  have i__law_deal : Inst K mg ("_law_deal" : Str) s__law_deal [("script" : Str), ("base" : Str)] := ⟨_, _, F16, PySem.W.mg_of X G a16, F16.binds (ps := [("script" : Str), ("base" : Str)]) fun _ _ _ _ _ _ us hl => match us, hl with | [_, _], _ => rfl⟩
  have F17 := fun_mk (st := s__law_any) l17 c17 k17
  have i__law_any : Inst K mg ("_law_any" : Str) s__law_any [("deal" : Str), ("bound" : Str)] := ⟨_, _, F17, PySem.W.mg_of X G a17, F17.binds (ps := [("deal" : Str), ("bound" : Str)]) fun _ _ _ _ _ _ us hl => match us, hl with | [_, _], _ => rfl⟩
  have F18 := fun_mk (st := s__law_of) l18 c18 k18
  have i__law_of : Inst K mg ("_law_of" : Str) s__law_of [("deal" : Str), ("some" : Str)] := ⟨_, _, F18, PySem.W.mg_of X G a18, F18.binds (ps := [("deal" : Str), ("some" : Str)]) fun _ _ _ _ _ _ us hl => match us, hl with | [_, _], _ => rfl⟩
  have F19 := fun_mk (st := s__law_names) l19 c19 k19
  have i__law_names : Inst K mg ("_law_names" : Str) s__law_names [("deal" : Str)] := ⟨_, _, F19, PySem.W.mg_of X G a19, F19.binds (ps := [("deal" : Str)]) fun _ _ _ _ _ _ us hl => match us, hl with | [_], _ => rfl⟩
  have F20 := fun_mk (st := s__law_parts) l20 c20 k20
  have i__law_parts : Inst K mg ("_law_parts" : Str) s__law_parts [("deal" : Str), ("modes" : Str), ("names" : Str), ("letter" : Str), ("deep" : Str), ("room" : Str)] := ⟨_, _, F20, PySem.W.mg_of X G a20, F20.binds (ps := [("deal" : Str), ("modes" : Str), ("names" : Str), ("letter" : Str), ("deep" : Str), ("room" : Str)]) fun _ _ _ _ _ _ us hl => match us, hl with | [_, _, _, _, _, _], _ => rfl⟩
  have F21 := fun_mk (st := s__law_turning) l21 c21 k21
  have i__law_turning : Inst K mg ("_law_turning" : Str) s__law_turning [("deal" : Str), ("names" : Str), ("most" : Str), ("goes" : Str), ("deep" : Str)] := ⟨_, _, F21, PySem.W.mg_of X G a21, F21.binds (ps := [("deal" : Str), ("names" : Str), ("most" : Str), ("goes" : Str), ("deep" : Str)]) fun _ _ _ _ _ _ us hl => match us, hl with | [_, _, _, _, _], _ => rfl⟩
  have F22 := fun_mk (st := s__law_words) l22 c22 k22
  have i__law_words : Inst K mg ("_law_words" : Str) s__law_words [("parts" : Str)] := ⟨_, _, F22, PySem.W.mg_of X G a22, F22.binds (ps := [("parts" : Str)]) fun _ _ _ _ _ _ us hl => match us, hl with | [_], _ => rfl⟩
  have F23 := fun_mk (st := s__law_pieces) l23 c23 k23
  have i__law_pieces : Inst K mg ("_law_pieces" : Str) s__law_pieces [("rules" : Str), ("mode" : Str)] := ⟨_, _, F23, PySem.W.mg_of X G a23, F23.binds (ps := [("rules" : Str), ("mode" : Str)]) fun _ _ _ _ _ _ us hl => match us, hl with | [_, _], _ => rfl⟩
  have F24 := fun_mk (st := s__law_told) l24 c24 k24
  have i__law_told : Inst K mg ("_law_told" : Str) s__law_told [("text" : Str)] := ⟨_, _, F24, PySem.W.mg_of X G a24, F24.binds (ps := [("text" : Str)]) fun _ _ _ _ _ _ us hl => match us, hl with | [_], _ => rfl⟩
  have F25 := fun_mk (st := s__law_refused) l25 c25 k25
  have i__law_refused : Inst K mg ("_law_refused" : Str) s__law_refused [("deal" : Str), ("pieces" : Str), ("rules" : Str)] := ⟨_, _, F25, PySem.W.mg_of X G a25, F25.binds (ps := [("deal" : Str), ("pieces" : Str), ("rules" : Str)]) fun _ _ _ _ _ _ us hl => match us, hl with | [_, _, _], _ => rfl⟩
  have F26 := fun_mk (st := s_law) l26 c26 k26
  have mT := PySem.W.mg_of X G tA
  have mX := PySem.W.mg_of X G xA
  have hCls : Cls K cT := ⟨tpg, thd, tpo, tsa⟩
  have hIns : InsTy K cT := ⟨hCls, tha, thn, tht, thm⟩
  have tb_str : ∀ t b, tab_str t = some b → TabOk K mg (.type "str") t b := tab_ok (List.forall_mem_cons.mpr ⟨kit_ty (by decide +kernel), List.forall_mem_cons.mpr ⟨kit_ty (by decide +kernel), List.forall_mem_cons.mpr ⟨kit_ty (by decide +kernel), List.forall_mem_cons.mpr ⟨kit_ty (by decide +kernel), List.forall_mem_cons.mpr ⟨kit_ty (by decide +kernel), List.forall_mem_cons.mpr ⟨kit_ty (by decide +kernel), fun _ z => by cases z⟩⟩⟩⟩⟩⟩)
    (List.forall_mem_cons.mpr ⟨fun C hC => by rw [mT] at hC; cases hC; exact ⟨hIns, kit_blt (by decide +kernel) q_str_o⟩, fun _ z => by cases z⟩)
  have tb_tuple : ∀ t b, tab_tuple t = some b → TabOk K mg (.type "tuple") t b := tab_ok (List.forall_mem_cons.mpr ⟨kit_ty (by decide +kernel), List.forall_mem_cons.mpr ⟨kit_ty (by decide +kernel), List.forall_mem_cons.mpr ⟨kit_ty (by decide +kernel), List.forall_mem_cons.mpr ⟨kit_ty (by decide +kernel), List.forall_mem_cons.mpr ⟨kit_ty (by decide +kernel), List.forall_mem_cons.mpr ⟨kit_ty (by decide +kernel), fun _ z => by cases z⟩⟩⟩⟩⟩⟩)
    (List.forall_mem_cons.mpr ⟨fun C hC => by rw [mT] at hC; cases hC; exact ⟨hIns, kit_blt (by decide +kernel) q_tuple_o⟩, fun _ z => by cases z⟩)
  have tb_Turning : ∀ t b, tab_Turning t = some b → TabOk K mg (.ref cT) t b := tab_ok (List.forall_mem_cons.mpr ⟨kit_own tic tty q_NoneType fun _ => rfl, List.forall_mem_cons.mpr ⟨kit_own tic tty q_bool fun _ => rfl, List.forall_mem_cons.mpr ⟨kit_own tic tty q_int fun _ => rfl, List.forall_mem_cons.mpr ⟨kit_own tic tty q_str fun _ => rfl, List.forall_mem_cons.mpr ⟨kit_own tic tty q_list fun _ => rfl, List.forall_mem_cons.mpr ⟨kit_own tic tty q_tuple fun _ => rfl, fun _ z => by cases z⟩⟩⟩⟩⟩⟩)
    (List.forall_mem_cons.mpr ⟨fun C hC => by rw [mT] at hC; cases hC; exact ⟨hIns, kit_own tic tty tss fun z => by cases z⟩, fun _ z => by cases z⟩)
  have FX : Fx prg K mg := {
    b_len := PySem.W.mg_none_of X G z_len
    n_LONGEST_NAME := ⟨_, PySem.W.mg_of X G z_LONGEST_NAME⟩
    b_isinstance := PySem.W.mg_none_of X G z_isinstance
    t_str := tb_str
    b_str := PySem.W.mg_none_of X G z_str
    s_LETTERS := ⟨_, PySem.W.mg_of X G z_LETTERS⟩
    b_all := PySem.W.mg_none_of X G z_all
    n_LONGEST_TEXT := ⟨_, PySem.W.mg_of X G z_LONGEST_TEXT⟩
    s_SIGNS := ⟨_, PySem.W.mg_of X G z_SIGNS⟩
    t_tuple := tb_tuple
    b_tuple := PySem.W.mg_none_of X G z_tuple
    c_Turning := ⟨cT, mT, hCls, tn1, tn2, tb_Turning⟩
    b_super := PySem.W.mg_none_of X G z_super
    x_InvalidText := ⟨cX, mX, PySem.W.exm_ref xeB xhd xty xss⟩
    b_range := PySem.W.mg_none_of X G z_range
    b_int := PySem.W.mg_none_of X G z_int
    b_abs := PySem.W.mg_none_of X G z_abs
    b_repr := PySem.W.mg_none_of X G z_repr
    told := ⟨cX, cF, cV, mX, PySem.W.mg_of X G xF, PySem.W.mg_of X G xV, ⟨xga, xgg, xeB, xhd⟩, xat, ⟨xga, xgg, xeB, xhd, xcl, thn, tht, xmo⟩, kit_own xic xtF xk1 (fun z => by cases z), kit_own xiV xtV xk2 (fun _ => xnV)⟩ }
  have r_InvalidText : RaiseOk prg K mg "InvalidText" := ⟨cX, fI, _, _, { cls := ⟨nm, q, N, bs, bm, sn, sub, ab, col, dd, m0, m1, m2, m3, m5, xL, xO⟩, sa := xsa, exC := xeB, exE := xeE, tyC := xty, kC := xk, ini := xi, tI := xti, fn := ⟨_, _, _, _, _, _, _, _, _, _, _, _, _, xl, xc, ⟨_, _, _, _, _, _, xco, xv, xfi⟩, ⟨_, _, _, xcc⟩, rfl, fun _ _ _ => .of_eq rfl⟩, sup := sup_of xcX xcF xmm xsF, any := xan, sub := xmr, at_ := xat, top := by decide +kernel }, sup_body, mX⟩
  have FI := fun_mk (st := s_Turning_init) tl_init tc_init tk_init
  have FE := fun_mk (st := s_Turning___eq__) tl_eq tc_eq tk_eq
  refine ⟨PySem.W.fnOf "law" "law" (defArgs s_law) (defBody s_law) (defScope s_law) .none kV26 dc26 pm26 an26 cd26 ct26, fun s v => .of_eq rfl, fun base _ _ => ?_⟩
  have mk_Turning : MakeOk prg w K mg base 1 "Turning" ["self", "rules", "mode"] ["rules", "mode"] := ⟨cT, f_init, _, ⟨tmk, ta_init, tf_init, tkp⟩, init_two FI ⟨rfl, rfl, rfl, by decide +kernel, rfl, by decide +kernel, by decide +kernel⟩ rfl hCls tn1 tn2 (by decide) vis_init, mT, FI.binds (ps := ["self", "rules", "mode"]) fun _ _ _ _ _ _ us hl => match us, hl with | [_, _, _], _ => rfl⟩
  have eq_Turning : EqOk prg w K mg base 1 "Turning" ["self", "other"] F_Turning___eq__ := ⟨cT, f_eq, _, fn_d FE sc_Turning___eq__ (b_Turning___eq__ FX), mT, ta_eq, tf_eq, FE.binds (ps := ["self", "other"]) fun _ _ _ _ _ _ us hl => match us, hl with | [_, _], _ => rfl⟩
  have d_is_name := @a_is_name prg w K mg base FX i_is_name 
  have d_is_text := @a_is_text prg w K mg base FX i_is_text 
  have d_is_tuple_of := @a_is_tuple_of prg w K mg base FX i_is_tuple_of 
  have d_is_letter := @a_is_letter prg w K mg base FX i_is_letter d_is_name
  have d_is_small := @a_is_small prg w K mg base FX i_is_small 
  have d_is_piece := @a_is_piece prg w K mg base FX i_is_piece i_are_pieces d_is_name d_is_text
  have d_are_pieces := @a_are_pieces prg w K mg base FX i_is_piece i_are_pieces d_is_name d_is_text
  have d_is_rule := @a_is_rule prg w K mg base FX i_is_rule d_is_letter d_is_name d_is_tuple_of d_are_pieces
  have d_part_text := @a_part_text prg w K mg base FX i_part_text 
  have d_turning_text := @a_turning_text prg w K mg base FX i_turning_text d_part_text
  have k_turning_text := @ak_turning_text prg w K mg base FX j_turning_text d_part_text
  have d_letters_end := @a_letters_end prg w K mg base FX i_letters_end d_is_small
  have d_inner_parts := @a_inner_parts prg w K mg base FX i_inner_parts i_part_at r_InvalidText d_letters_end
  have d_part_at := @a_part_at prg w K mg base FX i_inner_parts i_part_at r_InvalidText d_letters_end
  have d_parts_in := @a_parts_in prg w K mg base FX i_parts_in d_inner_parts
  have d_read_rule := @a_read_rule prg w K mg base FX i_read_rule d_parts_in d_is_rule
  have d_read_turning := @a_read_turning prg w K mg base FX i_read_turning d_is_name d_read_rule mk_Turning r_InvalidText
  have k_read_turning := @ak_read_turning prg w K mg base FX j_read_turning d_is_name d_read_rule mk_Turning r_InvalidText
  have d__law_deal := @a__law_deal prg w K mg base FX i__law_deal 
  have d__law_any := @a__law_any prg w K mg base FX i__law_any 
  have d__law_of := @a__law_of prg w K mg base FX i__law_of d__law_any
  have d__law_names := @a__law_names prg w K mg base FX i__law_names d__law_of
  have d__law_parts := @a__law_parts prg w K mg base FX i__law_parts d__law_any d__law_of
  have d__law_turning := @a__law_turning prg w K mg base FX i__law_turning d__law_of d__law_any d__law_parts
  have d__law_words := @a__law_words prg w K mg base FX i__law_words 
  have d__law_pieces := @a__law_pieces prg w K mg base FX i__law_pieces d__law_words
  have d__law_told := @a__law_told prg w K mg base FX i__law_told k_read_turning
  have d__law_refused := @a__law_refused prg w K mg base FX i__law_refused d__law_any d__law_of d__law_told
  exact fn_d F26 sc_law (b_law FX d__law_deal d__law_names d__law_turning d__law_pieces d__law_told d__law_refused d_turning_text k_turning_text mk_Turning eq_Turning)
theorem walk {l : PySem.W.OpenLaw} {q : Program} {loose : List Str} {XP : (Str → Option Value) → Heap → Prop} {YP : World → Heap → Prop} {d : DefRec} {K : Params → PySem.W.Frag} (hn : l.most = some 63) (hdf : d.params.defaults = [])
    (hY : ∀ (w : World) (h : Heap), YP w h → (K w.params).In h)
    (F : ∀ (w : World) (mg : Str → Option Value) (fa : Addr) (h : Heap), (K w.params).In h → h.Ns mainGlobals mg → mg d.name = some (.ref fa) →
      ∃ fd : FuncData, (∀ (s : Shared) (u : Value), BindsTo s fd ⟨[u], []⟩ [("script", u)]) ∧ ∀ base : Heap, (K w.params).In base → base.Ns mainGlobals mg → FnD l.prog w (K w.params) mg base 20 fa fd ["script"] F_law)
    (hG : ∀ ns : List Int, ns.length ≤ 63 → ∃ st, F_law [.scr (ns.map D.int)] [] = .ok (.d (.bl true)) st) :
    PySem.W.WalkO q loose XP YP l.row.toRowW d [] (fun f vs => PySem.call f vs) :=
  law_d (n := 63) (k := 20) (x := "script") (G := F_law) hn (by decide) hdf ⟨rfl, by decide, by decide⟩ hY F hG
end K50
open PySem PySem.W PyProof.Rows
set_option maxRecDepth 100000 in
set_option maxHeartbeats 0 in
theorem PySem.Challenge.cw_turnsfit_k50_whole_texts_of_turnings_the_holds : PySem.Challenge.rw_turnsfit_k50_whole_texts_of_turnings_the.Holds := by
  w_on; o_law; k_head; (case hw => w_witness2)
  k_fill
  refine K50.walk (l := PySem.Challenge.rw_turnsfit_k50_whole_texts_of_turnings_the) rfl rfl (fun w h Y => PySem.W.kIn_of Y) ?F K50.plain
  case F =>
    intro w mg fa h KX G hmg
    refine' K50.all_mk KX G hmg ?a0 ?l0 ?c0 ?k0 ?a1 ?l1 ?c1 ?k1 ?a2 ?l2 ?c2 ?k2 ?a3 ?l3 ?c3 ?k3 ?a4 ?l4 ?c4 ?k4 ?a5 ?l5 ?c5 ?k5 ?a6 ?l6 ?c6 ?k6 ?a7 ?l7 ?c7 ?k7 ?a8 ?l8 ?c8 ?k8 ?a9 ?l9 ?c9 ?k9 ?a10 ?l10 ?c10 ?k10 ?a11 ?l11 ?c11 ?k11 ?a12 ?l12 ?c12 ?k12 ?a13 ?l13 ?c13 ?k13 ?a14 ?l14 ?c14 ?k14 ?a15 ?l15 ?c15 ?k15 ?a16 ?l16 ?c16 ?k16 ?a17 ?l17 ?c17 ?k17 ?a18 ?l18 ?c18 ?k18 ?a19 ?l19 ?c19 ?k19 ?a20 ?l20 ?c20 ?k20 ?a21 ?l21 ?c21 ?k21 ?a22 ?l22 ?c22 ?k22 ?a23 ?l23 ?c23 ?k23 ?a24 ?l24 ?c24 ?k24 ?a25 ?l25 ?c25 ?k25 ?a26 ?l26 ?c26 ?k26 ?z_len ?z_LONGEST_NAME ?z_isinstance ?z_str ?z_LETTERS ?z_all ?z_LONGEST_TEXT ?z_SIGNS ?z_tuple ?z_super ?z_range ?z_int ?z_abs ?z_repr ?tA ?tmk ?tkp ?ta_init ?tf_init ?tl_init ?tc_init ?tk_init ?ta_eq ?tf_eq ?tl_eq ?tc_eq ?tk_eq ?tpg ?thd ?tpo ?tsa ?tn1 ?tn2 ?tha ?thn ?tht ?thm ?q_str_o ?q_tuple_o ?q_NoneType ?q_bool ?q_int ?q_str ?q_list ?q_tuple ?tss ?tic ?tty ?xF ?xV ?xA ?xL ?xO ?xsa ?xeB ?xeE ?xty ?xk ?xi ?xti ?xl ?xc ?xco ?xv ?xfi ?xcc ?xcX ?xcF ?xmm ?xsF ?xan ?xmr ?xat ?xga ?xgg ?xhd ?xcl ?xmo ?xss ?xk1 ?xic ?xtF ?xk2 ?xiV ?xtV ?xnV
    (case a0 => k_is)
    (case l0 => k_is)
    (case c0 => k_is)
    (case k0 => k_is)
    (case a1 => k_is)
    (case l1 => k_is)
    (case c1 => k_is)
    (case k1 => k_is)
    (case a2 => k_is)
    (case l2 => k_is)
    (case c2 => k_is)
    (case k2 => k_is)
    (case a3 => k_is)
    (case l3 => k_is)
    (case c3 => k_is)
    (case k3 => k_is)
    (case a4 => k_is)
    (case l4 => k_is)
    (case c4 => k_is)
    (case k4 => k_is)
    (case a5 => k_is)
    (case l5 => k_is)
    (case c5 => k_is)
    (case k5 => k_is)
    (case a6 => k_is)
    (case l6 => k_is)
    (case c6 => k_is)
    (case k6 => k_is)
    (case a7 => k_is)
    (case l7 => k_is)
    (case c7 => k_is)
    (case k7 => k_is)
    (case a8 => k_is)
    (case l8 => k_is)
    (case c8 => k_is)
    (case k8 => k_is)
    (case a9 => k_is)
    (case l9 => k_is)
    (case c9 => k_is)
    (case k9 => k_is)
    (case a10 => k_is)
    (case l10 => k_is)
    (case c10 => k_is)
    (case k10 => k_is)
    (case a11 => k_is)
    (case l11 => k_is)
    (case c11 => k_is)
    (case k11 => k_is)
    (case a12 => k_is)
    (case l12 => k_is)
    (case c12 => k_is)
    (case k12 => k_is)
    (case a13 => k_is)
    (case l13 => k_is)
    (case c13 => k_is)
    (case k13 => k_is)
    (case a14 => k_is)
    (case l14 => k_is)
    (case c14 => k_is)
    (case k14 => k_is)
    (case a15 => k_is)
    (case l15 => k_is)
    (case c15 => k_is)
    (case k15 => k_is)
    (case a16 => k_is)
    (case l16 => k_is)
    (case c16 => k_is)
    (case k16 => k_is)
    (case a17 => k_is)
    (case l17 => k_is)
    (case c17 => k_is)
    (case k17 => k_is)
    (case a18 => k_is)
    (case l18 => k_is)
    (case c18 => k_is)
    (case k18 => k_is)
    (case a19 => k_is)
    (case l19 => k_is)
    (case c19 => k_is)
    (case k19 => k_is)
    (case a20 => k_is)
    (case l20 => k_is)
    (case c20 => k_is)
    (case k20 => k_is)
    (case a21 => k_is)
    (case l21 => k_is)
    (case c21 => k_is)
    (case k21 => k_is)
    (case a22 => k_is)
    (case l22 => k_is)
    (case c22 => k_is)
    (case k22 => k_is)
    (case a23 => k_is)
    (case l23 => k_is)
    (case c23 => k_is)
    (case k23 => k_is)
    (case a24 => k_is)
    (case l24 => k_is)
    (case c24 => k_is)
    (case k24 => k_is)
    (case a25 => k_is)
    (case l25 => k_is)
    (case c25 => k_is)
    (case k25 => k_is)
    (case a26 => k_is)
    (case l26 => k_is)
    (case c26 => k_is)
    (case k26 => k_is)
    (case z_len => k_is)
    (case z_LONGEST_NAME => k_is)
    (case z_isinstance => k_is)
    (case z_str => k_is)
    (case z_LETTERS => k_is)
    (case z_all => k_is)
    (case z_LONGEST_TEXT => k_is)
    (case z_SIGNS => k_is)
    (case z_tuple => k_is)
    (case z_super => k_is)
    (case z_range => k_is)
    (case z_int => k_is)
    (case z_abs => k_is)
    (case z_repr => k_is)
    (case tA => k_is)
    (case tmk => k_is)
    (case tkp => k_is)
    (case ta_init => k_is)
    (case tf_init => k_is)
    (case tl_init => k_is)
    (case tc_init => k_is)
    (case tk_init => k_is)
    (case ta_eq => k_is)
    (case tf_eq => k_is)
    (case tl_eq => k_is)
    (case tc_eq => k_is)
    (case tk_eq => k_is)
    (case tpg => k_is)
    (case thd => k_is)
    (case tpo => k_is)
    (case tsa => k_is)
    (case tn1 => k_is)
    (case tn2 => k_is)
    (case tha => k_is)
    (case thn => k_is)
    (case tht => k_is)
    (case thm => k_is)
    (case q_str_o => k_is)
    (case q_tuple_o => k_is)
    (case q_NoneType => k_is)
    (case q_bool => k_is)
    (case q_int => k_is)
    (case q_str => k_is)
    (case q_list => k_is)
    (case q_tuple => k_is)
    (case tss => k_is)
    (case tic => k_is)
    (case tty => k_is)
    (case xF => k_is)
    (case xV => k_is)
    (case xA => k_is)
    (case xL => k_is)
    (case xO => first | rfl | decide +kernel | k_is)
    (case xsa => k_is)
    (case xeB => k_is)
    (case xeE => k_is)
    (case xty => k_is)
    (case xk => k_is)
    (case xi => k_is)
    (case xti => k_is)
    (case xl => k_is)
    (case xc => k_is)
    (case xco => k_is)
    (case xv => first | rfl | decide +kernel | k_is)
    (case xfi => first | rfl | decide +kernel | k_is)
    (case xcc => k_is)
    (case xcX => k_is)
    (case xcF => k_is)
    (case xmm => first | rfl | decide +kernel | k_is)
    (case xsF => k_is)
    (case xan => k_is)
    (case xmr => k_is)
    (case xat => k_is)
    (case xga => k_is)
    (case xgg => k_is)
    (case xhd => k_is)
    (case xcl => k_is)
    (case xmo => k_is)
    (case xss => first | k_is | rfl)
    (case xk1 => k_is)
    (case xic => k_is)
    (case xtF => k_is)
    (case xk2 => k_is)
    (case xiV => k_is)
    (case xtV => k_is)
    (case xnV => first | rfl | decide +kernel | k_is)
end
