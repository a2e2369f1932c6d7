import PyProof.Rows.All
import Wide.All
import OpenK.AllK
import Wide.FinOn
import HandS.ForMost
import HandS.Exc
import HandS.ExcOwn
import HandS.Wide
import HandS.Gcd
import HandS.Defaults
import HandS.IsInst
import HandS.Zip
import HandS.Style
import HandS.Head3
import HandS.HeadEnd
import HandS.HeadHook4
import PySem.Challenge.RW_truecourse_k34_whole_roots_and_quotients
set_option Elab.async false
set_option linter.all false
set_option maxRecDepth 100000
set_option maxHeartbeats 0
/-! Pd: each def of a program gets a mirror, a function over plain data, by rules; what the heap does is shown once, here. -/
namespace Pd
open PySem PySem.Spec PyProof.Rows L2

/-! ### data -/
inductive Dt where
  | non | bl (b : Bool) | int (i : Int) | str (s : Str) | lst (l : List Dt) | tup (l : List Dt) | raw (v : V)

mutual
def Rep (K : PySem.W.Frag) (H : Hp) : Dt → V → Prop
  | .non, v => v = .non
  | .bl b, v => v = .bl b
  | .int i, v => v = .int i
  | .str s, v => v = .str s
  | .lst l, v => ∃ a xs, v = .ref a ∧ SqL K H a xs ∧ Reps K H l xs
  | .tup l, v => ∃ a xs, v = .ref a ∧ SqT K H a xs ∧ Reps K H l xs
  | .raw u, v => v = u
def Reps (K : PySem.W.Frag) (H : Hp) : List Dt → List V → Prop
  | [], xs => xs = []
  | d :: ds, xs => ∃ x r, xs = x :: r ∧ Rep K H d x ∧ Reps K H ds r
end

theorem sqt_mono {K : PySem.W.Frag} {H H' : Hp} {a : Addr} {xs : List V} (s : Same H H') (h : SqT K H a xs) : SqT K H' a xs := by
  rcases h with (h | ⟨o, h⟩) | h
  · exact Or.inl (Or.inl (s _ _ h))
  · exact Or.inl (Or.inr ⟨o, s _ _ h⟩)
  · exact Or.inr h

mutual
theorem Rep.mono {K : PySem.W.Frag} {H H' : Hp} (s : Same H H') : ∀ (d : Dt) {v : V}, Rep K H d v → Rep K H' d v
  | .non, _, h => h
  | .bl _, _, h => h
  | .int _, _, h => h
  | .str _, _, h => h
  | .lst l, _, h => by
    obtain ⟨a, xs, e, q, r⟩ := h
    exact ⟨a, xs, e, s.seq q, Reps.mono s l r⟩
  | .tup l, _, h => by
    obtain ⟨a, xs, e, q, r⟩ := h
    exact ⟨a, xs, e, sqt_mono s q, Reps.mono s l r⟩
  | .raw _, _, h => h
theorem Reps.mono {K : PySem.W.Frag} {H H' : Hp} (s : Same H H') : ∀ (l : List Dt) {xs : List V}, Reps K H l xs → Reps K H' l xs
  | [], _, h => h
  | d :: ds, _, h => by
    obtain ⟨x, r, e, h1, h2⟩ := h
    exact ⟨x, r, e, Rep.mono s d h1, Reps.mono s ds h2⟩
end

section
variable {K : PySem.W.Frag} {H : Hp}
theorem Reps.length : ∀ {l : List Dt} {xs : List V}, Reps K H l xs → l.length = xs.length
  | [], _, h => by rw [show _ = _ from h]; rfl
  | d :: ds, _, h => by
    obtain ⟨x, r, rfl, _, h2⟩ := h
    rw [List.length_cons, List.length_cons, Reps.length h2]
theorem Reps.nil : Reps K H [] [] := rfl
theorem Reps.cons {d : Dt} {ds : List Dt} {x : V} {xs : List V} (h : Rep K H d x) (t : Reps K H ds xs) : Reps K H (d :: ds) (x :: xs) := ⟨x, xs, rfl, h, t⟩
theorem Reps.get : ∀ {l : List Dt} {xs : List V} {i : Nat} {d : Dt}, Reps K H l xs → l[i]? = some d → ∃ x, xs[i]? = some x ∧ Rep K H d x
  | [], _, _, _, _, e => by simp at e
  | d :: ds, _, 0, _, h, e => by
    obtain ⟨x, r, rfl, h1, _⟩ := h
    simp at e
    subst e
    exact ⟨x, rfl, h1⟩
  | d :: ds, _, i + 1, _, h, e => by
    obtain ⟨x, r, rfl, _, h2⟩ := h
    obtain ⟨y, e1, e2⟩ := Reps.get h2 (by simpa using e)
    exact ⟨y, by simpa using e1, e2⟩
theorem Reps.getR : ∀ {l : List Dt} {xs : List V} {i : Nat} {x : V}, Reps K H l xs → xs[i]? = some x → ∃ d, l[i]? = some d ∧ Rep K H d x
  | [], _, _, _, h, e => by rw [show _ = _ from h] at e; simp at e
  | d :: ds, _, 0, _, h, e => by
    obtain ⟨y, r, rfl, h1, _⟩ := h
    simp at e
    subst e
    exact ⟨d, rfl, h1⟩
  | d :: ds, _, i + 1, _, h, e => by
    obtain ⟨y, r, rfl, _, h2⟩ := h
    obtain ⟨z, e1, e2⟩ := Reps.getR h2 (by simpa using e)
    exact ⟨z, by simpa using e1, e2⟩
theorem Reps.append : ∀ {l m : List Dt} {xs ys : List V}, Reps K H l xs → Reps K H m ys → Reps K H (l ++ m) (xs ++ ys)
  | [], _, _, _, h, g => by rw [show _ = _ from h]; exact g
  | d :: ds, _, _, _, h, g => by
    obtain ⟨x, r, rfl, h1, h2⟩ := h
    exact Reps.cons h1 (Reps.append h2 g)
theorem Reps.drop : ∀ {l : List Dt} {xs : List V} (n : Nat), Reps K H l xs → Reps K H (l.drop n) (xs.drop n)
  | _, _, 0, h => h
  | [], _, n + 1, h => by rw [show _ = _ from h]; exact rfl
  | d :: ds, _, n + 1, h => by
    obtain ⟨x, r, rfl, _, h2⟩ := h
    exact Reps.drop n h2
theorem Reps.take : ∀ {l : List Dt} {xs : List V} (n : Nat), Reps K H l xs → Reps K H (l.take n) (xs.take n)
  | _, _, 0, h => by simpa using (Reps.nil : Reps K H [] [])
  | [], _, n + 1, h => by rw [show _ = _ from h]; exact rfl
  | d :: ds, _, n + 1, h => by
    obtain ⟨x, r, rfl, h1, h2⟩ := h
    exact Reps.cons h1 (Reps.take n h2)
theorem Reps.set {d : Dt} {x : V} (q : Rep K H d x) : ∀ {l : List Dt} {xs : List V} (n : Nat), Reps K H l xs → Reps K H (l.set n d) (xs.set n x)
  | [], _, n, h => by rw [show _ = _ from h]; exact rfl
  | e :: ds, _, 0, h => by
    obtain ⟨y, r, rfl, _, h2⟩ := h
    exact Reps.cons q h2
  | e :: ds, _, n + 1, h => by
    obtain ⟨y, r, rfl, h1, h2⟩ := h
    exact Reps.cons h1 (Reps.set q n h2)
theorem Reps.ints : ∀ {l : List Int} {xs : List V}, Reps K H (l.map Dt.int) xs → xs = l.map V.int
  | [], _, h => h
  | i :: r, _, h => by
    obtain ⟨x, s, rfl, h1, h2⟩ := h
    rw [show x = _ from h1, Reps.ints h2, List.map_cons]
theorem Reps.of_ints : ∀ (l : List Int), Reps K H (l.map Dt.int) (l.map V.int)
  | [] => rfl
  | i :: r => Reps.cons rfl (Reps.of_ints r)
theorem Reps.bools : ∀ {l : List Bool} {xs : List V}, Reps K H (l.map Dt.bl) xs → xs = l.map V.bl
  | [], _, h => h
  | i :: r, _, h => by
    obtain ⟨x, s, rfl, h1, h2⟩ := h
    rw [show x = _ from h1, Reps.bools h2, List.map_cons]
end

/-! ### as the model's own data: for ==, repr -/
mutual
def toP : Dt → Option PyData
  | .non => some .none
  | .bl b => some (.bool b)
  | .int i => some (.int i)
  | .str s => some (.str s)
  | .lst l => (toPs l).map PyData.list
  | .tup l => (toPs l).map PyData.tuple
  | .raw _ => none
def toPs : List Dt → Option (List PyData)
  | [] => some []
  | d :: ds => match toP d, toPs ds with
    | some p, some ps => some (p :: ps)
    | _, _ => none
end
mutual
theorem Rep.dp {K : PySem.W.Frag} {H : Hp} : ∀ (d : Dt) {v : V} {p : PyData}, Rep K H d v → toP d = some p → Dp K H v p
  | .non, _, _, h, e => by rw [show _ = _ from h]; cases e; exact .non
  | .bl b, _, _, h, e => by rw [show _ = _ from h]; cases e; exact .bl b
  | .int i, _, _, h, e => by rw [show _ = _ from h]; cases e; exact .int i
  | .str s, _, _, h, e => by rw [show _ = _ from h]; cases e; exact .str s
  | .lst l, _, _, h, e => by
    obtain ⟨a, xs, rfl, q, r⟩ := h
    obtain ⟨ps, e1, rfl⟩ := Option.map_eq_some_iff.mp (show (toPs l).map PyData.list = _ from e)
    exact .lst q (Reps.dp l r e1)
  | .tup l, _, _, h, e => by
    obtain ⟨a, xs, rfl, q, r⟩ := h
    obtain ⟨ps, e1, rfl⟩ := Option.map_eq_some_iff.mp (show (toPs l).map PyData.tuple = _ from e)
    exact .tup q (Reps.dp l r e1)
  | .raw _, _, _, _, e => by cases e
theorem Reps.dp {K : PySem.W.Frag} {H : Hp} : ∀ (l : List Dt) {xs : List V} {ps : List PyData}, Reps K H l xs → toPs l = some ps → DpAll K H xs ps
  | [], _, _, h, e => by rw [show _ = _ from h]; cases e; exact .nil
  | d :: ds, _, _, h, e => by
    obtain ⟨x, r, rfl, h1, h2⟩ := h
    unfold toPs at e
    split at e
    · rename_i p ps e1 e2
      cases e
      exact .cons (Rep.dp d h1 e1) (Reps.dp ds h2 e2)
    · cases e
end

/-! ### results -/
/-- an exception: its class's name, what its own dict holds -/
structure Exn where
  cls : Str
  flds : List (Str × Dt)
/-- what a local name holds: data; a list of one's own, which may be changed; the pot -/
inductive Ent where
  | dat (d : Dt) | own (l : List Dt) | pot
abbrev DEnv := List (Option Ent)
/-- what the pot holds -/
abbrev Pot := Int × Int
inductive Res (α : Type) where
  | ok (a : α) (θ : Pot) | exn (e : Exn) (ρ : DEnv) (θ : Pot) | bad
abbrev M (α : Type) := DEnv → Pot → Res α
/-- what a def hands back: data; a fresh list -/
inductive Ret where
  | d (d : Dt) | o (l : List Dt)
inductive Out where
  | next (ρ : DEnv) | ret (r : Ret) | brk (ρ : DEnv) | cnt (ρ : DEnv)
def Post {α : Type} (r : Res α) (ok : α → Pot → Prop) (ex : Exn → DEnv → Pot → Prop) : Prop := match r with
  | .ok a θ => ok a θ
  | .exn e ρ θ => ex e ρ θ
  | .bad => False
theorem Post.imp {α : Type} {r : Res α} {ok ok' : α → Pot → Prop} {ex ex' : Exn → DEnv → Pot → Prop} (h : Post r ok ex) (h1 : ∀ a θ, ok a θ → ok' a θ) (h2 : ∀ e ρ θ, ex e ρ θ → ex' e ρ θ) : Post r ok' ex' := by
  cases r with
  | ok a θ => exact h1 a θ h
  | exn e ρ θ => exact h2 e ρ θ h
  | bad => exact h
def ret {α : Type} (a : α) : M α := fun _ θ => .ok a θ
def bad {α : Type} : M α := fun _ _ => .bad
def bnd {α β : Type} (m : M α) (f : α → M β) : M β := fun ρ θ => match m ρ θ with
  | .ok a θ' => f a ρ θ'
  | .exn e ρ' θ' => .exn e ρ' θ'
  | .bad => .bad
def opt {α : Type} : Option α → M α
  | some a => ret a
  | none => bad
theorem post_bnd {α β : Type} {m : M α} {f : α → M β} {ρ : DEnv} {θ : Pot} {ok : β → Pot → Prop} {ex : Exn → DEnv → Pot → Prop} (h : Post (bnd m f ρ θ) ok ex) : Post (m ρ θ) (fun a θ' => Post (f a ρ θ') ok ex) ex := by
  unfold bnd at h
  cases e : m ρ θ with
  | ok a θ' => rw [e] at h; exact h
  | exn x ρ' θ' => rw [e] at h; exact h
  | bad => rw [e] at h; exact h
theorem post_opt {α : Type} {o : Option α} {ρ : DEnv} {θ : Pot} {ok : α → Pot → Prop} {ex : Exn → DEnv → Pot → Prop} (h : Post (opt o ρ θ) ok ex) : ∃ a, o = some a ∧ ok a θ := by
  cases o with
  | none => exact h.elim
  | some a => exact ⟨a, rfl, h⟩

/-! ### the state of a frame -/
/-- fixed through a frame: where the pot stands, the heap and its shared part at the entry -/
structure Fr0 where
  ap : Option Addr
  H0 : Hp
  Hs0 : Hp
def PotAt (H : Hp) (ap : Option Addr) (θ : Pot) : Prop := ∀ p, ap = some p → H p = some (.lst [.int θ.1, .int θ.2])
structure StOk (K : PySem.W.Frag) (F : Fr0) (σ : L2.St) (H Hs : Hp) (ρ : DEnv) (θ : Pot) : Prop where
  sub : Same Hs H
  hap : ∀ p, F.ap = some p → Hs p = none
  pot : PotAt H F.ap θ
  old : ∀ b o, F.ap ≠ some b → F.H0 b = some o → H b = some o
  frs : ∀ b, F.H0 b ≠ none → Hs b = F.Hs0 b
  dat : ∀ (i : Nat) (d : Dt), ρ[i]? = some (some (.dat d)) → ∃ v, σ[i]? = some (some v) ∧ Rep K Hs d v
  own : ∀ (i : Nat) (l : List Dt), ρ[i]? = some (some (.own l)) → ∃ a xs, σ[i]? = some (some (.ref a)) ∧ H a = some (.lst xs) ∧ Reps K Hs l xs ∧ Hs a = none ∧ F.H0 a = none ∧ F.ap ≠ some a
  sep : ∀ (i j : Nat) (l m : List Dt) (a : Addr), ρ[i]? = some (some (.own l)) → ρ[j]? = some (some (.own m)) → σ[i]? = some (some (.ref a)) → σ[j]? = some (some (.ref a)) → i = j
  pt : ∀ (i : Nat), ρ[i]? = some (some .pot) → ∃ p, F.ap = some p ∧ σ[i]? = some (some (.ref p))
  len : ρ.length = σ.length
/-- new objects alone: (Hs, H) has become (Hs', H') -/
structure Grow (Hs H Hs' H' : Hp) : Prop where
  s : Same Hs Hs'
  h : Same H H'
  i : Same Hs' H'
  n : ∀ b, H b ≠ none → Hs' b = Hs b
theorem Grow.refl {Hs H : Hp} (s : Same Hs H) : Grow Hs H Hs H := ⟨.refl _, .refl _, s, fun _ _ => rfl⟩
theorem same_upd {H : Hp} {p : Addr} {o : HO} (n : H p = none) : Same H (upd H p o) := fun b u e => by
  rw [upd_ne (ne_of_none e n)]
  exact e
theorem Grow.new {Hs H : Hp} {p : Addr} {o : HO} (s : Same Hs H) (n : H p = none) : Grow Hs H (upd Hs p o) (upd H p o) := by
  have n' : Hs p = none := s.free n
  refine ⟨same_upd n', same_upd n, fun b u e => ?_, fun b hb => ?_⟩
  · by_cases z : b = p
    · subst z
      rw [upd_same] at e ⊢
      exact e
    · rw [upd_ne z] at e ⊢
      exact s _ _ e
  · have z : b ≠ p := fun z => hb (by rw [z]; exact n)
    rw [upd_ne z]
theorem Grow.trans {Hs H Hs1 H1 Hs2 H2 : Hp} (a : Grow Hs H Hs1 H1) (b : Grow Hs1 H1 Hs2 H2) : Grow Hs H Hs2 H2 :=
  ⟨a.s.trans b.s, a.h.trans b.h, b.i, fun c hc => (b.n c (fun z => hc (a.h.free z))).trans (a.n c hc)⟩
/-- a new list that is not shared -/
structure Fresh (Hs H H' : Hp) (p : Addr) (xs : List V) : Prop where
  h : Same H H'
  n : H p = none
  at_ : H' p = some (.lst xs)
  i : Same Hs H'
section
variable {K : PySem.W.Frag} {F : Fr0} {σ : L2.St} {H Hs H' Hs' : Hp} {ρ : DEnv} {θ : Pot}
theorem StOk.apH (st : StOk K F σ H Hs ρ θ) {p : Addr} (e : F.ap = some p) : H p ≠ none := by
  rw [st.pot p e]
  exact fun z => nomatch z
theorem StOk.H0H (st : StOk K F σ H Hs ρ θ) {b : Addr} (e : F.H0 b ≠ none) : H b ≠ none := by
  by_cases z : F.ap = some b
  · exact st.apH z
  · cases q : F.H0 b with
    | none => exact absurd q e
    | some o =>
      rw [st.old b o z q]
      exact fun z => nomatch z
theorem StOk.grow (st : StOk K F σ H Hs ρ θ) (g : Grow Hs H Hs' H') : StOk K F σ H' Hs' ρ θ where
  sub := g.i
  hap := fun p e => (g.n p (st.apH e)).trans (st.hap p e)
  pot := fun p e => g.h _ _ (st.pot p e)
  old := fun b o h1 h2 => g.h _ _ (st.old b o h1 h2)
  frs := fun b hb => (g.n b (st.H0H hb)).trans (st.frs b hb)
  dat := fun i d e => by
    obtain ⟨v, e1, e2⟩ := st.dat i d e
    exact ⟨v, e1, Rep.mono g.s d e2⟩
  own := fun i l e => by
    obtain ⟨a, xs, e1, e2, e3, e4, e5, e6⟩ := st.own i l e
    exact ⟨a, xs, e1, g.h _ _ e2, Reps.mono g.s l e3, (g.n a (by rw [e2]; exact fun z => nomatch z)).trans e4, e5, e6⟩
  sep := st.sep
  pt := st.pt
  len := st.len
end

/-! ### the judgements -/
/-- an exception of the class named e.cls, its own dict with e.flds -/
structure ExcAt (K : PySem.W.Frag) (mg : Str → Option Value) (Hs H : Hp) (e : Exn) (c : Value) (dd : Option Addr) : Prop where
  cls : ∃ C, mg e.cls = some (.ref C) ∧ c = .ref C
  fld : e.flds = [] ∨ ∃ d fs, dd = some d ∧ H d = some (.xd fs) ∧ fs.map (·.1) = e.flds.map (·.1) ∧ Reps K Hs (e.flds.map (·.2)) (fs.map (·.2))
def ExW (X : Cx) (F : Fr0) (W : WX) (Hs : Hp) : Exn → DEnv → Pot → Prop := fun e ρ' θ' => ∀ c dd σ' H' Hs', Same Hs Hs' → StOk X.K F σ' H' Hs' ρ' θ' → ExcAt X.K X.mg Hs' H' e c dd → W c dd σ' H'
theorem ExW.anti {X : Cx} {F : Fr0} {W : WX} {Hs Hs1 : Hp} (s : Same Hs Hs1) : ∀ e ρ θ, ExW X F W Hs e ρ θ → ExW X F W Hs1 e ρ θ := fun _ _ _ h c dd σ' H' Hs' s' => h c dd σ' H' Hs' (s.trans s')
def OkD (X : Cx) (F : Fr0) (σ : L2.St) (ρ : DEnv) (Q : VK) (Hs : Hp) : Dt → Pot → Prop := fun d θ' => ∀ v H' Hs', Same Hs Hs' → StOk X.K F σ H' Hs' ρ θ' → Rep X.K Hs' d v → Q v H'
theorem OkD.anti {X : Cx} {F : Fr0} {σ : L2.St} {ρ : DEnv} {Q : VK} {Hs Hs1 : Hp} (s : Same Hs Hs1) : ∀ d θ, OkD X F σ ρ Q Hs d θ → OkD X F σ ρ Q Hs1 d θ := fun _ _ h v H' Hs' s' => h v H' Hs' (s.trans s')
def tD (X : Cx) (F : Fr0) (W : WX) (m : M Dt) : TE := fun σ H Q => ∃ ρ θ Hs, StOk X.K F σ H Hs ρ θ ∧ Post (m ρ θ) (OkD X F σ ρ Q Hs) (ExW X F W Hs)
def PD (X : Cx) (F : Fr0) (W : WX) (e : Expr) (m : M Dt) : Prop := PE X e (tD X F W m)
/-- a fresh list -/
def OkO (X : Cx) (F : Fr0) (σ : L2.St) (ρ : DEnv) (Q : VK) (Hs : Hp) : List Dt → Pot → Prop := fun l θ' => ∀ a xs H' Hs', Same Hs Hs' → StOk X.K F σ H' Hs' ρ θ' → H' a = some (.lst xs) → Reps X.K Hs' l xs → Hs' a = none → F.H0 a = none → F.ap ≠ some a →
  (∀ (i : Nat) (l : List Dt), ρ[i]? = some (some (.own l)) → σ[i]? ≠ some (some (.ref a))) → Q (.ref a) H'
theorem OkO.anti {X : Cx} {F : Fr0} {σ : L2.St} {ρ : DEnv} {Q : VK} {Hs Hs1 : Hp} (s : Same Hs Hs1) : ∀ d θ, OkO X F σ ρ Q Hs d θ → OkO X F σ ρ Q Hs1 d θ := fun _ _ h a xs H' Hs' s' => h a xs H' Hs' (s.trans s')
def tO (X : Cx) (F : Fr0) (W : WX) (m : M (List Dt)) : TE := fun σ H Q => ∃ ρ θ Hs, StOk X.K F σ H Hs ρ θ ∧ Post (m ρ θ) (OkO X F σ ρ Q Hs) (ExW X F W Hs)
def PO (X : Cx) (F : Fr0) (W : WX) (e : Expr) (m : M (List Dt)) : Prop := PE X e (tO X F W m)
/-- a test -/
def OkT (X : Cx) (F : Fr0) (σ : L2.St) (ρ : DEnv) (Q : Bool → Hp → Prop) (Hs : Hp) : Bool → Pot → Prop := fun b θ' => ∀ H' Hs', Same Hs Hs' → StOk X.K F σ H' Hs' ρ θ' → Q b H'
theorem OkT.anti {X : Cx} {F : Fr0} {σ : L2.St} {ρ : DEnv} {Q : Bool → Hp → Prop} {Hs Hs1 : Hp} (s : Same Hs Hs1) : ∀ d θ, OkT X F σ ρ Q Hs d θ → OkT X F σ ρ Q Hs1 d θ := fun _ _ h H' Hs' s' => h H' Hs' (s.trans s')
def tT (X : Cx) (F : Fr0) (W : WX) (m : M Bool) : TT := fun σ H Q => ∃ ρ θ Hs, StOk X.K F σ H Hs ρ θ ∧ Post (m ρ θ) (OkT X F σ ρ Q Hs) (ExW X F W Hs)
def PTD (X : Cx) (F : Fr0) (W : WX) (e : Expr) (m : M Bool) : Prop := PT X e (tT X F W m)
/-- arguments: data -/
def OkA (X : Cx) (F : Fr0) (σ : L2.St) (ρ : DEnv) (Q : List V → Hp → Prop) (Hs : Hp) : List Dt → Pot → Prop := fun l θ' => ∀ vs H' Hs', Same Hs Hs' → StOk X.K F σ H' Hs' ρ θ' → Reps X.K Hs' l vs → Q vs H'
theorem OkA.anti {X : Cx} {F : Fr0} {σ : L2.St} {ρ : DEnv} {Q : List V → Hp → Prop} {Hs Hs1 : Hp} (s : Same Hs Hs1) : ∀ d θ, OkA X F σ ρ Q Hs d θ → OkA X F σ ρ Q Hs1 d θ := fun _ _ h vs H' Hs' s' => h vs H' Hs' (s.trans s')
def tA (X : Cx) (F : Fr0) (W : WX) (m : M (List Dt)) : TA := fun σ H Q => ∃ ρ θ Hs, StOk X.K F σ H Hs ρ θ ∧ Post (m ρ θ) (OkA X F σ ρ Q Hs) (ExW X F W Hs)
def PAD (X : Cx) (F : Fr0) (W : WX) (es : List Expr) (m : M (List Dt)) : Prop := PA X es (tA X F W m)
/-- statements -/
def OkS (X : Cx) (F : Fr0) (Ds : Ends) (Hs : Hp) : Out → Pot → Prop := fun o θ' => ∀ σ' H' Hs', Same Hs Hs' → match o with
  | .next ρ' => StOk X.K F σ' H' Hs' ρ' θ' → Ds.nx σ' H'
  | .brk ρ' => StOk X.K F σ' H' Hs' ρ' θ' → Ds.bk σ' H'
  | .cnt ρ' => StOk X.K F σ' H' Hs' ρ' θ' → Ds.ct σ' H'
  | .ret (.d d) => ∀ ρ' v, StOk X.K F σ' H' Hs' ρ' θ' → Rep X.K Hs' d v → Ds.rt v H'
  | .ret (.o l) => ∀ ρ' a xs, StOk X.K F σ' H' Hs' ρ' θ' → H' a = some (.lst xs) → Reps X.K Hs' l xs → Hs' a = none → F.H0 a = none → F.ap ≠ some a → Ds.rt (.ref a) H'
theorem OkS.anti {X : Cx} {F : Fr0} {Ds : Ends} {Hs Hs1 : Hp} (s : Same Hs Hs1) : ∀ o θ, OkS X F Ds Hs o θ → OkS X F Ds Hs1 o θ := fun _ _ h σ' H' Hs' s' => h σ' H' Hs' (s.trans s')
def tS (X : Cx) (F : Fr0) (W : WX) (m : M Out) : TS := fun Ds σ H => ∃ ρ θ Hs, StOk X.K F σ H Hs ρ θ ∧ Post (m ρ θ) (OkS X F Ds Hs) (ExW X F W Hs)
def PSD (X : Cx) (F : Fr0) (W : WX) (st : Stmt) (m : M Out) : Prop := PS X st (tS X F W m)
def PSDs (X : Cx) (F : Fr0) (W : WX) (st : List Stmt) (m : M Out) : Prop := PSs X st (tS X F W m)

theorem pe_imp {X : Cx} {e : Expr} {t t' : TE} (h : PE X e t) (i : ∀ σ H Q, t' σ H Q → t σ H Q) : PE X e t' := ⟨fun pins s σ H Q I q => h.run pins s σ H Q I (i σ H Q q)⟩
theorem pt_imp {X : Cx} {e : Expr} {t t' : TT} (h : PT X e t) (i : ∀ σ H Q, t' σ H Q → t σ H Q) : PT X e t' := ⟨fun pins s σ H Q I q => h.run pins s σ H Q I (i σ H Q q)⟩
theorem pa_imp {X : Cx} {es : List Expr} {t t' : TA} (h : PA X es t) (i : ∀ σ H Q, t' σ H Q → t σ H Q) : PA X es t' := ⟨fun pos pins s σ H Q I q => h.run pos pins s σ H Q I (i σ H Q q)⟩
theorem ps_imp {X : Cx} {st : Stmt} {t t' : TS} (h : PS X st t) (i : ∀ D σ H, t' D σ H → t D σ H) : PS X st t' := ⟨fun pins s σ H D I q => h.run pins s σ H D I (i D σ H q)⟩
theorem pss_imp {X : Cx} {st : List Stmt} {t t' : TS} (h : PSs X st t) (i : ∀ D σ H, t' D σ H → t D σ H) : PSs X st t' := ⟨fun pins s σ H D I q => h.run pins s σ H D I (i D σ H q)⟩

section
variable {X : Cx} {F : Fr0} {W : WX} {σ : L2.St} {H Hs : Hp} {ρ : DEnv} {θ : Pot}
/-- one part of an expression, then the rest: from what is wanted of bnd m f -/
theorem then_D {β : Type} {m : M Dt} {f : Dt → M β} {okb : Hp → β → Pot → Prop} {Q : VK} (anti : ∀ {Hs Hs1}, Same Hs Hs1 → ∀ b θ, okb Hs b θ → okb Hs1 b θ) (st : StOk X.K F σ H Hs ρ θ) (hp : Post (bnd m f ρ θ) (okb Hs) (ExW X F W Hs))
    (k : ∀ v d H' Hs' θ', Same Hs Hs' → StOk X.K F σ H' Hs' ρ θ' → Rep X.K Hs' d v → Post (f d ρ θ') (okb Hs') (ExW X F W Hs') → Q v H') : tD X F W m σ H Q :=
  ⟨ρ, θ, Hs, st, (post_bnd hp).imp (fun d θ' q v H' Hs' s st' r => k v d H' Hs' θ' s st' r (q.imp (anti s) (ExW.anti s))) fun _ _ _ q => q⟩
theorem then_A {β : Type} {m : M (List Dt)} {f : List Dt → M β} {okb : Hp → β → Pot → Prop} {Q : List V → Hp → Prop} (anti : ∀ {Hs Hs1}, Same Hs Hs1 → ∀ b θ, okb Hs b θ → okb Hs1 b θ) (st : StOk X.K F σ H Hs ρ θ) (hp : Post (bnd m f ρ θ) (okb Hs) (ExW X F W Hs))
    (k : ∀ vs l H' Hs' θ', Same Hs Hs' → StOk X.K F σ H' Hs' ρ θ' → Reps X.K Hs' l vs → Post (f l ρ θ') (okb Hs') (ExW X F W Hs') → Q vs H') : tA X F W m σ H Q :=
  ⟨ρ, θ, Hs, st, (post_bnd hp).imp (fun d θ' q v H' Hs' s st' r => k v d H' Hs' θ' s st' r (q.imp (anti s) (ExW.anti s))) fun _ _ _ q => q⟩
theorem then_T {β : Type} {m : M Bool} {f : Bool → M β} {okb : Hp → β → Pot → Prop} {Q : Bool → Hp → Prop} (anti : ∀ {Hs Hs1}, Same Hs Hs1 → ∀ b θ, okb Hs b θ → okb Hs1 b θ) (st : StOk X.K F σ H Hs ρ θ) (hp : Post (bnd m f ρ θ) (okb Hs) (ExW X F W Hs))
    (k : ∀ c H' Hs' θ', Same Hs Hs' → StOk X.K F σ H' Hs' ρ θ' → Post (f c ρ θ') (okb Hs') (ExW X F W Hs') → Q c H') : tT X F W m σ H Q :=
  ⟨ρ, θ, Hs, st, (post_bnd hp).imp (fun d θ' q H' Hs' s st' => k d H' Hs' θ' s st' (q.imp (anti s) (ExW.anti s))) fun _ _ _ q => q⟩
theorem then_O {β : Type} {m : M (List Dt)} {f : List Dt → M β} {okb : Hp → β → Pot → Prop} {Q : VK} (anti : ∀ {Hs Hs1}, Same Hs Hs1 → ∀ b θ, okb Hs b θ → okb Hs1 b θ) (st : StOk X.K F σ H Hs ρ θ) (hp : Post (bnd m f ρ θ) (okb Hs) (ExW X F W Hs))
    (k : ∀ a xs l H' Hs' θ', Same Hs Hs' → StOk X.K F σ H' Hs' ρ θ' → H' a = some (.lst xs) → Reps X.K Hs' l xs → Hs' a = none → F.H0 a = none → F.ap ≠ some a → (∀ (i : Nat) (l : List Dt), ρ[i]? = some (some (.own l)) → σ[i]? ≠ some (some (.ref a))) → Post (f l ρ θ') (okb Hs') (ExW X F W Hs') → Q (.ref a) H') : tO X F W m σ H Q :=
  ⟨ρ, θ, Hs, st, (post_bnd hp).imp (fun d θ' q a xs H' Hs' s st' e1 e2 e3 e4 e5 e6 => k a xs d H' Hs' θ' s st' e1 e2 e3 e4 e5 e6 (q.imp (anti s) (ExW.anti s))) fun _ _ _ q => q⟩
end
end Pd


namespace Pd
open PySem PySem.Spec PyProof.Rows L2
section
variable {X : Cx} {F : Fr0} {W : WX} {a b c : Expr} {es : List Expr} {pos : Pos}

/-! ### names, constants -/
theorem fin_D {σ : L2.St} {ρ : DEnv} {Q : VK} {H Hs : Hp} {d : Dt} {θ : Pot} {v : V} (h : OkD X F σ ρ Q Hs d θ) (st : StOk X.K F σ H Hs ρ θ) (r : Rep X.K Hs d v) : Q v H := h v H Hs (Same.refl _) st r
def mVar (i : Nat) : M Dt := fun ρ θ => match ρ[i]? with
  | some (some (.dat d)) => .ok d θ
  | _ => .bad
theorem pd_var (i : Nat) {x : Str} (hN : X.N[i]? = some x := by rfl) (hv : Vis X.env.scope x := by first | exact Or.inl rfl | exact Or.inr (Or.inl rfl) | exact Or.inr (Or.inr rfl)) (hd : (x == ("__debug__" : Str)) = false := by decide)
    (hcd : (x == ("__classdict__" : Str)) = false := by decide) : PD X F W (.Name x pos) (mVar i) := by
  refine pe_imp (pe_var hN hv hd hcd) fun σ H Q h => ?_
  obtain ⟨ρ, θ, Hs, st, h⟩ := h
  unfold mVar at h
  split at h
  · rename_i d e
    obtain ⟨v, e1, e2⟩ := st.dat i d e
    exact ⟨v, e1, fin_D h st e2⟩
  · exact h.elim
theorem pd_const {v : V} {d : Dt} {e : Expr} (h : PE X e (tC v)) (r : ∀ H, Rep X.K H d v) : PD X F W e (ret d) := pe_imp h fun σ H Q ⟨ρ, θ, Hs, st, q⟩ => fin_D q st (r _)
theorem pd_int {i : Int} {j p} : PD X F W (.Constant (.int i) j p) (ret (.int i)) := pd_const pe_int fun _ => rfl
theorem pd_bl {i : Bool} {j p} : PD X F W (.Constant (.bool i) j p) (ret (.bl i)) := pd_const pe_bl fun _ => rfl
theorem pd_non {j p} : PD X F W (.Constant .none j p) (ret .non) := pd_const pe_non fun _ => rfl
theorem pd_str {s : Str} {j p} : PD X F W (.Constant (.str s) j p) (ret (.str s)) := pd_const pe_str fun _ => rfl
theorem pd_gint {x : Str} {i : Int} (hm : ∃ t, X.mg x = some (.int i t)) (hg : Gl X x := by rfl) (hd : (x == ("__debug__" : Str)) = false := by decide) : PD X F W (.Name x pos) (ret (.int i)) := by
  obtain ⟨t, e⟩ := hm
  exact pd_const (pe_glob (v := .int i) hg e ⟨t, rfl⟩ hd) fun _ => rfl
theorem pd_gstr {x : Str} {s : Str} (hm : ∃ t, X.mg x = some (.str s t)) (hg : Gl X x := by rfl) (hd : (x == ("__debug__" : Str)) = false := by decide) : PD X F W (.Name x pos) (ret (.str s)) := by
  obtain ⟨t, e⟩ := hm
  exact pd_const (pe_glob (v := .str s) hg e ⟨t, rfl⟩ hd) fun _ => rfl
/-- a name of the module that stands for data (a written tuple) -/
theorem pd_gdat {x : Str} {a : Addr} {d : Dt} (hm : X.mg x = some (.ref a)) (hr : ∀ H, Rep X.K H d (.ref a)) (hg : Gl X x := by rfl) (hd : (x == ("__debug__" : Str)) = false := by decide) : PD X F W (.Name x pos) (ret d) :=
  pd_const (pe_glob (v := .ref a) hg hm rfl hd) hr

/-! ### operators -/
/-- an operator on data: where g tells a value it gives that -/
def OpD (X : Cx) (f : Value → Value → Sem Value) (g : Dt → Dt → Option Dt) : Prop := ∃ r : R2, OpR X f r ∧
  ∀ a b d, g a b = some d → ∀ (Hs H : Hp) (x y : V) (Q : VK), Same Hs H → Rep X.K Hs a x → Rep X.K Hs b y → (∀ v Hs' H', Grow Hs H Hs' H' → Rep X.K Hs' d v → Q v H') → r x y H Q
theorem OpD.or {f : Value → Value → Sem Value} {g g' : Dt → Dt → Option Dt} (h : OpD X f g) (h' : OpD X f g') : OpD X f (fun a b => (g a b).or (g' a b)) := by
  obtain ⟨r, o, k⟩ := h
  obtain ⟨r', o', k'⟩ := h'
  refine ⟨_, o.or o', fun a b d e Hs H x y Q s ra rb q => ?_⟩
  have e : (g a b).or (g' a b) = some d := e
  cases e1 : g a b with
  | some d' =>
    rw [e1] at e
    exact Or.inl (k a b d (e1.trans e) Hs H x y Q s ra rb q)
  | none =>
    rw [e1] at e
    exact Or.inr (k' a b d e Hs H x y Q s ra rb q)
def mOp (g : Dt → Dt → Option Dt) (ma mb : M Dt) : M Dt := bnd ma fun x => bnd mb fun y => opt (g x y)
theorem op_run {f : Value → Value → Sem Value} {g : Dt → Dt → Option Dt} {r : R2} {ma mb : M Dt} (k : ∀ a b d, g a b = some d → ∀ (Hs H : Hp) (x y : V) (Q : VK), Same Hs H → Rep X.K Hs a x → Rep X.K Hs b y → (∀ v Hs' H', Grow Hs H Hs' H' → Rep X.K Hs' d v → Q v H') → r x y H Q)
    {σ : L2.St} {H : Hp} {Q : VK} (h : tD X F W (mOp g ma mb) σ H Q) : tOp r (tD X F W ma) (tD X F W mb) σ H Q := by
  obtain ⟨ρ, θ, Hs, st, h⟩ := h
  refine then_D OkD.anti st h fun x dx H1 Hs1 θ1 s1 st1 r1 h => ?_
  refine then_D OkD.anti st1 h fun y dy H2 Hs2 θ2 s2 st2 r2 h => ?_
  obtain ⟨d, e, q⟩ := post_opt h
  exact k dx dy d e Hs2 H2 x y Q st2.sub (Rep.mono s2 dx r1) r2 fun v Hs' H' g1 r => q v H' Hs' g1.s (st2.grow g1) r
theorem pd_op {op : Operator} {g : Dt → Dt → Option Dt} {ma mb : M Dt} (ho : OpD X (binaryOp op) g) (ha : PD X F W a ma) (hb : PD X F W b mb) : PD X F W (.BinOp a op b pos) (mOp g ma mb) := by
  obtain ⟨r, o, k⟩ := ho
  exact pe_imp (pe_op o ha hb) fun σ H Q h => op_run (f := binaryOp op) k h
theorem pd_cmp {op : CmpOp} {g : Dt → Dt → Option Dt} {ma mb : M Dt} (ho : OpD X (compareOp op) g) (ha : PD X F W a ma) (hb : PD X F W b mb) (hm : behindInMarks op b = false := by first | exact nomark _ | rfl) : PD X F W (.Compare a [op] [b] pos) (mOp g ma mb) := by
  obtain ⟨r, o, k⟩ := ho
  exact pe_imp (pe_cmpR o ha hb hm) fun σ H Q h => op_run (f := compareOp op) k h
/-- ints in -/
def gI (c : Int → Int → Bool) (g : Int → Int → Dt) : Dt → Dt → Option Dt
  | .int i, .int j => if c i j = true then some (g i j) else none
  | _, _ => none
theorem gI_some {c : Int → Int → Bool} {g : Int → Int → Dt} {a b d : Dt} (h : gI c g a b = some d) : ∃ i j, a = .int i ∧ b = .int j ∧ c i j = true ∧ d = g i j := by
  unfold gI at h
  split at h
  · rename_i i j
    by_cases q : c i j = true
    · rw [if_pos q] at h
      exact ⟨i, j, rfl, rfl, q, (Option.some.inj h).symm⟩
    · rw [if_neg q] at h
      cases h
  · cases h
theorem opd_I {f : Value → Value → Sem Value} {C : Int → Int → Prop} {c : Int → Int → Bool} {g : Int → Int → V} {gd : Int → Int → Dt} (h : OpR X f (rI C g)) (hc : ∀ i j, c i j = true → C i j) (hr : ∀ i j H, Rep X.K H (gd i j) (g i j)) : OpD X f (gI c gd) := by
  refine ⟨_, h, fun a b d e Hs H x y Q s ra rb q => ?_⟩
  obtain ⟨i, j, rfl, rfl, e1, rfl⟩ := gI_some e
  exact ⟨i, j, ra, rb, hc i j e1, q _ Hs H (Grow.refl s) (hr i j Hs)⟩
theorem opd_I0 {f : Value → Value → Sem Value} {g : Int → Int → V} {gd : Int → Int → Dt} (h : OpR X f (rI0 g)) (hr : ∀ i j H, Rep X.K H (gd i j) (g i j)) : OpD X f (gI (fun _ _ => true) gd) := by
  refine ⟨_, h, fun a b d e Hs H x y Q s ra rb q => ?_⟩
  obtain ⟨i, j, rfl, rfl, _, rfl⟩ := gI_some e
  exact ⟨i, j, ra, rb, q _ Hs H (Grow.refl s) (hr i j Hs)⟩
/-- not too big -/
def small (i : Int) : Bool := decide (i.natAbs.log2 < 9000)
abbrev gAdd := gI (fun _ _ => true) fun i j => .int (i + j)
abbrev gSub := gI (fun _ _ => true) fun i j => .int (i - j)
abbrev gMul := gI (fun i j => small i && small j) fun i j => .int (i * j)
abbrev gDiv := gI (fun _ j => decide (j ≠ 0) && small j) fun i j => .int (i.fdiv j)
abbrev gMod := gI (fun _ j => decide (j ≠ 0)) fun i j => .int (i.fmod j)
abbrev gPow := gI (fun i j => decide (0 ≤ j) && (decide (j ≤ 10000) && decide (i.natAbs < 2 ^ 64))) fun i j => .int (i ^ j.toNat)
abbrev gLt := gI (fun _ _ => true) fun i j => .bl (decide (i < j))
abbrev gLe := gI (fun _ _ => true) fun i j => .bl (decide (i ≤ j))
abbrev gGt := gI (fun _ _ => true) fun i j => .bl (decide (j < i))
abbrev gGe := gI (fun _ _ => true) fun i j => .bl (decide (j ≤ i))
theorem od_add : OpD X (binaryOp .Add) gAdd := opd_I0 op_add fun _ _ _ => rfl
theorem od_sub : OpD X (binaryOp .Sub) gSub := opd_I0 op_sub fun _ _ _ => rfl
theorem od_mul : OpD X (binaryOp .Mult) gMul := opd_I op_mulW (fun i j h => by
  obtain ⟨h1, h2⟩ := Bool.and_eq_true_iff.mp h
  have h1 := of_decide_eq_true h1
  have h2 := of_decide_eq_true h2
  show _ + _ < 1000000
  omega) fun _ _ _ => rfl
theorem op_fdivS : OpR X (binaryOp .FloorDiv) (rI (fun _ j => j ≠ 0 ∧ j.natAbs.log2 < 9000) fun i j => .int (i.fdiv j)) := opI fun _ _ _ _ _ _ _ hc q => floordiv_int hc.1 q (.inl (PyProof.noPylong_of_log2 hc.2))
theorem od_div : OpD X (binaryOp .FloorDiv) gDiv := opd_I op_fdivS (fun i j h => by
  obtain ⟨h1, h2⟩ := Bool.and_eq_true_iff.mp h
  exact ⟨of_decide_eq_true h1, of_decide_eq_true h2⟩) fun _ _ _ => rfl
theorem od_mod : OpD X (binaryOp .Mod) gMod := opd_I op_modN (fun i j h => of_decide_eq_true h) fun _ _ _ => rfl
theorem od_pow : OpD X (binaryOp .Pow) gPow := opd_I op_pow (fun i j h => by
  obtain ⟨h1, h2⟩ := Bool.and_eq_true_iff.mp h
  obtain ⟨h2, h3⟩ := Bool.and_eq_true_iff.mp h2
  have h2 := of_decide_eq_true h2
  exact ⟨of_decide_eq_true h1, by omega, of_decide_eq_true h3⟩) fun _ _ _ => rfl
theorem od_lt : OpD X (compareOp .Lt) gLt := opd_I0 op_lt fun _ _ _ => rfl
theorem od_le : OpD X (compareOp .LtE) gLe := opd_I0 op_le fun _ _ _ => rfl
theorem od_gt : OpD X (compareOp .Gt) gGt := opd_I0 op_gt fun _ _ _ => rfl
theorem od_ge : OpD X (compareOp .GtE) gGe := opd_I0 op_ge fun _ _ _ => rfl
/-- == of data -/
def deq (a b : Dt) : Option Bool := match toP a, toP b with
  | some p, some q => if (SeqAt.shaped p && SeqAt.shaped q) = true then some (PyData.eqv p q) else none
  | _, _ => none
theorem deq_some {a b : Dt} {k : Bool} (h : deq a b = some k) : ∃ p q, toP a = some p ∧ toP b = some q ∧ SeqAt.shaped p = true ∧ SeqAt.shaped q = true ∧ k = PyData.eqv p q := by
  unfold deq at h
  split at h
  · rename_i p q e1 e2
    by_cases z : (SeqAt.shaped p && SeqAt.shaped q) = true
    · rw [if_pos z] at h
      obtain ⟨z1, z2⟩ := Bool.and_eq_true_iff.mp z
      exact ⟨p, q, e1, e2, z1, z2, (Option.some.inj h).symm⟩
    · rw [if_neg z] at h
      cases h
  · cases h
def gEqS : Dt → Dt → Option Dt
  | .str x, .str y => some (.bl (decide (x = y)))
  | _, _ => none
def gNeS : Dt → Dt → Option Dt
  | .str x, .str y => some (.bl (!decide (x = y)))
  | _, _ => none
def gEq (a b : Dt) : Option Dt := (gEqS a b).or ((deq a b).map Dt.bl)
def gNe (a b : Dt) : Option Dt := (gNeS a b).or ((deq a b).map fun k => Dt.bl (!k))
theorem od_eqS : OpD X (compareOp .Eq) gEqS := by
  refine ⟨_, op_eq, fun a b d e Hs H x y Q s ra rb q => ?_⟩
  unfold gEqS at e
  split at e
  · rename_i i j
    cases e
    rw [show x = _ from ra, show y = _ from rb]
    exact ⟨rfl, q _ Hs H (Grow.refl s) (show V.bl _ = V.bl _ by simp)⟩
  · cases e
theorem od_neS : OpD X (compareOp .NotEq) gNeS := by
  refine ⟨_, op_ne, fun a b d e Hs H x y Q s ra rb q => ?_⟩
  unfold gNeS at e
  split at e
  · rename_i i j
    cases e
    rw [show x = _ from ra, show y = _ from rb]
    exact ⟨rfl, q _ Hs H (Grow.refl s) (show V.bl _ = V.bl _ by simp)⟩
  · cases e
theorem od_eqD {k : Nat} (hr : Room k X.A) : OpD X (compareOp .Eq) (fun a b => (deq a b).map Dt.bl) := by
  refine ⟨_, op_eqD hr.units, fun a b d e Hs H x y Q s ra rb q => ?_⟩
  obtain ⟨k, e0, rfl⟩ := Option.map_eq_some_iff.mp (show (deq a b).map Dt.bl = _ from e)
  obtain ⟨p, p', e1, e2, s1, s2, rfl⟩ := deq_some e0
  exact ⟨p, p', Rep.dp a (Rep.mono s a ra) e1, Rep.dp b (Rep.mono s b rb) e2, s1, s2, q _ Hs H (Grow.refl s) rfl⟩
theorem od_neD {k : Nat} (hr : Room k X.A) : OpD X (compareOp .NotEq) (fun a b => (deq a b).map fun k => Dt.bl (!k)) := by
  refine ⟨_, op_neD hr.units, fun a b d e Hs H x y Q s ra rb q => ?_⟩
  obtain ⟨k, e0, rfl⟩ := Option.map_eq_some_iff.mp (show (deq a b).map (fun k => Dt.bl (!k)) = _ from e)
  obtain ⟨p, p', e1, e2, s1, s2, rfl⟩ := deq_some e0
  exact ⟨p, p', Rep.dp a (Rep.mono s a ra) e1, Rep.dp b (Rep.mono s b rb) e2, s1, s2, q _ Hs H (Grow.refl s) rfl⟩
theorem od_eq {k : Nat} (hr : Room k X.A) : OpD X (compareOp .Eq) gEq := od_eqS.or (od_eqD hr)
theorem od_ne {k : Nat} (hr : Room k X.A) : OpD X (compareOp .NotEq) gNe := od_neS.or (od_neD hr)
/-- is None -/
def isNon : Dt → Option Bool
  | .non => some true
  | .raw _ => none
  | _ => some false
def gIs (a b : Dt) : Option Dt := match b with
  | .non => (isNon a).map Dt.bl
  | _ => none
def gIsNot (a b : Dt) : Option Dt := match b with
  | .non => (isNon a).map fun k => Dt.bl (!k)
  | _ => none
theorem isNon_ok {K : PySem.W.Frag} {H : Hp} {a : Dt} {x : V} {k : Bool} (h : isNon a = some k) (r : Rep K H a x) : k = decide (x = .non) := by
  cases a with
  | non => cases h; rw [show x = _ from r]; rfl
  | bl b => cases h; rw [show x = _ from r]; rfl
  | int b => cases h; rw [show x = _ from r]; rfl
  | str b => cases h; rw [show x = _ from r]; rfl
  | lst l => cases h; obtain ⟨p, xs, rfl, _⟩ := r; rfl
  | tup l => cases h; obtain ⟨p, xs, rfl, _⟩ := r; rfl
  | raw v => cases h
theorem od_is : OpD X (compareOp .Is) gIs := by
  refine ⟨_, op_isN, fun a b d e Hs H x y Q s ra rb q => ?_⟩
  cases b <;> try (cases e)
  obtain ⟨k, e1, rfl⟩ := Option.map_eq_some_iff.mp (show (isNon a).map Dt.bl = _ from e)
  refine ⟨rb, ?_⟩
  rw [← isNon_ok e1 ra]
  exact q _ Hs H (Grow.refl s) rfl
theorem od_isnot : OpD X (compareOp .IsNot) gIsNot := by
  refine ⟨_, op_notN, fun a b d e Hs H x y Q s ra rb q => ?_⟩
  cases b <;> try (cases e)
  obtain ⟨k, e1, rfl⟩ := Option.map_eq_some_iff.mp (show (isNon a).map (fun k => Dt.bl (!k)) = _ from e)
  refine ⟨rb, ?_⟩
  rw [← isNon_ok e1 ra]
  exact q _ Hs H (Grow.refl s) rfl
/-- -x -/
def mNeg (ma : M Dt) : M Dt := bnd ma fun x => match x with
  | .int i => ret (.int (-i))
  | _ => bad
theorem pd_neg {ma : M Dt} (ha : PD X F W a ma) : PD X F W (.UnaryOp .USub a pos) (mNeg ma) := by
  refine pe_imp (pe_un un_neg ha) fun σ H Q h => ?_
  obtain ⟨ρ, θ, Hs, st, h⟩ := h
  refine then_D OkD.anti st h fun x dx H1 Hs1 θ1 s1 st1 r1 h => ?_
  cases dx <;> try exact h.elim
  exact ⟨_, r1, fin_D h st1 rfl⟩

/-! ### tests -/
theorem fin_T {σ : L2.St} {ρ : DEnv} {Q : Bool → Hp → Prop} {H Hs : Hp} {d : Bool} {θ : Pot} (h : OkT X F σ ρ Q Hs d θ) (st : StOk X.K F σ H Hs ρ θ) : Q d H := h H Hs (Same.refl _) st
def mBool (ma : M Dt) : M Bool := bnd ma fun x => match x with
  | .bl k => ret k
  | _ => bad
theorem bool_run {ma : M Dt} {σ : L2.St} {H : Hp} {Q : Bool → Hp → Prop} (h : tT X F W (mBool ma) σ H Q) : tD X F W ma σ H fun x H1 => ∃ c, x = .bl c ∧ Q c H1 := by
  obtain ⟨ρ, θ, Hs, st, h⟩ := h
  refine then_D OkT.anti st h fun x dx H1 Hs1 θ1 s1 st1 r1 h => ?_
  cases dx <;> try exact h.elim
  exact ⟨_, r1, fin_T h st1⟩
/-- an expression whose value is a bool: a name, a call, a subscript -/
theorem pt_bool {ma : M Dt} (ha : PD X F W a ma) (he : ∀ whole, isTrue a X.env whole = (do let v ← whole; standAt a.pos; holding [v] (truthy v)) := by intro _; rfl) : PTD X F W a (mBool ma) := pt_imp (pt_val ha he) fun σ H Q h => bool_run h
theorem pt_cmp1 {op : CmpOp} {g : Dt → Dt → Option Dt} {ma mb : M Dt} (ho : OpD X (compareOp op) g) (ha : PD X F W a ma) (hb : PD X F W b mb) (hm : behindInMarks op b = false := by first | exact nomark _ | rfl) : PTD X F W (.Compare a [op] [b] pos) (mBool (mOp g ma mb)) := by
  obtain ⟨r, o, k⟩ := ho
  refine pt_imp (pt_cmpR o ha hb hm) fun σ H Q h => ?_
  exact op_run (f := compareOp op) (F := F) (W := W) k (bool_run h)
def mNot (ma : M Bool) : M Bool := bnd ma fun k => ret (!k)
theorem ptd_not {ma : M Bool} (ha : PTD X F W a ma) : PTD X F W (.UnaryOp .Not a pos) (mNot ma) := by
  refine pt_imp (pt_not ha) fun σ H Q h => ?_
  obtain ⟨ρ, θ, Hs, st, h⟩ := h
  exact then_T OkT.anti st h fun k H1 Hs1 θ1 s1 st1 h => fin_T h st1
def PWD (X : Cx) (F : Fr0) (W : WX) (e : Expr) (m : M Bool) : Prop := PW X e (tT X F W m)
theorem pw_imp {e : Expr} {t t' : TT} (h : PW X e t) (i : ∀ σ H Q, t' σ H Q → t σ H Q) : PW X e t' := ⟨fun wh pins s σ H Q I q => h.run wh pins s σ H Q I (i σ H Q q)⟩
theorem PWD.pt {m : M Bool} (h : PWD X F W a m) : PTD X F W a m := PW.pt h
def mAnd (ma mb : M Bool) : M Bool := bnd ma fun k => if k = true then mb else ret false
def mOr (ma mb : M Bool) : M Bool := bnd ma fun k => if k = true then ret true else mb
theorem pw_a1 {ma : M Bool} (ha : PTD X F W a ma) : PWD X F W (.BoolOp .And [a] pos) ma := pw_and1 ha
theorem pw_o1 {ma : M Bool} (ha : PTD X F W a ma) : PWD X F W (.BoolOp .Or [a] pos) ma := pw_or1 ha
theorem pw_a {ma mb : M Bool} (ha : PTD X F W a ma) (hb : PWD X F W (.BoolOp .And (b :: es) pos) mb) : PWD X F W (.BoolOp .And (a :: b :: es) pos) (mAnd ma mb) := by
  refine pw_imp (pw_and ha hb) fun σ H Q h => ?_
  obtain ⟨ρ, θ, Hs, st, h⟩ := h
  refine then_T OkT.anti st h fun k H1 Hs1 θ1 s1 st1 h => ?_
  cases k with
  | true => exact ⟨ρ, θ1, Hs1, st1, h⟩
  | false => exact fin_T h st1
theorem pw_o {ma mb : M Bool} (ha : PTD X F W a ma) (hb : PWD X F W (.BoolOp .Or (b :: es) pos) mb) : PWD X F W (.BoolOp .Or (a :: b :: es) pos) (mOr ma mb) := by
  refine pw_imp (pw_or ha hb) fun σ H Q h => ?_
  obtain ⟨ρ, θ, Hs, st, h⟩ := h
  refine then_T OkT.anti st h fun k H1 Hs1 θ1 s1 st1 h => ?_
  cases k with
  | false => exact ⟨ρ, θ1, Hs1, st1, h⟩
  | true => exact fin_T h st1
/-- as values, all bools -/
def mAndV (ma mb : M Dt) : M Dt := bnd ma fun x => match x with
  | .bl true => mb
  | .bl false => ret (.bl false)
  | _ => bad
def mOrV (ma mb : M Dt) : M Dt := bnd ma fun x => match x with
  | .bl false => mb
  | .bl true => ret (.bl true)
  | _ => bad
theorem pd_one {op} {ma : M Dt} (ha : PD X F W a ma) : PD X F W (.BoolOp op [a] pos) ma := pe_one ha
theorem pd_and {ma mb : M Dt} (ha : PD X F W a ma) (hb : PD X F W (.BoolOp .And (b :: es) pos) mb) : PD X F W (.BoolOp .And (a :: b :: es) pos) (mAndV ma mb) := by
  refine pe_imp (pe_and ha hb) fun σ H Q h => ?_
  obtain ⟨ρ, θ, Hs, st, h⟩ := h
  refine then_D OkD.anti st h fun x dx H1 Hs1 θ1 s1 st1 r1 h => ?_
  cases dx with
  | bl k =>
    refine ⟨k, r1, ?_⟩
    cases k with
    | true => exact ⟨ρ, θ1, Hs1, st1, h⟩
    | false => exact fin_D h st1 rfl
  | _ => exact h.elim
theorem pd_or {ma mb : M Dt} (ha : PD X F W a ma) (hb : PD X F W (.BoolOp .Or (b :: es) pos) mb) : PD X F W (.BoolOp .Or (a :: b :: es) pos) (mOrV ma mb) := by
  refine pe_imp (pe_or ha hb) fun σ H Q h => ?_
  obtain ⟨ρ, θ, Hs, st, h⟩ := h
  refine then_D OkD.anti st h fun x dx H1 Hs1 θ1 s1 st1 r1 h => ?_
  cases dx with
  | bl k =>
    refine ⟨k, r1, ?_⟩
    cases k with
    | false => exact ⟨ρ, θ1, Hs1, st1, h⟩
    | true => exact fin_D h st1 rfl
  | _ => exact h.elim
def mNotV (ma : M Dt) : M Dt := bnd ma fun x => match x with
  | .bl k => ret (.bl (!k))
  | _ => bad
theorem pd_not {ma : M Dt} (ha : PD X F W a ma) : PD X F W (.UnaryOp .Not a pos) (mNotV ma) := by
  refine pe_imp (pe_not ha) fun σ H Q h => ?_
  obtain ⟨ρ, θ, Hs, st, h⟩ := h
  refine then_D OkD.anti st h fun x dx H1 Hs1 θ1 s1 st1 r1 h => ?_
  cases dx <;> try exact h.elim
  exact ⟨_, r1, fin_D h st1 rfl⟩
def mIte {α : Type} (mc : M Bool) (ma mb : M α) : M α := bnd mc fun k => if k = true then ma else mb
theorem pd_ife {mc : M Bool} {ma mb : M Dt} (hc : PTD X F W c mc) (ha : PD X F W a ma) (hb : PD X F W b mb) : PD X F W (.IfExp c a b pos) (mIte mc ma mb) := by
  refine pe_imp (pe_ifExp hc ha hb) fun σ H Q h => ?_
  obtain ⟨ρ, θ, Hs, st, h⟩ := h
  refine then_T OkD.anti st h fun k H1 Hs1 θ1 s1 st1 h => ?_
  cases k with
  | true => exact ⟨ρ, θ1, Hs1, st1, h⟩
  | false => exact ⟨ρ, θ1, Hs1, st1, h⟩
/-- chains of two, three -/
def mChain (g g' : Dt → Dt → Option Dt) (ma mb mc : M Dt) : M Dt := bnd ma fun x => bnd mb fun y => bnd (opt (g x y)) fun z => match z with
  | .bl true => bnd mc fun w => opt (g' y w)
  | .bl false => ret (.bl false)
  | _ => bad
theorem chain_run {f f' : Value → Value → Sem Value} {g g' : Dt → Dt → Option Dt} {r r' : R2} {ma mb mc : M Dt}
    (k : ∀ a b d, g a b = some d → ∀ (Hs H : Hp) (x y : V) (Q : VK), Same Hs H → Rep X.K Hs a x → Rep X.K Hs b y → (∀ v Hs' H', Grow Hs H Hs' H' → Rep X.K Hs' d v → Q v H') → r x y H Q)
    (k' : ∀ a b d, g' a b = some d → ∀ (Hs H : Hp) (x y : V) (Q : VK), Same Hs H → Rep X.K Hs a x → Rep X.K Hs b y → (∀ v Hs' H', Grow Hs H Hs' H' → Rep X.K Hs' d v → Q v H') → r' x y H Q)
    {σ : L2.St} {H : Hp} {Q : VK} (h : tD X F W (mChain g g' ma mb mc) σ H Q) : tChain r r' (tD X F W ma) (tD X F W mb) (tD X F W mc) σ H Q := by
  obtain ⟨ρ, θ, Hs, st, h⟩ := h
  refine then_D OkD.anti st h fun x dx H1 Hs1 θ1 s1 st1 r1 h => ?_
  refine then_D OkD.anti st1 h fun y dy H2 Hs2 θ2 s2 st2 r2 h => ?_
  obtain ⟨d, e, q⟩ := post_opt (post_bnd h)
  refine k dx dy d e Hs2 H2 x y _ st2.sub (Rep.mono s2 dx r1) r2 fun v Hs3 H3 g1 r => ?_
  have st3 := st2.grow g1
  cases d with
  | bl kk =>
    refine ⟨kk, r, ?_⟩
    cases kk with
    | true =>
      refine iteT ?_
      have q' : Post (bnd mc (fun w => opt (g' dy w)) ρ θ2) (OkD X F σ ρ Q Hs3) (ExW X F W Hs3) := Post.imp q (OkD.anti g1.s) (ExW.anti g1.s)
      refine then_D OkD.anti st3 q' fun z dz H4 Hs4 θ4 s4 st4 r4 h => ?_
      obtain ⟨d', e', q2⟩ := post_opt h
      exact k' dy dz d' e' Hs4 H4 y z Q st4.sub (Rep.mono s4 dy (Rep.mono g1.s dy r2)) r4 fun v' Hs' H' g2 r' => q2 v' H' Hs' g2.s (st4.grow g2) r'
    | false =>
      refine iteF ?_
      exact OkD.anti g1.s _ _ q _ H3 Hs3 (Same.refl _) st3 rfl
  | _ => exact q.elim
theorem pd_chain {op op' : CmpOp} {g g' : Dt → Dt → Option Dt} {ma mb mc : M Dt} (ho : OpD X (compareOp op) g) (ho' : OpD X (compareOp op') g') (ha : PD X F W a ma) (hb : PD X F W b mb) (hc : PD X F W c mc)
    (hm : lastMarks [op, op'] [b, c] = false := by with_unfolding_all rfl) : PD X F W (.Compare a [op, op'] [b, c] pos) (mChain g g' ma mb mc) := by
  obtain ⟨r, o, k⟩ := ho
  obtain ⟨r', o', k'⟩ := ho'
  exact pe_imp (pe_chain o o' ha hb hc hm) fun σ H Q h => chain_run (f := compareOp op) (f' := compareOp op') k k' h
theorem pt_chain2 {op op' : CmpOp} {g g' : Dt → Dt → Option Dt} {ma mb mc : M Dt} (ho : OpD X (compareOp op) g) (ho' : OpD X (compareOp op') g') (ha : PD X F W a ma) (hb : PD X F W b mb) (hc : PD X F W c mc)
    (hm : lastMarks [op, op'] [b, c] = false := by with_unfolding_all rfl) : PTD X F W (.Compare a [op, op'] [b, c] pos) (mBool (mChain g g' ma mb mc)) := by
  obtain ⟨r, o, k⟩ := ho
  obtain ⟨r', o', k'⟩ := ho'
  refine pt_imp (pt_chain o o' ha hb hc hm) fun σ H Q h => ?_
  exact chain_run (f := compareOp op) (f' := compareOp op') (F := F) (W := W) k k' (bool_run h)

/-! ### arguments, displays -/
def mNil : M (List Dt) := ret []
def mCons (ma : M Dt) (mr : M (List Dt)) : M (List Dt) := bnd ma fun x => bnd mr fun l => ret (x :: l)
theorem pad_nil : PAD X F W [] mNil := by
  refine pa_imp pa_nil fun σ H Q h => ?_
  obtain ⟨ρ, θ, Hs, st, h⟩ := h
  exact h [] H Hs (Same.refl _) st rfl
theorem pad_cons {ma : M Dt} {mr : M (List Dt)} (ha : PD X F W a ma) (hr : PAD X F W es mr) (hs : starEach (a :: es) X.env = (false, eval a X.env) :: starEach es X.env := by rfl) : PAD X F W (a :: es) (mCons ma mr) := by
  refine pa_imp (pa_cons ha hr hs) fun σ H Q h => ?_
  obtain ⟨ρ, θ, Hs, st, h⟩ := h
  refine then_D OkA.anti st h fun x dx H1 Hs1 θ1 s1 st1 r1 h => ?_
  refine then_A OkA.anti st1 h fun xs l H2 Hs2 θ2 s2 st2 r2 h => ?_
  exact h (x :: xs) H2 Hs2 (Same.refl _) st2 (Reps.cons (Rep.mono s2 dx r1) r2)
/-- how many -/
def Len (m : M (List Dt)) (n : Nat) : Prop := ∀ ρ θ l θ', m ρ θ = .ok l θ' → l.length = n
theorem len_nil : Len mNil 0 := fun ρ θ l θ' e => by cases e; rfl
theorem bnd_ok {α β : Type} {m : M α} {f : α → M β} {ρ : DEnv} {θ θ' : Pot} {b : β} (h : bnd m f ρ θ = .ok b θ') : ∃ a θ1, m ρ θ = .ok a θ1 ∧ f a ρ θ1 = .ok b θ' := by
  unfold bnd at h
  cases e : m ρ θ with
  | ok a θ1 => rw [e] at h; exact ⟨a, θ1, rfl, h⟩
  | exn x ρ' θ' => rw [e] at h; cases h
  | bad => rw [e] at h; cases h
theorem len_cons {ma : M Dt} {mr : M (List Dt)} {n : Nat} (h : Len mr n) : Len (mCons ma mr) (n + 1) := fun ρ θ l θ' e => by
  obtain ⟨d, θ1, _, e2⟩ := bnd_ok e
  obtain ⟨l2, θ2, e3, e4⟩ := bnd_ok e2
  cases e4
  rw [List.length_cons, h ρ θ1 l2 _ e3]
theorem Post.both {α : Type} {r : Res α} {ok : α → Pot → Prop} {ex : Exn → DEnv → Pot → Prop} (h : Post r ok ex) : Post r (fun a θ => r = .ok a θ ∧ ok a θ) ex := by
  cases r with
  | ok a θ => exact ⟨rfl, h⟩
  | exn e ρ θ => exact h
  | bad => exact h
def mTup (ml : M (List Dt)) : M Dt := bnd ml fun l => ret (.tup l)
theorem pd_tup {ml : M (List Dt)} {n : Nat} {x1} (h : PAD X F W es ml) (hl : Len ml n) (hn : n ≤ sizeLine := by decide) : PD X F W (.Tuple es x1 pos) (mTup ml) := by
  refine pe_imp (pe_tup h) fun σ H Q q => ?_
  obtain ⟨ρ, θ, Hs, st, q⟩ := q
  refine ⟨ρ, θ, Hs, st, (post_bnd q).both.imp (fun l θ' ⟨e, k⟩ xs H' Hs' s st' r => ?_) fun _ _ _ z => z⟩
  refine ⟨by rw [← r.length, hl _ _ _ _ e]; exact hn, fun p np => ?_⟩
  have g := Grow.new (o := .tup xs) st'.sub np
  exact k (.ref p) _ _ (s.trans g.s) (st'.grow g) ⟨p, xs, rfl, SqT.of upd_same, Reps.mono g.s l r⟩
theorem own_ne {σ : L2.St} {ρ : DEnv} {H Hs : Hp} {θ : Pot} {p : Addr} (st : StOk X.K F σ H Hs ρ θ) (np : H p = none) : ∀ (i : Nat) (l : List Dt), ρ[i]? = some (some (.own l)) → σ[i]? ≠ some (some (.ref p)) := fun i l e z => by
  obtain ⟨a, xs, e1, e2, _⟩ := st.own i l e
  rw [z] at e1
  cases e1
  rw [np] at e2
  cases e2
theorem h0_none {σ : L2.St} {ρ : DEnv} {H Hs : Hp} {θ : Pot} {p : Addr} (st : StOk X.K F σ H Hs ρ θ) (np : H p = none) : F.H0 p = none := by
  cases e : F.H0 p with
  | none => rfl
  | some o => exact absurd np (st.H0H (by rw [e]; exact fun z => nomatch z))
theorem ap_ne {σ : L2.St} {ρ : DEnv} {H Hs : Hp} {θ : Pot} {p : Addr} (st : StOk X.K F σ H Hs ρ θ) (np : H p = none) : F.ap ≠ some p := fun e => st.apH e np
/-- the state with a fresh list beside it -/
theorem st_new {σ : L2.St} {ρ : DEnv} {H Hs : Hp} {θ : Pot} {p : Addr} {o : HO} (st : StOk X.K F σ H Hs ρ θ) (np : H p = none) : StOk X.K F σ (upd H p o) Hs ρ θ where
  sub := st.sub.trans (same_upd np)
  hap := st.hap
  pot := fun q e => same_upd np _ _ (st.pot q e)
  old := fun b u h1 h2 => same_upd np _ _ (st.old b u h1 h2)
  frs := st.frs
  dat := st.dat
  own := fun i l e => by
    obtain ⟨a, xs, e1, e2, e3, e4, e5, e6⟩ := st.own i l e
    exact ⟨a, xs, e1, same_upd np _ _ e2, e3, e4, e5, e6⟩
  sep := st.sep
  pt := st.pt
  len := st.len
theorem po_lst {ml : M (List Dt)} {n : Nat} (h : PAD X F W es ml) (hl : Len ml n) (hn : n ≤ sizeLine := by decide) : PO X F W (.List es pos) ml := by
  refine pe_imp (pe_lst h) fun σ H Q q => ?_
  obtain ⟨ρ, θ, Hs, st, q⟩ := q
  refine ⟨ρ, θ, Hs, st, q.both.imp (fun l θ' ⟨e, k⟩ xs H' Hs' s st' r => ?_) fun _ _ _ z => z⟩
  refine ⟨by rw [← r.length, hl _ _ _ _ e]; exact hn, fun p np => ?_⟩
  exact k p xs _ Hs' s (st_new st' np) upd_same r (st'.sub.free np) (h0_none st' np) (ap_ne st' np) (own_ne st' np)
/-- a fresh list becomes data -/
theorem st_freeze {σ : L2.St} {ρ : DEnv} {H Hs : Hp} {θ : Pot} {p : Addr} {xs : List V} (st : StOk X.K F σ H Hs ρ θ) (hp : H p = some (.lst xs)) (n1 : Hs p = none) (n2 : F.H0 p = none) (n3 : F.ap ≠ some p)
    (n4 : ∀ (i : Nat) (l : List Dt), ρ[i]? = some (some (.own l)) → σ[i]? ≠ some (some (.ref p))) : StOk X.K F σ H (upd Hs p (.lst xs)) ρ θ where
  sub := fun b u e => by
    by_cases z : b = p
    · subst z
      rw [upd_same] at e
      cases e
      exact hp
    · rw [upd_ne z] at e
      exact st.sub _ _ e
  hap := fun q e => by
    have z : q ≠ p := fun z => n3 (by rw [← z]; exact e)
    rw [upd_ne z]
    exact st.hap q e
  pot := st.pot
  old := st.old
  frs := fun b hb => by
    have z : b ≠ p := fun z => hb (by rw [z]; exact n2)
    rw [upd_ne z]
    exact st.frs b hb
  dat := fun i d e => by
    obtain ⟨v, e1, e2⟩ := st.dat i d e
    exact ⟨v, e1, Rep.mono (same_upd n1) d e2⟩
  own := fun i l e => by
    obtain ⟨a, ys, e1, e2, e3, e4, e5, e6⟩ := st.own i l e
    have z : a ≠ p := fun z => n4 i l e (by rw [← z]; exact e1)
    exact ⟨a, ys, e1, e2, Reps.mono (same_upd n1) l e3, by rw [upd_ne z]; exact e4, e5, e6⟩
  sep := st.sep
  pt := st.pt
  len := st.len
def mLst (ml : M (List Dt)) : M Dt := bnd ml fun l => ret (.lst l)
theorem pd_frz {ml : M (List Dt)} (h : PO X F W a ml) : PD X F W a (mLst ml) := by
  refine pe_imp h fun σ H Q q => ?_
  obtain ⟨ρ, θ, Hs, st, q⟩ := q
  refine then_O OkD.anti st q fun p xs l H1 Hs1 θ1 s1 st1 e1 e2 e3 e4 e5 e6 h => ?_
  exact h (.ref p) H1 _ (same_upd e3) (st_freeze st1 e1 e3 e4 e5 e6) ⟨p, xs, rfl, SqL.of upd_same, Reps.mono (same_upd e3) l e2⟩
end
end Pd


namespace Pd
open PySem PySem.Spec PyProof.Rows L2
/-! ### storing into a slot -/
section
variable {K : PySem.W.Frag} {F : Fr0} {σ : L2.St} {H Hs : Hp} {ρ : DEnv} {θ : Pot}
theorem st_set (st : StOk K F σ H Hs ρ θ) (i : Nat) {v : V} {d : Dt} (r : Rep K Hs d v) : StOk K F (σ.set i (some v)) H Hs (ρ.set i (some (.dat d))) θ where
  sub := st.sub
  hap := st.hap
  pot := st.pot
  old := st.old
  frs := st.frs
  dat := fun j d' e => by
    by_cases z : i = j
    · subst z
      rw [List.getElem?_set] at e
      rw [List.getElem?_set, ← st.len]
      by_cases q : i < ρ.length
      · simp only [q, if_true] at e ⊢
        cases e
        exact ⟨v, rfl, r⟩
      · simp only [q, if_false, if_true] at e
        cases e
    · rw [List.getElem?_set_ne z] at e
      rw [List.getElem?_set_ne z]
      exact st.dat j d' e
  own := fun j l e => by
    by_cases z : i = j
    · subst z
      rw [List.getElem?_set] at e
      by_cases q : i < ρ.length
      · simp only [q, if_true] at e
        cases e
      · simp only [q, if_false, if_true] at e
        cases e
    · rw [List.getElem?_set_ne z] at e
      rw [List.getElem?_set_ne z]
      exact st.own j l e
  sep := fun j k l m a e1 e2 e3 e4 => by
    have nj : ∀ {j l}, (ρ.set i (some (.dat d)))[j]? = some (some (.own l)) → i ≠ j := fun {j l} e z => by
      subst z
      rw [List.getElem?_set] at e
      by_cases q : i < ρ.length
      · simp only [q, if_true] at e
        cases e
      · simp only [q, if_false, if_true] at e
        cases e
    have n1 := nj e1
    have n2 := nj e2
    rw [List.getElem?_set_ne n1] at e1 e3
    rw [List.getElem?_set_ne n2] at e2 e4
    exact st.sep j k l m a e1 e2 e3 e4
  pt := fun j e => by
    by_cases z : i = j
    · subst z
      rw [List.getElem?_set] at e
      by_cases q : i < ρ.length
      · simp only [q, if_true] at e
        cases e
      · simp only [q, if_false, if_true] at e
        cases e
    · rw [List.getElem?_set_ne z] at e
      rw [List.getElem?_set_ne z]
      exact st.pt j e
  len := by rw [List.length_set, List.length_set]; exact st.len
theorem st_setO (st : StOk K F σ H Hs ρ θ) (i : Nat) {a : Addr} {xs : List V} {m : List Dt} (e1 : H a = some (.lst xs)) (e2 : Reps K Hs m xs) (e3 : Hs a = none) (e4 : F.H0 a = none) (e5 : F.ap ≠ some a)
    (e6 : ∀ (j : Nat) (l : List Dt), j ≠ i → ρ[j]? = some (some (.own l)) → σ[j]? ≠ some (some (.ref a))) : StOk K F (σ.set i (some (.ref a))) H Hs (ρ.set i (some (.own m))) θ where
  sub := st.sub
  hap := st.hap
  pot := st.pot
  old := st.old
  frs := st.frs
  dat := fun j d' e => by
    by_cases z : i = j
    · subst z
      rw [List.getElem?_set] at e
      by_cases q : i < ρ.length
      · simp only [q, if_true] at e
        cases e
      · simp only [q, if_false, if_true] at e
        cases e
    · rw [List.getElem?_set_ne z] at e
      rw [List.getElem?_set_ne z]
      exact st.dat j d' e
  own := fun j l e => by
    by_cases z : i = j
    · subst z
      rw [List.getElem?_set] at e
      rw [List.getElem?_set, ← st.len]
      by_cases q : i < ρ.length
      · simp only [q, if_true] at e ⊢
        cases e
        exact ⟨a, xs, rfl, e1, e2, e3, e4, e5⟩
      · simp only [q, if_false, if_true] at e
        cases e
    · rw [List.getElem?_set_ne z] at e
      rw [List.getElem?_set_ne z]
      exact st.own j l e
  sep := fun j k l m' b q1 q2 q3 q4 => by
    by_cases z1 : i = j
    · by_cases z2 : i = k
      · exact z1.symm.trans z2
      · subst z1
        rw [List.getElem?_set_ne z2] at q2 q4
        rw [List.getElem?_set, ← st.len] at q3
        by_cases q : i < ρ.length
        · simp only [q, if_true] at q3
          cases q3
          exact absurd q4 (e6 k m' (fun z => z2 z.symm) q2)
        · simp only [q, if_false, if_true] at q3
          cases q3
    · by_cases z2 : i = k
      · subst z2
        rw [List.getElem?_set_ne z1] at q1 q3
        rw [List.getElem?_set, ← st.len] at q4
        by_cases q : i < ρ.length
        · simp only [q, if_true] at q4
          cases q4
          exact absurd q3 (e6 j l (fun z => z1 z.symm) q1)
        · simp only [q, if_false, if_true] at q4
          cases q4
      · rw [List.getElem?_set_ne z1] at q1 q3
        rw [List.getElem?_set_ne z2] at q2 q4
        exact st.sep j k l m' b q1 q2 q3 q4
  pt := fun j e => by
    by_cases z : i = j
    · subst z
      rw [List.getElem?_set] at e
      by_cases q : i < ρ.length
      · simp only [q, if_true] at e
        cases e
      · simp only [q, if_false, if_true] at e
        cases e
    · rw [List.getElem?_set_ne z] at e
      rw [List.getElem?_set_ne z]
      exact st.pt j e
  len := by rw [List.length_set, List.length_set]; exact st.len
end

section
variable {X : Cx} {F : Fr0} {W : WX} {e : Expr} {st : Stmt} {sts : List Stmt} {pos : Pos}
/-! ### statements -/
def goN (ρ : DEnv) : M Out := fun _ θ => .ok (.next ρ) θ
def mNext : M Out := fun ρ θ => .ok (.next ρ) θ
def mSeq (m n : M Out) : M Out := fun ρ θ => match m ρ θ with
  | .ok (.next ρ') θ' => n ρ' θ'
  | r => r
theorem psd_nil : PSDs X F W [] mNext := by
  refine pss_imp pss_nil fun D σ H h => ?_
  obtain ⟨ρ, θ, Hs, st, h⟩ := h
  exact h σ H Hs (Same.refl _) st
theorem psd_one {m : M Out} (h : PSD X F W st m) : PSDs X F W [st] m := pss_one h
theorem psd_cons {m n : M Out} (h : PSD X F W st m) (g : PSDs X F W sts n) : PSDs X F W (st :: sts) (mSeq m n) := by
  refine pss_imp (pss_cons h g) fun D σ H q => ?_
  obtain ⟨ρ, θ, Hs, st, q⟩ := q
  refine ⟨ρ, θ, Hs, st, ?_⟩
  unfold mSeq at q
  cases e : m ρ θ with
  | ok o θ1 =>
    rw [e] at q
    cases o with
    | next ρ1 => exact fun σ' H' Hs' s st' => ⟨ρ1, θ1, Hs', st', Post.imp q (OkS.anti s) (ExW.anti s)⟩
    | ret r =>
      cases r with
      | d d => exact q
      | o l => exact q
    | brk ρ1 => exact q
    | cnt ρ1 => exact q
  | exn x ρ1 θ1 => rw [e] at q; exact q
  | bad => rw [e] at q; exact q
/-- code that is never come to -/
theorem psd_never : PSD X F W st (fun _ _ => .bad) := ps_imp ps_never fun D σ H h => by
  obtain ⟨ρ, θ, Hs, st, h⟩ := h
  exact h
def mSet (i : Nat) (ma : M Dt) : M Out := bnd ma fun d ρ θ => .ok (.next (ρ.set i (some (.dat d)))) θ
theorem psd_set {ma : M Dt} (i : Nat) {x : Str} {pos' : Pos} (hN : X.N.Nodup) (ha : PD X F W e ma) (hi : X.N[i]? = some x := by rfl) (hx : Loc X.env.scope x := by first | exact Or.inl rfl | exact Or.inr rfl) (hs : swapsWith e (some (.Name x pos')) pos.line X.env = pure false := by rfl)
    (hf : X.fn x = true ∨ X.env.scope.names.lookup x = some .local := by first | exact .inl rfl | exact .inr rfl) : PSD X F W (.Assign [.Name x pos'] e pos) (mSet i ma) := by
  refine ps_imp (ps_set hN hi hx ha hs hf) fun D σ H q => ?_
  obtain ⟨ρ, θ, Hs, st, q⟩ := q
  exact then_D OkS.anti st q fun v d H1 Hs1 θ1 s1 st1 r1 h => h _ H1 Hs1 (Same.refl _) (st_set st1 i r1)
def mSetO (i : Nat) (ma : M (List Dt)) : M Out := bnd ma fun l ρ θ => .ok (.next (ρ.set i (some (.own l)))) θ
theorem psd_setO {ma : M (List Dt)} (i : Nat) {x : Str} {pos' : Pos} (hN : X.N.Nodup) (ha : PO X F W e ma) (hi : X.N[i]? = some x := by rfl) (hx : Loc X.env.scope x := by first | exact Or.inl rfl | exact Or.inr rfl) (hs : swapsWith e (some (.Name x pos')) pos.line X.env = pure false := by rfl)
    (hf : X.fn x = true ∨ X.env.scope.names.lookup x = some .local := by first | exact .inl rfl | exact .inr rfl) : PSD X F W (.Assign [.Name x pos'] e pos) (mSetO i ma) := by
  refine ps_imp (ps_set hN hi hx ha hs hf) fun D σ H q => ?_
  obtain ⟨ρ, θ, Hs, st, q⟩ := q
  exact then_O OkS.anti st q fun a xs l H1 Hs1 θ1 s1 st1 e1 e2 e3 e4 e5 e6 h => h _ H1 Hs1 (Same.refl _) (st_setO st1 i e1 e2 e3 e4 e5 fun j l _ => e6 j l)
/-- a, b = x, y and three, by plain local names -/
def mPar (is : List Nat) (ml : M (List Dt)) : M Out := bnd ml fun l ρ θ => if l.length = is.length then .ok (.next ((is.zip l).foldl (fun ρ p => ρ.set p.1 (some (.dat p.2))) ρ)) θ else .bad
theorem psd_par {i j : Nat} {x y : Str} {a b : Expr} {ml : M (List Dt)} {px py pt : Pos} {kt k2 pt2} (hc : X.calm = true) (hN : X.N.Nodup) (ha : PAD X F W [a, b] ml)
    (hi : X.N[i]? = some x := by rfl) (hj : X.N[j]? = some y := by rfl) (hij : i ≠ j := by decide)
    (hx : X.env.scope.names.lookup x = some .local := by rfl) (hy : X.env.scope.names.lookup y = some .local := by rfl)
    (hw : swappedStores [.Tuple [.Name x px, .Name y py] kt pt] (.Tuple [a, b] k2 pt2) X.env = pure (some [x, y]) := by rfl)
    (hs : swapsWithSole [.Tuple [.Name x px, .Name y py] kt pt] (.Tuple [a, b] k2 pt2) pos.line X.env = pure false := by rfl) :
    PSD X F W (.Assign [.Tuple [.Name x px, .Name y py] kt pt] (.Tuple [a, b] k2 pt2) pos) (mPar [i, j] ml) := by
  refine ps_imp (ps_par hc hN hi hj hij hx hy ha hw hs) fun D σ H q => ?_
  obtain ⟨ρ, θ, Hs, st, q⟩ := q
  refine then_A OkS.anti st q fun vs l H1 Hs1 θ1 s1 st1 r1 h => ?_
  by_cases z : l.length = [i, j].length
  · rw [if_pos z] at h
    match l, z, r1, h with
    | [d1, d2], _, r1, h =>
      obtain ⟨v1, r, rfl, q1, v2, r', rfl, q2, rfl⟩ := r1
      exact ⟨v1, v2, rfl, h _ H1 Hs1 (Same.refl _) (st_set (st_set st1 i q1) j q2)⟩
  · rw [if_neg z] at h
    exact h.elim
def mRet (ma : M Dt) : M Out := bnd ma fun d _ θ => .ok (.ret (.d d)) θ
theorem psd_ret {ma : M Dt} (ha : PD X F W e ma) : PSD X F W (.Return (some e) pos) (mRet ma) := by
  refine ps_imp (ps_ret ha) fun D σ H q => ?_
  obtain ⟨ρ, θ, Hs, st, q⟩ := q
  exact then_D OkS.anti st q fun v d H1 Hs1 θ1 s1 st1 r1 h => h σ H1 Hs1 (Same.refl _) ρ v st1 r1
def mRetO (ma : M (List Dt)) : M Out := bnd ma fun l _ θ => .ok (.ret (.o l)) θ
theorem psd_retO {ma : M (List Dt)} (ha : PO X F W e ma) : PSD X F W (.Return (some e) pos) (mRetO ma) := by
  refine ps_imp (ps_ret ha) fun D σ H q => ?_
  obtain ⟨ρ, θ, Hs, st, q⟩ := q
  exact then_O OkS.anti st q fun a xs l H1 Hs1 θ1 s1 st1 e1 e2 e3 e4 e5 e6 h => h σ H1 Hs1 (Same.refl _) ρ a xs st1 e1 e2 e3 e4 e5
/-- return of a name that holds a list of one's own -/
def mRetV (i : Nat) : M Out := fun ρ θ => match ρ[i]? with
  | some (some (.own l)) => .ok (.ret (.o l)) θ
  | some (some (.dat d)) => .ok (.ret (.d d)) θ
  | _ => .bad
theorem psd_retV (i : Nat) {x : Str} {p : Pos} (hN : X.N[i]? = some x := by rfl) (hv : Vis X.env.scope x := by first | exact Or.inl rfl | exact Or.inr (Or.inl rfl) | exact Or.inr (Or.inr rfl)) (hd : (x == ("__debug__" : Str)) = false := by decide)
    (hcd : (x == ("__classdict__" : Str)) = false := by decide) : PSD X F W (.Return (some (.Name x p)) pos) (mRetV i) := by
  refine ps_imp (ps_ret (pe_var hN hv hd hcd)) fun D σ H q => ?_
  obtain ⟨ρ, θ, Hs, st, q⟩ := q
  unfold mRetV at q
  split at q
  · rename_i l e
    obtain ⟨a, xs, e1, e2, e3, e4, e5, e6⟩ := st.own i l e
    exact ⟨_, e1, q σ H Hs (Same.refl _) ρ a xs st e2 e3 e4 e5 e6⟩
  · rename_i d e
    obtain ⟨v, e1, e2⟩ := st.dat i d e
    exact ⟨v, e1, q σ H Hs (Same.refl _) ρ v st e2⟩
  · exact q.elim
def mRetN : M Out := fun _ θ => .ok (.ret (.d .non)) θ
theorem psd_retN : PSD X F W (.Return none pos) mRetN := by
  refine ps_imp ps_retN fun D σ H q => ?_
  obtain ⟨ρ, θ, Hs, st, q⟩ := q
  exact q σ H Hs (Same.refl _) ρ _ st rfl
def mIf (mc : M Bool) (m n : M Out) : M Out := bnd mc fun k => if k = true then m else n
theorem psd_if {c : Expr} {a b : List Stmt} {mc : M Bool} {m n : M Out} (hc : PTD X F W c mc) (ha : PSDs X F W a m) (hb : PSDs X F W b n) : PSD X F W (.If c a b pos) (mIf mc m n) := by
  refine ps_imp (ps_if hc ha hb) fun D σ H h => ?_
  obtain ⟨ρ, θ, Hs, st, h⟩ := h
  refine then_T OkS.anti st h fun k H1 Hs1 θ1 s1 st1 h => ?_
  cases k with
  | true => exact ⟨ρ, θ1, Hs1, st1, h⟩
  | false => exact ⟨ρ, θ1, Hs1, st1, h⟩
def mExpr (ma : M Dt) : M Out := bnd ma fun _ ρ θ => .ok (.next ρ) θ
theorem psd_expr {ma : M Dt} (ha : PD X F W e ma) (hs : swapsWith e none pos.line X.env = pure false := by rfl) : PSD X F W (.Expr e pos) (mExpr ma) := by
  refine ps_imp (ps_expr ha hs) fun D σ H q => ?_
  obtain ⟨ρ, θ, Hs, st, q⟩ := q
  exact then_D OkS.anti st q fun v d H1 Hs1 θ1 s1 st1 r1 h => h σ H1 Hs1 (Same.refl _) st1
theorem psd_pass : PSD X F W (.Pass pos) mNext := by
  refine ps_imp ps_pass fun D σ H h => ?_
  obtain ⟨ρ, θ, Hs, st, h⟩ := h
  exact h σ H Hs (Same.refl _) st
def mBrk : M Out := fun ρ θ => .ok (.brk ρ) θ
def mCnt : M Out := fun ρ θ => .ok (.cnt ρ) θ
theorem psd_brk : PSD X F W (.Break pos) mBrk := by
  refine ps_imp ps_break fun D σ H h => ?_
  obtain ⟨ρ, θ, Hs, st, h⟩ := h
  exact h σ H Hs (Same.refl _) st
theorem psd_cnt : PSD X F W (.Continue pos) mCnt := by
  refine ps_imp ps_continue fun D σ H h => ?_
  obtain ⟨ρ, θ, Hs, st, h⟩ := h
  exact h σ H Hs (Same.refl _) st
end

/-! ### what a def promises -/
def Ents (K : PySem.W.Frag) (ap : Option Addr) (Hs : Hp) : List Ent → List V → Prop
  | [], vs => vs = []
  | .dat d :: es, vs => ∃ v r, vs = v :: r ∧ Rep K Hs d v ∧ Ents K ap Hs es r
  | .pot :: es, vs => ∃ p r, vs = .ref p :: r ∧ ap = some p ∧ Ents K ap Hs es r
  | .own _ :: _, _ => False
/-- behind a def -/
structure FnEnd (ap : Option Addr) (Hs H Hs' H' : Hp) (θ : Pot) : Prop where
  s : Same Hs Hs'
  i : Same Hs' H'
  hap : ∀ p, ap = some p → Hs' p = none
  pot : PotAt H' ap θ
  old : ∀ b o, ap ≠ some b → H b = some o → H' b = some o
  n : ∀ b, H b ≠ none → Hs' b = Hs b
def RepR (K : PySem.W.Frag) (H Hs' H' : Hp) : Ret → V → Prop
  | .d d, v => Rep K Hs' d v
  | .o l, v => ∃ a xs, v = .ref a ∧ H' a = some (.lst xs) ∧ Reps K Hs' l xs ∧ Hs' a = none ∧ H a = none
abbrev Mir := List Ent → Pot → Res Ret
def spF (K : PySem.W.Frag) (mg : Str → Option Value) (n : Nat) (m : Mir) : Sp := fun vs H Q E => vs.length = n ∧ ∃ ap Hs es θ, Same Hs H ∧ (∀ p, ap = some p → Hs p = none) ∧ PotAt H ap θ ∧ Ents K ap Hs es vs ∧
  Post (m es θ) (fun r θ' => ∀ v H' Hs', FnEnd ap Hs H Hs' H' θ' → RepR K H Hs' H' r v → Q v H') (fun e _ θ' => ∀ c dd H' Hs', FnEnd ap Hs H Hs' H' θ' → ExcAt K mg Hs' H' e c dd → E c dd H')
/-- a def as it stands, by its mirror; nothing is being shown by repr where it is called -/
structure FnP (P : Program) (w : World) (K : PySem.W.Frag) (mg : Str → Option Value) (base : Heap) (k : Nat) (f : Addr) (fd : FuncData) (ps : List Str) (m : Mir) : Prop where
  run : ∀ (A : Around) (outer : List Env) (s : Shared) (H : Hp) (args : Args) (us : List Value) (vs : List V) (Q : VK) (E : XK), Room k A → A.guards = some [] → Env0 P w K mg base A outer s H → BindsTo s fd args (ps.zip us) → Vals vs us →
    spF K mg ps.length m vs H Q E → codeAny (model P w) A (.call (.ref f) args) (CR (L2.CX P w) outer P w H s Q E) s
/-- a def's mirror by its body's -/
def mFn (n : Nat) (m : M Out) : Mir := fun es θ => match m (es.map some ++ List.replicate (n - es.length) none) θ with
  | .ok (.next _) θ' => .ok (.d .non) θ'
  | .ok (.ret r) θ' => .ok r θ'
  | .exn e _ θ' => .exn e [] θ'
  | _ => .bad
theorem ents_len {K : PySem.W.Frag} {ap : Option Addr} {Hs : Hp} : ∀ {es : List Ent} {vs : List V}, Ents K ap Hs es vs → es.length = vs.length
  | [], _, h => by rw [show _ = _ from h]; rfl
  | .dat d :: es, _, h => by
    obtain ⟨v, r, rfl, _, h2⟩ := h
    rw [List.length_cons, List.length_cons, ents_len h2]
  | .pot :: es, _, h => by
    obtain ⟨v, r, rfl, _, h2⟩ := h
    rw [List.length_cons, List.length_cons, ents_len h2]
  | .own _ :: _, _, h => h.elim
theorem ents_dat {K : PySem.W.Frag} {ap : Option Addr} {Hs : Hp} : ∀ {es : List Ent} {vs : List V} {i : Nat} {d : Dt}, Ents K ap Hs es vs → es[i]? = some (.dat d) → ∃ v, vs[i]? = some v ∧ Rep K Hs d v
  | [], _, _, _, _, e => by simp at e
  | .dat d :: es, _, 0, _, h, e => by
    obtain ⟨v, r, rfl, h1, h2⟩ := h
    simp at e
    subst e
    exact ⟨v, rfl, h1⟩
  | .pot :: es, _, 0, _, h, e => by simp at e
  | .own _ :: _, _, _, _, h, _ => h.elim
  | .dat d :: es, _, i + 1, _, h, e => by
    obtain ⟨v, r, rfl, h1, h2⟩ := h
    obtain ⟨u, e1, e2⟩ := ents_dat h2 (by simpa using e)
    exact ⟨u, by simpa using e1, e2⟩
  | .pot :: es, _, i + 1, _, h, e => by
    obtain ⟨v, r, rfl, h1, h2⟩ := h
    obtain ⟨u, e1, e2⟩ := ents_dat h2 (by simpa using e)
    exact ⟨u, by simpa using e1, e2⟩
theorem ents_pot {K : PySem.W.Frag} {ap : Option Addr} {Hs : Hp} : ∀ {es : List Ent} {vs : List V} {i : Nat}, Ents K ap Hs es vs → es[i]? = some .pot → ∃ p, ap = some p ∧ vs[i]? = some (.ref p)
  | [], _, _, _, e => by simp at e
  | .pot :: es, _, 0, h, e => by
    obtain ⟨p, r, rfl, h1, h2⟩ := h
    exact ⟨p, h1, rfl⟩
  | .dat d :: es, _, 0, h, e => by simp at e
  | .own _ :: _, _, _, h, _ => h.elim
  | .dat d :: es, _, i + 1, h, e => by
    obtain ⟨v, r, rfl, h1, h2⟩ := h
    obtain ⟨u, e1, e2⟩ := ents_pot h2 (by simpa using e)
    exact ⟨u, e1, by simpa using e2⟩
  | .pot :: es, _, i + 1, h, e => by
    obtain ⟨v, r, rfl, h1, h2⟩ := h
    obtain ⟨u, e1, e2⟩ := ents_pot h2 (by simpa using e)
    exact ⟨u, e1, by simpa using e2⟩
theorem ents_own {K : PySem.W.Frag} {ap : Option Addr} {Hs : Hp} : ∀ {es : List Ent} {vs : List V} {i : Nat} {l : List Dt}, Ents K ap Hs es vs → es[i]? = some (.own l) → False
  | [], _, _, _, _, e => by simp at e
  | .own _ :: _, _, _, _, h, _ => h.elim
  | .dat d :: es, _, 0, _, h, e => by simp at e
  | .pot :: es, _, 0, _, h, e => by simp at e
  | .dat d :: es, _, i + 1, _, h, e => by
    obtain ⟨v, r, rfl, h1, h2⟩ := h
    exact ents_own h2 (by simpa using e)
  | .pot :: es, _, i + 1, _, h, e => by
    obtain ⟨v, r, rfl, h1, h2⟩ := h
    exact ents_own h2 (by simpa using e)
theorem start_at {es : List Ent} {n i : Nat} {x : Ent} (h : (es.map some ++ List.replicate (n - es.length) none)[i]? = some (some x)) : es[i]? = some x := by
  by_cases q : i < es.length
  · rw [List.getElem?_append_left (by simpa using q), List.getElem?_map] at h
    cases e : es[i]? with
    | none => rw [e] at h; cases h
    | some y => rw [e] at h; cases h; rfl
  · rw [List.getElem?_append_right (by simpa using q), List.getElem?_replicate] at h
    split at h <;> cases h
theorem start_val {N : List Str} {vs : List V} {i : Nat} {v : V} (h : vs[i]? = some v) : (L2.start N vs)[i]? = some (some v) := by
  have q : i < vs.length := (List.getElem?_eq_some_iff.mp h).1
  unfold L2.start
  rw [List.getElem?_append_left (by simpa using q), List.getElem?_map, h]
  rfl
/-- THE RULE of a def -/
theorem fnp {P : Program} {w : World} {K : PySem.W.Frag} {mg : Str → Option Value} {base : Heap} {k : Nat} {f : Addr} {fd : FuncData} {x qual : Str} {params : Arguments} {body : List Stmt} {scope : Scope} {dvs : List V} {kws : List (Str × V)} {N ps : List Str} {m : M Out}
    (T : FunD K x qual params body scope dvs kws f fd) (S : FnScope N ps scope)
    (hb : ∀ (cdv : Value) (A : Around) (outer : List Env) (s : Shared) (H : Hp) (E : XK) (F : Fr0), Room k (A.deeper (envOfC qual scope s.heap.objs.size f cdv)) → (A.deeper (envOfC qual scope s.heap.objs.size f cdv)).guards = some [] →
      PSDs (cxOf (L2.CX P w) P w K mg base N qual scope f cdv A outer s H E) F (fun c d _ H' => E c d H') body m) : FnP P w K mg base (k + 1) f fd ps (mFn N.length m) := by
  obtain ⟨oc, od, dV, kV, doc, pm, an, cdv, ct, osl, rfl, lk, hcd, _, _⟩ := T.ex
  refine ⟨fun A outer s H args us vs Q E hr hg e0 hbd r hsp => ?_⟩
  obtain ⟨hl, ap, Hs, es, θ, hsub, hap, hpot, hes, post⟩ := hsp
  have KX : K.In s.heap := e0.mod.kin.keeps fun b o z => (e0.bs b o z).1
  have lim : s.heap.NoLimit := e0.mod.nolimit.keeps fun b o z => (e0.bs b o z).1
  have kinds : ∀ y ∈ ps.zip us, scope.names.lookup y.1 = some .local ∨ (scope.names.lookup y.1 = some .cell ∧ ((cellsFrom (s.heap.objs.size + 1) scope.names []).lookup y.1).isSome = true) := by
    rintro ⟨n, v⟩ hy
    refine (S.par n (List.of_mem_zip hy).1).imp id fun q => ⟨q, ?_⟩
    exact PySem.W.cellsFrom_some _ _ _ (Or.inl q)
  refine codeAny_call_function hr.depth (KX _ _ lk) rfl S.co S.gen rfl (PySem.W.codeRec_of KX hcd) (hbd _ _ _ _ ?_)
  refine wpAny_newFunctionEnv_cells S.kind kinds fun env he s1 x1 => ?_
  cases he
  refine ⟨lim.keeps x1.toInCall.keep, codeAny_func ?_⟩
  have I := inv_start (CX := L2.CX P w) (E := E) S hr.hd e0 hl r x1
  have gd : (A.deeper (envOfC qual scope s.heap.objs.size f cdv)).guards = some [] := hg
  have B := hb cdv A outer s H E ⟨ap, H, Hs⟩ (hr.deeper _) gd
  have lenS : (L2.start N vs).length = N.length := by
    have hpl : ps.length ≤ N.length := by
      have z := congrArg List.length S.pre
      rw [List.length_take] at z
      omega
    unfold L2.start
    rw [List.length_append, List.length_map, List.length_replicate]
    omega
  have le := ents_len hes
  have st0 : StOk K ⟨ap, H, Hs⟩ (L2.start N vs) H Hs (es.map some ++ List.replicate (N.length - es.length) none) θ := by
    refine ⟨hsub, hap, hpot, fun b o _ z => z, fun b _ => rfl, fun i d z => ?_, fun i l z => ?_, fun i j l m a z => ?_, fun i z => ?_, ?_⟩
    · obtain ⟨v, e1, e2⟩ := ents_dat hes (start_at z)
      exact ⟨v, start_val e1, e2⟩
    · exact (ents_own hes (start_at z)).elim
    · exact (ents_own hes (start_at z)).elim
    · obtain ⟨p, e1, e2⟩ := ents_pot hes (start_at z)
      exact ⟨p, e1, start_val e2⟩
    · rw [lenS, List.length_append, List.length_map, List.length_replicate, le, hl]
      have hpl : ps.length ≤ N.length := by
        have z := congrArg List.length S.pre
        rw [List.length_take] at z
        omega
      omega
  have fe : ∀ {σ' : L2.St} {ρ' : DEnv} {H' Hs' : Hp} {θ' : Pot}, Same Hs Hs' → StOk K ⟨ap, H, Hs⟩ σ' H' Hs' ρ' θ' → FnEnd ap Hs H Hs' H' θ' := fun s' st' => ⟨s', st'.sub, st'.hap, st'.pot, st'.old, st'.frs⟩
  have body : tS (cxOf (L2.CX P w) P w K mg base N qual scope f cdv A outer s H E) ⟨ap, H, Hs⟩ (fun c d _ H' => E c d H') m { nx := fun _ H' => Q .non H', rt := Q } (L2.start N vs) H := by
    refine ⟨_, θ, Hs, st0, ?_⟩
    unfold mFn at post
    cases em : m (es.map some ++ List.replicate (N.length - es.length) none) θ with
    | ok o θ1 =>
      rw [em] at post
      cases o with
      | next ρ1 => exact fun σ' H' Hs' s' st' => post .non H' Hs' (fe s' st') rfl
      | ret r =>
        cases r with
        | d d => exact fun σ' H' Hs' s' ρ' v st' rv => post v H' Hs' (fe s' st') rv
        | o l => exact fun σ' H' Hs' s' ρ' a xs st' e1 e2 e3 e4 e5 => post (.ref a) H' Hs' (fe s' st') ⟨a, xs, rfl, e1, e2, e3, e4⟩
      | brk ρ1 => exact post.elim
      | cnt ρ1 => exact post.elim
    | exn e ρ1 θ1 =>
      rw [em] at post
      exact fun c dd σ' H' Hs' s' st' x => post c dd H' Hs' (fe s' st') x
    | bad =>
      rw [em] at post
      exact post.elim
  refine wpAny_mono (B.run [] s1 (L2.start N vs) H _ I body) (fun fl s' hs => ?_) fun e s' hs => hs
  cases fl with
  | ret u =>
    obtain ⟨v, σ', H', J, rv, q⟩ := hs
    exact ⟨v, H', J.os, J.bare, J.base, J.hok, rv, q⟩
  | next =>
    obtain ⟨σ', H', J, q⟩ := hs
    exact ⟨V.non, H', J.os, J.bare, J.base, J.hok, (rfl : (Value.none : Value) = _), q⟩
  | brk =>
    obtain ⟨_, _, _, q⟩ := hs
    exact q.elim
  | cont =>
    obtain ⟨_, _, _, q⟩ := hs
    exact q.elim
end Pd


namespace Pd
open PySem PySem.Spec PyProof.Rows L2
/-! ### calls of defs -/
theorem ents_mono {K : PySem.W.Frag} {ap : Option Addr} {Hs Hs' : Hp} (s : Same Hs Hs') : ∀ {es : List Ent} {vs : List V}, Ents K ap Hs es vs → Ents K ap Hs' es vs
  | [], _, h => h
  | .dat d :: es, _, h => by
    obtain ⟨v, r, rfl, h1, h2⟩ := h
    exact ⟨v, r, rfl, Rep.mono s d h1, ents_mono s h2⟩
  | .pot :: es, _, h => by
    obtain ⟨v, r, rfl, h1, h2⟩ := h
    exact ⟨v, r, rfl, h1, ents_mono s h2⟩
  | .own _ :: _, _, h => h.elim
theorem ents_append {K : PySem.W.Frag} {ap : Option Addr} {Hs : Hp} : ∀ {es fs : List Ent} {vs us : List V}, Ents K ap Hs es vs → Ents K ap Hs fs us → Ents K ap Hs (es ++ fs) (vs ++ us)
  | [], _, _, _, h, g => by rw [show _ = _ from h]; exact g
  | .dat d :: es, _, _, _, h, g => by
    obtain ⟨v, r, rfl, h1, h2⟩ := h
    exact ⟨v, _, rfl, h1, ents_append h2 g⟩
  | .pot :: es, _, _, _, h, g => by
    obtain ⟨v, r, rfl, h1, h2⟩ := h
    exact ⟨v, _, rfl, h1, ents_append h2 g⟩
  | .own _ :: _, _, _, _, h, _ => h.elim
/-- items by places -/
def pick {α : Type} (is : List Nat) (l : List α) : List α := is.filterMap fun i => l[i]?
theorem ents_one {K : PySem.W.Frag} {ap : Option Addr} {Hs : Hp} {e : Ent} {v : V} {es : List Ent} {vs : List V} {i : Nat} (h : Ents K ap Hs es vs) (q : es[i]? = some e) (p : vs[i]? = some v) {fs : List Ent} {us : List V} (g : Ents K ap Hs fs us) : Ents K ap Hs (e :: fs) (v :: us) := by
  cases e with
  | dat d =>
    obtain ⟨u, e1, e2⟩ := ents_dat h q
    rw [p] at e1
    cases e1
    exact ⟨v, us, rfl, e2, g⟩
  | pot =>
    obtain ⟨a, e1, e2⟩ := ents_pot h q
    rw [p] at e2
    cases e2
    exact ⟨a, us, rfl, e1, g⟩
  | own l => exact (ents_own h q).elim
theorem ents_pick {K : PySem.W.Frag} {ap : Option Addr} {Hs : Hp} {es : List Ent} {vs : List V} (h : Ents K ap Hs es vs) : ∀ is : List Nat, Ents K ap Hs (pick is es) (pick is vs)
  | [] => rfl
  | i :: is => by
    have ih := ents_pick h is
    have le := ents_len h
    unfold pick
    rw [List.filterMap_cons, List.filterMap_cons]
    by_cases q : i < es.length
    · have q2 : i < vs.length := by omega
      rw [List.getElem?_eq_getElem q, List.getElem?_eq_getElem q2]
      exact ents_one h (List.getElem?_eq_getElem q) (List.getElem?_eq_getElem q2) ih
    · rw [List.getElem?_eq_none (by omega), List.getElem?_eq_none (by omega)]
      exact ih
theorem vals_pick {vs : List V} {us : List Value} (h : Vals vs us) : ∀ is : List Nat, Vals (pick is vs) (pick is us)
  | [] => .nil
  | i :: is => by
    have ih := vals_pick h is
    have le := h.length
    unfold pick
    rw [List.filterMap_cons, List.filterMap_cons]
    by_cases q : i < vs.length
    · obtain ⟨u, e1, e2⟩ := h.get (List.getElem?_eq_getElem q)
      rw [List.getElem?_eq_getElem q, e1]
      exact .cons e2 ih
    · rw [List.getElem?_eq_none (by omega), List.getElem?_eq_none (by omega)]
      exact ih

section
variable {X : Cx} {F : Fr0} {W : WX} {a b c : Expr} {es : List Expr} {pos p : Pos} {x : Str}
def OkE (X : Cx) (F : Fr0) (σ : L2.St) (ρ : DEnv) (Q : List V → Hp → Prop) (Hs : Hp) : List Ent → Pot → Prop := fun l θ' => ∀ vs H' Hs', Same Hs Hs' → StOk X.K F σ H' Hs' ρ θ' → Ents X.K F.ap Hs' l vs → Q vs H'
theorem OkE.anti {σ : L2.St} {ρ : DEnv} {Q : List V → Hp → Prop} {Hs Hs1 : Hp} (s : Same Hs Hs1) : ∀ d θ, OkE X F σ ρ Q Hs d θ → OkE X F σ ρ Q Hs1 d θ := fun _ _ h vs H' Hs' s' => h vs H' Hs' (s.trans s')
def tE (X : Cx) (F : Fr0) (W : WX) (m : M (List Ent)) : TA := fun σ H Q => ∃ ρ θ Hs, StOk X.K F σ H Hs ρ θ ∧ Post (m ρ θ) (OkE X F σ ρ Q Hs) (ExW X F W Hs)
def PAE (X : Cx) (F : Fr0) (W : WX) (es : List Expr) (m : M (List Ent)) : Prop := PA X es (tE X F W m)
def PKE (X : Cx) (F : Fr0) (W : WX) (kws : List Keyword) (m : M (List Ent)) : Prop := PK X kws (tE X F W m)
theorem pk_imp {kws : List Keyword} {t t' : TA} (h : PK X kws t) (i : ∀ σ H Q, t' σ H Q → t σ H Q) : PK X kws t' := ⟨fun pos pins s σ H Q I q => h.run pos pins s σ H Q I (i σ H Q q)⟩
theorem then_E {β : Type} {m : M (List Ent)} {f : List Ent → M β} {okb : Hp → β → Pot → Prop} {Q : List V → Hp → Prop} {σ : L2.St} {H Hs : Hp} {ρ : DEnv} {θ : Pot} (anti : ∀ {Hs Hs1}, Same Hs Hs1 → ∀ b θ, okb Hs b θ → okb Hs1 b θ) (st : StOk X.K F σ H Hs ρ θ) (hp : Post (bnd m f ρ θ) (okb Hs) (ExW X F W Hs))
    (k : ∀ vs l H' Hs' θ', Same Hs Hs' → StOk X.K F σ H' Hs' ρ θ' → Ents X.K F.ap Hs' l vs → Post (f l ρ θ') (okb Hs') (ExW X F W Hs') → Q vs H') : tE X F W m σ H Q :=
  ⟨ρ, θ, Hs, st, (post_bnd hp).imp (fun d θ' q v H' Hs' s st' r => k v d H' Hs' θ' s st' r (q.imp (anti s) (ExW.anti s))) fun _ _ _ q => q⟩
def mENil : M (List Ent) := ret []
def mECons (ma : M Dt) (mr : M (List Ent)) : M (List Ent) := bnd ma fun d => bnd mr fun l => ret (.dat d :: l)
def mEPot (i : Nat) (mr : M (List Ent)) : M (List Ent) := fun ρ θ => match ρ[i]? with
  | some (some .pot) => bnd mr (fun l => ret (.pot :: l)) ρ θ
  | _ => .bad
theorem pae_nil : PAE X F W [] mENil := by
  refine pa_imp pa_nil fun σ H Q h => ?_
  obtain ⟨ρ, θ, Hs, st, h⟩ := h
  exact h [] H Hs (Same.refl _) st rfl
theorem econs_run {ma : M Dt} {mr : M (List Ent)} {σ : L2.St} {H : Hp} {Q : List V → Hp → Prop} (h : tE X F W (mECons ma mr) σ H Q) : tCons (tD X F W ma) (tE X F W mr) σ H Q := by
  obtain ⟨ρ, θ, Hs, st, h⟩ := h
  refine then_D OkE.anti st h fun x dx H1 Hs1 θ1 s1 st1 r1 h => ?_
  refine then_E OkE.anti st1 h fun xs l H2 Hs2 θ2 s2 st2 r2 h => ?_
  exact h (x :: xs) H2 Hs2 (Same.refl _) st2 ⟨x, xs, rfl, Rep.mono s2 dx r1, r2⟩
theorem epot_run {i : Nat} {mr : M (List Ent)} {σ : L2.St} {H : Hp} {Q : List V → Hp → Prop} (h : tE X F W (mEPot i mr) σ H Q) : tCons (tVar i) (tE X F W mr) σ H Q := by
  obtain ⟨ρ, θ, Hs, st, h⟩ := h
  unfold mEPot at h
  split at h
  · rename_i e
    obtain ⟨q, e1, e2⟩ := st.pt i e
    refine ⟨.ref q, e2, ?_⟩
    refine then_E OkE.anti st h fun xs l H2 Hs2 θ2 s2 st2 r2 h => ?_
    exact h (.ref q :: xs) H2 Hs2 (Same.refl _) st2 ⟨q, xs, rfl, e1, r2⟩
  · exact h.elim
theorem pae_d {ma : M Dt} {mr : M (List Ent)} (ha : PD X F W a ma) (hr : PAE X F W es mr) (hs : starEach (a :: es) X.env = (false, eval a X.env) :: starEach es X.env := by rfl) : PAE X F W (a :: es) (mECons ma mr) :=
  pa_imp (pa_cons ha hr hs) fun _ _ _ h => econs_run h
theorem pae_p (i : Nat) {y : Str} {mr : M (List Ent)} (hr : PAE X F W es mr) (hN : X.N[i]? = some y := by rfl) (hv : Vis X.env.scope y := by first | exact Or.inl rfl | exact Or.inr (Or.inl rfl) | exact Or.inr (Or.inr rfl)) (hd : (y == ("__debug__" : Str)) = false := by decide)
    (hcd : (y == ("__classdict__" : Str)) = false := by decide) (hs : starEach (.Name y p :: es) X.env = (false, eval (.Name y p) X.env) :: starEach es X.env := by rfl) : PAE X F W (.Name y p :: es) (mEPot i mr) :=
  pa_imp (pa_cons (pe_var hN hv hd hcd) hr hs) fun _ _ _ h => epot_run h
theorem pke_nil : PKE X F W [] mENil := by
  refine pk_imp pk_nil fun σ H Q h => ?_
  obtain ⟨ρ, θ, Hs, st, h⟩ := h
  exact h [] H Hs (Same.refl _) st rfl
theorem pke_d {nm : Option Str} {kpos : Pos} {kws : List Keyword} {ma : M Dt} {mr : M (List Ent)} (ha : PD X F W a ma) (hr : PKE X F W kws mr) : PKE X F W (⟨nm, a, kpos⟩ :: kws) (mECons ma mr) :=
  pk_imp (pk_cons ha hr) fun _ _ _ h => econs_run h
theorem pke_p (i : Nat) {y : Str} {nm : Option Str} {kpos : Pos} {kws : List Keyword} {mr : M (List Ent)} (hr : PKE X F W kws mr) (hN : X.N[i]? = some y := by rfl) (hv : Vis X.env.scope y := by first | exact Or.inl rfl | exact Or.inr (Or.inl rfl) | exact Or.inr (Or.inr rfl)) (hd : (y == ("__debug__" : Str)) = false := by decide)
    (hcd : (y == ("__classdict__" : Str)) = false := by decide) : PKE X F W (⟨nm, .Name y p, kpos⟩ :: kws) (mEPot i mr) :=
  pk_imp (pk_cons (pe_var hN hv hd hcd) hr) fun _ _ _ h => epot_run h
def LenE (m : M (List Ent)) (n : Nat) : Prop := ∀ ρ θ l θ', m ρ θ = .ok l θ' → l.length = n
theorem lenE_nil : LenE mENil 0 := fun ρ θ l θ' e => by cases e; rfl
theorem lenE_cons {ma : M Dt} {mr : M (List Ent)} {n : Nat} (h : LenE mr n) : LenE (mECons ma mr) (n + 1) := fun ρ θ l θ' e => by
  obtain ⟨d, θ1, _, e2⟩ := bnd_ok e
  obtain ⟨l2, θ2, e3, e4⟩ := bnd_ok e2
  cases e4
  rw [List.length_cons, h ρ θ1 l2 _ e3]
theorem lenE_pot {i : Nat} {mr : M (List Ent)} {n : Nat} (h : LenE mr n) : LenE (mEPot i mr) (n + 1) := fun ρ θ l θ' e => by
  unfold mEPot at e
  split at e
  · obtain ⟨l2, θ2, e3, e4⟩ := bnd_ok e
    cases e4
    rw [List.length_cons, h ρ θ l2 _ e3]
  · cases e

theorem st_end {σ : L2.St} {ρ : DEnv} {H Hs H' Hs' : Hp} {θ θ' : Pot} (st : StOk X.K F σ H Hs ρ θ) (e : FnEnd F.ap Hs H Hs' H' θ') : StOk X.K F σ H' Hs' ρ θ' where
  sub := e.i
  hap := e.hap
  pot := e.pot
  old := fun b o h1 h2 => e.old b o h1 (st.old b o h1 h2)
  frs := fun b hb => (e.n b (st.H0H hb)).trans (st.frs b hb)
  dat := fun i d z => by
    obtain ⟨v, e1, e2⟩ := st.dat i d z
    exact ⟨v, e1, Rep.mono e.s d e2⟩
  own := fun i l z => by
    obtain ⟨a, xs, e1, e2, e3, e4, e5, e6⟩ := st.own i l z
    exact ⟨a, xs, e1, e.old _ _ e6 e2, Reps.mono e.s l e3, (e.n a (by rw [e2]; exact fun z => nomatch z)).trans e4, e5, e6⟩
  sep := st.sep
  pt := st.pt
  len := st.len

/-- what a call hands on -/
def callD (f : Mir) (es : List Ent) : M Dt := fun ρ θ => match f es θ with
  | .ok (.d d) θ' => .ok d θ'
  | .ok (.o l) θ' => .ok (.lst l) θ'
  | .exn e _ θ' => .exn e ρ θ'
  | .bad => .bad
def callO (f : Mir) (es : List Ent) : M (List Dt) := fun ρ θ => match f es θ with
  | .ok (.o l) θ' => .ok l θ'
  | .exn e _ θ' => .exn e ρ θ'
  | _ => .bad
theorem callD_sp {f : Mir} {n : Nat} {es : List Ent} {vs : List V} {σ : L2.St} {ρ : DEnv} {H Hs : Hp} {θ : Pot} {Q : VK} (st : StOk X.K F σ H Hs ρ θ) (hl : vs.length = n) (he : Ents X.K F.ap Hs es vs) (h : Post (callD f es ρ θ) (OkD X F σ ρ Q Hs) (ExW X F W Hs)) : spF X.K X.mg n f vs H Q (fun c d H' => W c d σ H') := by
  refine ⟨hl, F.ap, Hs, es, θ, st.sub, st.hap, st.pot, he, ?_⟩
  unfold callD at h
  cases e : f es θ with
  | ok r θ1 =>
    rw [e] at h
    cases r with
    | d d => exact fun v H' Hs' fe rv => h v H' Hs' fe.s (st_end st fe) rv
    | o l =>
      rintro v H' Hs' fe ⟨a, xs, rfl, e1, e2, e3, e4⟩
      have st' := st_end st fe
      refine h (.ref a) H' _ (fe.s.trans (same_upd e3)) (st_freeze st' e1 e3 (h0_none st e4) (ap_ne st e4) (own_ne st e4)) ⟨a, xs, rfl, SqL.of upd_same, Reps.mono (same_upd e3) l e2⟩
  | exn x ρ1 θ1 =>
    rw [e] at h
    exact fun c dd H' Hs' fe xa => h c dd σ H' Hs' fe.s (st_end st fe) xa
  | bad =>
    rw [e] at h
    exact h
theorem callO_sp {f : Mir} {n : Nat} {es : List Ent} {vs : List V} {σ : L2.St} {ρ : DEnv} {H Hs : Hp} {θ : Pot} {Q : VK} (st : StOk X.K F σ H Hs ρ θ) (hl : vs.length = n) (he : Ents X.K F.ap Hs es vs) (h : Post (callO f es ρ θ) (OkO X F σ ρ Q Hs) (ExW X F W Hs)) : spF X.K X.mg n f vs H Q (fun c d H' => W c d σ H') := by
  refine ⟨hl, F.ap, Hs, es, θ, st.sub, st.hap, st.pot, he, ?_⟩
  unfold callO at h
  cases e : f es θ with
  | ok r θ1 =>
    rw [e] at h
    cases r with
    | d d => exact h.elim
    | o l =>
      rintro v H' Hs' fe ⟨a, xs, rfl, e1, e2, e3, e4⟩
      exact h a xs H' Hs' fe.s (st_end st fe) e1 e2 e3 (h0_none st e4) (ap_ne st e4) (own_ne st e4)
  | exn x ρ1 θ1 =>
    rw [e] at h
    exact fun c dd H' Hs' fe xa => h c dd σ H' Hs' fe.s (st_end st fe) xa
  | bad =>
    rw [e] at h
    exact h
theorem run_p {k : Nat} {f : Addr} {fd : FuncData} {ps : List Str} {m : Mir} {pins : List (Addr × Obj)} {σ : L2.St} {H : Hp} {s : Shared} {Q : VK} {us xs : List Value} {kw : List (Str × Value)} {vs : List V} (G : FnP X.prog X.w X.K X.mg X.base k f fd ps m) (hr : Room k X.A) (hg : X.A.guards = some []) (tk : Takes X W)
    (I : Inv X pins σ H s) (r : Vals vs xs) (bt : BindsTo s fd ⟨us, kw⟩ (ps.zip xs)) (h : spF X.K X.mg ps.length m vs H Q (fun c d H' => W c d σ H')) : wpAny (model X.prog X.w) X.A (call (.ref f) us kw) (EP X pins σ Q) X.xe s := by
  refine wpAny_call (codeAny_mono (G.run X.A X.stack s H ⟨us, kw⟩ xs vs Q _ hr hg I.env0 bt r h) fun z s' hq => ?_)
  cases z with
  | error e => exact tk e s' (XE.of_call I (fun _ _ _ q => q) hq)
  | ok fl =>
    cases fl with
    | ret u => exact I.after hq
    | next => exact hq.elim
    | brk => exact hq.elim
    | cont => exact hq.elim
/-- how a call's values, in the order in which they are written, come to the parameters: n positional ones, the keywords' ks, the defaults ds -/
def Bt (K : PySem.W.Frag) (fd : FuncData) (ps : List Str) (n : Nat) (ks : List Str) (ds : List Value) (is : List Nat) : Prop :=
  ∀ (s : Shared) (us ws : List Value), K.In s.heap → us.length = n → ws.length = ks.length → BindsTo s fd ⟨us, ks.zip ws⟩ (ps.zip (pick is (us ++ (ws ++ ds))))
def mCallD (f : Mir) (des : List Ent) (is : List Nat) (ma mk : M (List Ent)) : M Dt := bnd ma fun l => bnd mk fun r => callD f (pick is (l ++ (r ++ des)))
def mCallO (f : Mir) (des : List Ent) (is : List Nat) (ma mk : M (List Ent)) : M (List Dt) := bnd ma fun l => bnd mk fun r => callO f (pick is (l ++ (r ++ des)))
theorem pick_len {α β : Type} {l : List α} {m : List β} (h : l.length = m.length) : ∀ is : List Nat, (pick is l).length = (pick is m).length
  | [] => rfl
  | i :: is => by
    have ih := pick_len h is
    unfold pick at ih ⊢
    rw [List.filterMap_cons, List.filterMap_cons]
    by_cases q : i < l.length
    · rw [List.getElem?_eq_getElem q, List.getElem?_eq_getElem (show i < m.length by omega)]
      show (_ :: _).length = (_ :: _).length
      rw [List.length_cons, List.length_cons, ih]
    · rw [List.getElem?_eq_none (by omega), List.getElem?_eq_none (by omega)]
      exact ih
section
variable {k : Nat} {f : Addr} {fd : FuncData} {ps ks : List Str} {m : Mir} {n j : Nat} {ds : List Value} {dvs : List V} {des : List Ent} {is : List Nat} {ma mk : M (List Ent)} {kws : List Keyword} {e : Expr}
def tC2 (ta tk : TA) (sp : L2.St → List V → List V → Hp → VK → Prop) : TE := fun σ H Q => ta σ H fun vs H1 => tk σ H1 fun zs H2 => sp σ vs zs H2 Q
theorem call_lens (G : FnP X.prog X.w X.K X.mg X.base k f fd ps m) (bl : ∀ l : List Nat, l.length = n + (ks.length + ds.length) → (pick is l).length = ps.length) {α : Type} {l : List α} (h : l.length = n + (ks.length + ds.length)) : (pick is l).length = ps.length := by
  rw [pick_len (m := List.range l.length) (by rw [List.length_range]) is]
  exact bl _ (by rw [List.length_range]; exact h)
theorem tE_with {σ : L2.St} {H : Hp} {Q : List V → Hp → Prop} {ml : M (List Ent)} {n : Nat} (la : LenE ml n) (h : tE X F W ml σ H fun vs H' => vs.length = n → Q vs H') : tE X F W ml σ H fun vs H' => vs.length = n ∧ Q vs H' := by
  obtain ⟨ρ, θ, Hs, st, h⟩ := h
  refine ⟨ρ, θ, Hs, st, h.both.imp (fun l θ' q vs H' Hs' s' st' r => ?_) fun _ _ _ z => z⟩
  have e : vs.length = n := (ents_len r).symm.trans (la _ _ _ _ q.1)
  exact ⟨e, q.2 vs H' Hs' s' st' r e⟩
theorem callK_go (tk : Takes X W) (G : FnP X.prog X.w X.K X.mg X.base k f fd ps m) (hr : Room k X.A) (hg : X.A.guards = some []) (gl : Gl X x) (hm : X.mg x = some (.ref f)) (kp : PySem.W.keepIn X.K (.ref f) = true) (bt : Bt X.K fd ps n ks ds is) (hd : Vals dvs ds)
    (ha : PAE X F W (e :: es) ma) (hk : PKE X F W kws mk) (la : LenE ma n) (lk : LenE mk ks.length) (hks : (backToKw pos (keywordEach kws X.env)).filterMap (·.1) = ks) (hall : (backToKw pos (keywordEach kws X.env)).all (·.1.isSome) = true)
    (he : starEach (e :: es) X.env = (false, eval e X.env) :: starEach es X.env) (hpl : ((backTo pos (starEach (e :: es) X.env)).any (·.1) || (backToKw pos (keywordEach kws X.env)).any (·.1.isNone)) = false) (hdb : (x == ("__debug__" : Str)) = false) :
    PE X (.Call (.Name x p) (e :: es) kws pos) (tC2 (fun σ H Q => tE X F W ma σ H fun vs H' => vs.length = n → Q vs H') (fun σ H Q => tE X F W mk σ H fun zs H' => zs.length = ks.length → Q zs H') fun σ vs zs H2 Q => spF X.K X.mg ps.length m (pick is (vs ++ (zs ++ dvs))) H2 Q (fun c d H' => W c d σ H')) := by
  refine ⟨fun pins s σ H Q I h => ?_⟩
  refine wpAny_Call_Name_kw (ld_glob I gl hm ?_ hdb)
  refine PySem.W.callWith_KW (h₀ := X.base) I.ok.mod.kin kp hall (thn (ha.run pos pins s σ H _ I (tE_with la h)) fun us s1 ⟨vs, H1, I1, r1, l1, q1⟩ => ?_) hpl he
  refine thn (hk.run pos pins s1 σ H1 _ I1 (tE_with lk q1)) fun ws s2 ⟨zs, H2, I2, r2, lz, q2⟩ => ⟨I2.kIn, ?_⟩
  rw [hks]
  exact run_p G hr hg tk I2 (vals_pick (r1.append (r2.append hd)) is) (bt s2 us ws I2.kIn (r1.length.symm.trans l1) (r2.length.symm.trans lz)) q2
theorem callK0_go (tk : Takes X W) (G : FnP X.prog X.w X.K X.mg X.base k f fd ps m) (hr : Room k X.A) (hg : X.A.guards = some []) (gl : Gl X x) (hm : X.mg x = some (.ref f)) (kp : PySem.W.keepIn X.K (.ref f) = true) (bt : Bt X.K fd ps 0 ks ds is) (hd : Vals dvs ds)
    (hk : PKE X F W kws mk) (lk : LenE mk ks.length) (hks : (backToKw pos (keywordEach kws X.env)).filterMap (·.1) = ks) (hall : (backToKw pos (keywordEach kws X.env)).all (·.1.isSome) = true)
    (hpl : ((backTo pos (starEach [] X.env)).any (·.1) || (backToKw pos (keywordEach kws X.env)).any (·.1.isNone)) = false) (hdb : (x == ("__debug__" : Str)) = false) :
    PE X (.Call (.Name x p) [] kws pos) (fun σ H Q => tE X F W mk σ H fun zs H2 => zs.length = ks.length → spF X.K X.mg ps.length m (pick is ([] ++ (zs ++ dvs))) H2 Q (fun c d H' => W c d σ H')) := by
  refine ⟨fun pins s σ H Q I h => ?_⟩
  refine wpAny_Call_Name_kw (ld_glob I gl hm ?_ hdb)
  refine PySem.W.callWith_KW0 (h₀ := X.base) I.ok.mod.kin kp hall (thn (hk.run pos pins s σ H _ I (tE_with lk h)) fun ws s2 ⟨zs, H2, I2, r2, lz, q2⟩ => ⟨I2.kIn, ?_⟩) hpl
  rw [hks]
  exact run_p G hr hg tk I2 (vals_pick (r2.append hd) is) (bt s2 [] ws I2.kIn rfl (r2.length.symm.trans lz)) q2
/-- f(e, .., k = v, ..) -/
theorem pd_call (tk : Takes X W) (G : FnP X.prog X.w X.K X.mg X.base k f fd ps m) (hr : Room k X.A) (hg : X.A.guards = some []) (hm : X.mg x = some (.ref f)) (kp : PySem.W.keepIn X.K (.ref f) = true) (bt : Bt X.K fd ps n ks ds is) (hd : Vals dvs ds) (hde : ∀ ap Hs, Ents X.K ap Hs des dvs)
    (ha : PAE X F W (e :: es) ma) (hk : PKE X F W kws mk) (la : LenE ma n) (lk : LenE mk ks.length) (bl : ∀ l : List Nat, l.length = n + (ks.length + ds.length) → (pick is l).length = ps.length) (gl : Gl X x := by rfl)
    (hks : (backToKw pos (keywordEach kws X.env)).filterMap (·.1) = ks := by rfl) (hall : (backToKw pos (keywordEach kws X.env)).all (·.1.isSome) = true := by rfl)
    (he : starEach (e :: es) X.env = (false, eval e X.env) :: starEach es X.env := by rfl) (hpl : ((backTo pos (starEach (e :: es) X.env)).any (·.1) || (backToKw pos (keywordEach kws X.env)).any (·.1.isNone)) = false := by rfl) (hdb : (x == ("__debug__" : Str)) = false := by decide) :
    PD X F W (.Call (.Name x p) (e :: es) kws pos) (mCallD m des is ma mk) := by
  refine pe_imp (callK_go tk G hr hg gl hm kp bt hd ha hk la lk hks hall he hpl hdb) fun σ H Q h => ?_
  obtain ⟨ρ, θ, Hs, st, h⟩ := h
  refine then_E OkD.anti st h fun vs l H1 Hs1 θ1 s1 st1 r1 h ln => ?_
  refine then_E OkD.anti st1 h fun zs l2 H2 Hs2 θ2 s2 st2 r2 h lz => ?_
  refine callD_sp st2 (call_lens G bl ?_) (ents_pick (ents_append (ents_mono s2 r1) (ents_append r2 (hde _ _))) is) h
  rw [List.length_append, List.length_append, ln, lz, hd.length]
theorem po_call (tk : Takes X W) (G : FnP X.prog X.w X.K X.mg X.base k f fd ps m) (hr : Room k X.A) (hg : X.A.guards = some []) (hm : X.mg x = some (.ref f)) (kp : PySem.W.keepIn X.K (.ref f) = true) (bt : Bt X.K fd ps n ks ds is) (hd : Vals dvs ds) (hde : ∀ ap Hs, Ents X.K ap Hs des dvs)
    (ha : PAE X F W (e :: es) ma) (hk : PKE X F W kws mk) (la : LenE ma n) (lk : LenE mk ks.length) (bl : ∀ l : List Nat, l.length = n + (ks.length + ds.length) → (pick is l).length = ps.length) (gl : Gl X x := by rfl)
    (hks : (backToKw pos (keywordEach kws X.env)).filterMap (·.1) = ks := by rfl) (hall : (backToKw pos (keywordEach kws X.env)).all (·.1.isSome) = true := by rfl)
    (he : starEach (e :: es) X.env = (false, eval e X.env) :: starEach es X.env := by rfl) (hpl : ((backTo pos (starEach (e :: es) X.env)).any (·.1) || (backToKw pos (keywordEach kws X.env)).any (·.1.isNone)) = false := by rfl) (hdb : (x == ("__debug__" : Str)) = false := by decide) :
    PO X F W (.Call (.Name x p) (e :: es) kws pos) (mCallO m des is ma mk) := by
  refine pe_imp (callK_go tk G hr hg gl hm kp bt hd ha hk la lk hks hall he hpl hdb) fun σ H Q h => ?_
  obtain ⟨ρ, θ, Hs, st, h⟩ := h
  refine then_E OkO.anti st h fun vs l H1 Hs1 θ1 s1 st1 r1 h ln => ?_
  refine then_E OkO.anti st1 h fun zs l2 H2 Hs2 θ2 s2 st2 r2 h lz => ?_
  refine callO_sp st2 (call_lens G bl ?_) (ents_pick (ents_append (ents_mono s2 r1) (ents_append r2 (hde _ _))) is) h
  rw [List.length_append, List.length_append, ln, lz, hd.length]
theorem pd_call0 (tk : Takes X W) (G : FnP X.prog X.w X.K X.mg X.base k f fd ps m) (hr : Room k X.A) (hg : X.A.guards = some []) (hm : X.mg x = some (.ref f)) (kp : PySem.W.keepIn X.K (.ref f) = true) (bt : Bt X.K fd ps 0 ks ds is) (hd : Vals dvs ds) (hde : ∀ ap Hs, Ents X.K ap Hs des dvs)
    (hk : PKE X F W kws mk) (lk : LenE mk ks.length) (bl : ∀ l : List Nat, l.length = 0 + (ks.length + ds.length) → (pick is l).length = ps.length) (gl : Gl X x := by rfl)
    (hks : (backToKw pos (keywordEach kws X.env)).filterMap (·.1) = ks := by rfl) (hall : (backToKw pos (keywordEach kws X.env)).all (·.1.isSome) = true := by rfl)
    (hpl : ((backTo pos (starEach [] X.env)).any (·.1) || (backToKw pos (keywordEach kws X.env)).any (·.1.isNone)) = false := by rfl) (hdb : (x == ("__debug__" : Str)) = false := by decide) :
    PD X F W (.Call (.Name x p) [] kws pos) (mCallD m des is mENil mk) := by
  refine pe_imp (callK0_go tk G hr hg gl hm kp bt hd hk lk hks hall hpl hdb) fun σ H Q h => ?_
  obtain ⟨ρ, θ, Hs, st, h⟩ := h
  refine then_E OkD.anti st h fun zs l2 H2 Hs2 θ2 s2 st2 r2 h lz => ?_
  refine callD_sp st2 (call_lens G bl ?_) (ents_pick (ents_append (es := []) (vs := []) rfl (ents_append r2 (hde _ _))) is) h
  rw [List.nil_append, List.length_append, lz, hd.length]
  omega
end

/-! ### calls of built-ins -/
/-- a built-in whose value is plain: what it takes is read alone -/
def CallS (X : Cx) (fv : Value) (g : List Dt → Option Dt) : Prop := ∃ r, CallR X fv r ∧ ∀ ds d, g ds = some d → ∀ (H : Hp) (xs : List V) (Q : VK), Reps X.K H ds xs → (∀ v, (∀ H', Rep X.K H' d v) → Q v H) → r xs H Q
theorem CallS.or {fv : Value} {g g' : List Dt → Option Dt} (h : CallS X fv g) (h' : CallS X fv g') : CallS X fv (fun l => (g l).or (g' l)) := by
  obtain ⟨r, o, k⟩ := h
  obtain ⟨r', o', k'⟩ := h'
  refine ⟨fun xs H Q => r xs H Q ∨ r' xs H Q, fun pins s σ H xs us Q I rv q => ?_, fun ds d e H xs Q rp q => ?_⟩
  · rcases q with q | q
    · exact o pins s σ H xs us Q I rv q
    · exact o' pins s σ H xs us Q I rv q
  · have e : (g ds).or (g' ds) = some d := e
    cases e1 : g ds with
    | some d' =>
      rw [e1] at e
      exact Or.inl (k ds d (e1.trans e) H xs Q rp q)
    | none =>
      rw [e1] at e
      exact Or.inr (k' ds d e H xs Q rp q)
def mB (g : List Dt → Option Dt) (ml : M (List Dt)) : M Dt := bnd ml fun l => opt (g l)
theorem callS_run {fv : Value} {g : List Dt → Option Dt} {r : List V → Hp → VK → Prop} {ml : M (List Dt)} (k : ∀ ds d, g ds = some d → ∀ (H : Hp) (xs : List V) (Q : VK), Reps X.K H ds xs → (∀ v, (∀ H', Rep X.K H' d v) → Q v H) → r xs H Q)
    {σ : L2.St} {H : Hp} {Q : VK} (h : tD X F W (mB g ml) σ H Q) : tCB r (tA X F W ml) σ H Q := by
  obtain ⟨ρ, θ, Hs, st, h⟩ := h
  refine then_A OkD.anti st h fun xs l H1 Hs1 θ1 s1 st1 r1 h => ?_
  obtain ⟨d, e, q⟩ := post_opt h
  exact k l d e H1 xs Q (Reps.mono st1.sub l r1) fun v rv => fin_D q st1 (rv _)
/-- a list of one's own, lent -/
def mBor (i : Nat) : M (List Dt) := fun ρ θ => match ρ[i]? with
  | some (some (.own l)) => .ok [.lst l] θ
  | _ => .bad
theorem bor_run {fv : Value} {g : List Dt → Option Dt} {r : List V → Hp → VK → Prop} {i : Nat} (k : ∀ ds d, g ds = some d → ∀ (H : Hp) (xs : List V) (Q : VK), Reps X.K H ds xs → (∀ v, (∀ H', Rep X.K H' d v) → Q v H) → r xs H Q)
    {σ : L2.St} {H : Hp} {Q : VK} (h : tD X F W (mB g (mBor i)) σ H Q) : tCB r (tCons (tVar i) tNil) σ H Q := by
  obtain ⟨ρ, θ, Hs, st, h⟩ := h
  have h := post_bnd h
  unfold mBor at h
  split at h
  · rename_i l e
    obtain ⟨a, xs, e1, e2, e3, e4, e5, e6⟩ := st.own i l e
    obtain ⟨d, e, q⟩ := post_opt h
    refine ⟨.ref a, e1, ?_⟩
    exact k [.lst l] d e H [.ref a] Q (Reps.cons ⟨a, xs, rfl, SqL.of e2, Reps.mono st.sub l e3⟩ Reps.nil) fun v rv => fin_D q st (rv _)
  · exact h.elim
section
variable {id T : String} {g : List Dt → Option Dt} {ml : M (List Dt)} {e : Expr}
theorem pd_B (hc : CallS X (.builtin id) g) (hm : X.mg x = none) (ha : PAD X F W (e :: es) ml) (hv : bootBuiltins x = some (.builtin id) := by decide +kernel) (hg : Gl X x := by rfl) (hn : x ≠ "__name__" := by decide) (hdb : (x == ("__debug__" : Str)) = false := by decide)
    (he : starEach (e :: es) X.env = (false, eval e X.env) :: starEach es X.env := by rfl) (hpl : (backTo pos (starEach es X.env)).any (·.1) = false := by rfl) : PD X F W (.Call (.Name x p) (e :: es) [] pos) (mB g ml) := by
  obtain ⟨r, o, k⟩ := hc
  exact pe_imp (pe_callB o hg hm hv ha hn hdb he hpl) fun σ H Q h => callS_run (fv := .builtin id) k h
theorem pd_Ty (hc : CallS X (.type T) g) (hm : X.mg x = none) (ha : PAD X F W (e :: es) ml) (hv : bootBuiltins x = some (.type T) := by decide +kernel) (hg : Gl X x := by rfl) (hn : x ≠ "__name__" := by decide) (hdb : (x == ("__debug__" : Str)) = false := by decide)
    (he : starEach (e :: es) X.env = (false, eval e X.env) :: starEach es X.env := by rfl) (hpl : (backTo pos (starEach es X.env)).any (·.1) = false := by rfl) : PD X F W (.Call (.Name x p) (e :: es) [] pos) (mB g ml) := by
  obtain ⟨r, o, k⟩ := hc
  exact pe_imp (pe_callTy o hg hm hv ha hn hdb he hpl) fun σ H Q h => callS_run (fv := .type T) k h
theorem pd_Bm (hc : CallS X (.builtin id) g) (hm : X.mg x = some (.builtin id)) (ha : PAD X F W (e :: es) ml) (hg : Gl X x := by rfl) (hdb : (x == ("__debug__" : Str)) = false := by decide)
    (he : starEach (e :: es) X.env = (false, eval e X.env) :: starEach es X.env := by rfl) (hpl : (backTo pos (starEach es X.env)).any (·.1) = false := by rfl) : PD X F W (.Call (.Name x p) (e :: es) [] pos) (mB g ml) := by
  obtain ⟨r, o, k⟩ := hc
  exact pe_imp (pe_callBfun o hg hm ha hdb he hpl) fun σ H Q h => callS_run (fv := .builtin id) k h
/-- f(x), x a list of one's own -/
theorem pd_Bo (i : Nat) {y : Str} {q : Pos} (hc : CallS X (.builtin id) g) (hm : X.mg x = none) (hv : bootBuiltins x = some (.builtin id) := by decide +kernel) (hg : Gl X x := by rfl) (hn : x ≠ "__name__" := by decide) (hdb : (x == ("__debug__" : Str)) = false := by decide)
    (hN : X.N[i]? = some y := by rfl) (hvy : Vis X.env.scope y := by first | exact Or.inl rfl | exact Or.inr (Or.inl rfl) | exact Or.inr (Or.inr rfl)) (hd : (y == ("__debug__" : Str)) = false := by decide) (hcd : (y == ("__classdict__" : Str)) = false := by decide)
    (he : starEach [.Name y q] X.env = (false, eval (.Name y q) X.env) :: starEach [] X.env := by rfl) (hpl : (backTo pos (starEach [] X.env)).any (·.1) = false := by rfl) : PD X F W (.Call (.Name x p) [.Name y q] [] pos) (mB g (mBor i)) := by
  obtain ⟨r, o, k⟩ := hc
  exact pe_imp (pe_callB o hg hm hv (pa_cons (pe_var hN hvy hd hcd) pa_nil he) hn hdb he hpl) fun σ H Q h => bor_run (fv := .builtin id) k h
end
end
end Pd


namespace Pd
open PySem PySem.Spec PyProof.Rows L2
/-! ### some built-ins -/
section
variable {X : Cx}
theorem rep1 {K : PySem.W.Frag} {H : Hp} {d : Dt} {xs : List V} (h : Reps K H [d] xs) : ∃ x, xs = [x] ∧ Rep K H d x := by
  obtain ⟨x, r, rfl, h1, rfl⟩ := h
  exact ⟨x, rfl, h1⟩
theorem rep2 {K : PySem.W.Frag} {H : Hp} {d e : Dt} {xs : List V} (h : Reps K H [d, e] xs) : ∃ x y, xs = [x, y] ∧ Rep K H d x ∧ Rep K H e y := by
  obtain ⟨x, r, rfl, h1, y, r2, rfl, h2, rfl⟩ := h
  exact ⟨x, y, rfl, h1, h2⟩
def gAbs : List Dt → Option Dt
  | [.int i] => some (.int (if i < 0 then -i else i))
  | _ => none
theorem cs_abs : CallS X (.builtin "abs") gAbs := by
  refine ⟨_, call_abs, fun ds d e H xs Q r q => ?_⟩
  unfold gAbs at e
  split at e
  · cases e
    obtain ⟨x, rfl, h1⟩ := rep1 r
    exact ⟨_, by rw [show x = _ from h1], q _ fun _ => rfl⟩
  · cases e
def gMax2 : List Dt → Option Dt
  | [.int i, .int j] => some (.int (if j > i then j else i))
  | _ => none
def gMin2 : List Dt → Option Dt
  | [.int i, .int j] => some (.int (if j < i then j else i))
  | _ => none
theorem cs_max2 (hc : X.calm = true) : CallS X (.builtin "max") gMax2 := by
  refine ⟨_, call_max2 hc, fun ds d e H xs Q r q => ?_⟩
  unfold gMax2 at e
  split at e
  · cases e
    obtain ⟨x, y, rfl, h1, h2⟩ := rep2 r
    exact ⟨_, _, by rw [show x = _ from h1, show y = _ from h2], q _ fun _ => rfl⟩
  · cases e
theorem cs_min2 (hc : X.calm = true) : CallS X (.builtin "min") gMin2 := by
  refine ⟨_, call_min2 hc, fun ds d e H xs Q r q => ?_⟩
  unfold gMin2 at e
  split at e
  · cases e
    obtain ⟨x, y, rfl, h1, h2⟩ := rep2 r
    exact ⟨_, _, by rw [show x = _ from h1, show y = _ from h2], q _ fun _ => rfl⟩
  · cases e
/-- a list of ints, of bools -/
def intsOf : List Dt → Option (List Int)
  | [] => some []
  | .int i :: l => (intsOf l).map (i :: ·)
  | _ => none
theorem intsOf_eq : ∀ {l : List Dt} {ns : List Int}, intsOf l = some ns → l = ns.map Dt.int
  | [], ns, h => by cases h; rfl
  | .int i :: l, ns, h => by
    obtain ⟨ms, e, rfl⟩ := Option.map_eq_some_iff.mp (show (intsOf l).map (i :: ·) = some ns from h)
    rw [intsOf_eq e, List.map_cons]
  | .non :: _, _, h => nomatch h
  | .bl _ :: _, _, h => nomatch h
  | .str _ :: _, _, h => nomatch h
  | .lst _ :: _, _, h => nomatch h
  | .tup _ :: _, _, h => nomatch h
  | .raw _ :: _, _, h => nomatch h
def boolsOf : List Dt → Option (List Bool)
  | [] => some []
  | .bl i :: l => (boolsOf l).map (i :: ·)
  | _ => none
theorem boolsOf_eq : ∀ {l : List Dt} {ns : List Bool}, boolsOf l = some ns → l = ns.map Dt.bl
  | [], ns, h => by cases h; rfl
  | .bl i :: l, ns, h => by
    obtain ⟨ms, e, rfl⟩ := Option.map_eq_some_iff.mp (show (boolsOf l).map (i :: ·) = some ns from h)
    rw [boolsOf_eq e, List.map_cons]
  | .non :: _, _, h => nomatch h
  | .int _ :: _, _, h => nomatch h
  | .str _ :: _, _, h => nomatch h
  | .lst _ :: _, _, h => nomatch h
  | .tup _ :: _, _, h => nomatch h
  | .raw _ :: _, _, h => nomatch h
/-- the greatest, the least -/
def maxI : List Int → Int
  | [] => 0
  | i :: l => l.foldl (fun a b => if b > a then b else a) i
def minI : List Int → Int
  | [] => 0
  | i :: l => l.foldl (fun a b => if b < a then b else a) i
theorem foldl_max (l : List Int) (i : Int) : (l.foldl (fun a b => if b > a then b else a) i = i ∨ l.foldl (fun a b => if b > a then b else a) i ∈ l) ∧ i ≤ l.foldl (fun a b => if b > a then b else a) i ∧ ∀ y ∈ l, y ≤ l.foldl (fun a b => if b > a then b else a) i := by
  induction l generalizing i with
  | nil => exact ⟨Or.inl rfl, Int.le_refl _, fun y hy => nomatch hy⟩
  | cons b l ih =>
    obtain ⟨h1, h2, h3⟩ := ih (if b > i then b else i)
    rw [List.foldl_cons]
    refine ⟨?_, ?_, fun y hy => ?_⟩
    · rcases h1 with h1 | h1
      · by_cases z : b > i
        · rw [if_pos z] at h1 ⊢
          exact Or.inr (by rw [h1]; exact List.mem_cons_self)
        · rw [if_neg z] at h1 ⊢
          exact Or.inl h1
      · exact Or.inr (List.mem_cons_of_mem _ h1)
    · by_cases z : b > i
      · rw [if_pos z] at h2 ⊢
        omega
      · rw [if_neg z] at h2 ⊢
        omega
    · rcases List.mem_cons.mp hy with e | hy
      · subst e
        by_cases z : y > i
        · rw [if_pos z] at h2 ⊢
          omega
        · rw [if_neg z] at h2 ⊢
          omega
      · exact h3 y hy
theorem foldl_min (l : List Int) (i : Int) : (l.foldl (fun a b => if b < a then b else a) i = i ∨ l.foldl (fun a b => if b < a then b else a) i ∈ l) ∧ l.foldl (fun a b => if b < a then b else a) i ≤ i ∧ ∀ y ∈ l, l.foldl (fun a b => if b < a then b else a) i ≤ y := by
  induction l generalizing i with
  | nil => exact ⟨Or.inl rfl, Int.le_refl _, fun y hy => nomatch hy⟩
  | cons b l ih =>
    obtain ⟨h1, h2, h3⟩ := ih (if b < i then b else i)
    rw [List.foldl_cons]
    refine ⟨?_, ?_, fun y hy => ?_⟩
    · rcases h1 with h1 | h1
      · by_cases z : b < i
        · rw [if_pos z] at h1 ⊢
          exact Or.inr (by rw [h1]; exact List.mem_cons_self)
        · rw [if_neg z] at h1 ⊢
          exact Or.inl h1
      · exact Or.inr (List.mem_cons_of_mem _ h1)
    · by_cases z : b < i
      · rw [if_pos z] at h2 ⊢
        omega
      · rw [if_neg z] at h2 ⊢
        omega
    · rcases List.mem_cons.mp hy with e | hy
      · subst e
        by_cases z : y < i
        · rw [if_pos z] at h2 ⊢
          omega
        · rw [if_neg z] at h2 ⊢
          omega
      · exact h3 y hy
theorem maxI_mem {l : List Int} (h : l ≠ []) : maxI l ∈ l := by
  cases l with
  | nil => exact absurd rfl h
  | cons i l =>
    rcases (foldl_max l i).1 with e | e
    · show l.foldl _ i ∈ _
      rw [e]
      exact List.mem_cons_self
    · exact List.mem_cons_of_mem _ e
theorem maxI_ge {l : List Int} {y : Int} (h : y ∈ l) : y ≤ maxI l := by
  cases l with
  | nil => cases h
  | cons i l =>
    rcases List.mem_cons.mp h with e | e
    · rw [e]
      exact (foldl_max l i).2.1
    · exact (foldl_max l i).2.2 y e
theorem minI_mem {l : List Int} (h : l ≠ []) : minI l ∈ l := by
  cases l with
  | nil => exact absurd rfl h
  | cons i l =>
    rcases (foldl_min l i).1 with e | e
    · show l.foldl _ i ∈ _
      rw [e]
      exact List.mem_cons_self
    · exact List.mem_cons_of_mem _ e
theorem minI_le {l : List Int} {y : Int} (h : y ∈ l) : minI l ≤ y := by
  cases l with
  | nil => cases h
  | cons i l =>
    rcases List.mem_cons.mp h with e | e
    · rw [e]
      exact (foldl_min l i).2.1
    · exact (foldl_min l i).2.2 y e
def gMaxL : List Dt → Option Dt
  | [.lst l] => (intsOf l).bind fun ns => if ns.isEmpty then none else some (.int (maxI ns))
  | _ => none
def gMinL : List Dt → Option Dt
  | [.lst l] => (intsOf l).bind fun ns => if ns.isEmpty then none else some (.int (minI ns))
  | _ => none
theorem listArg {K : PySem.W.Frag} {H : Hp} {l : List Dt} {xs : List V} (r : Reps K H [.lst l] xs) : ∃ a ys, xs = [.ref a] ∧ SqL K H a ys ∧ Reps K H l ys := by
  obtain ⟨x, rfl, a, ys, rfl, h1, h2⟩ := rep1 r
  exact ⟨a, ys, rfl, h1, h2⟩
theorem cs_maxL (hc : X.calm = true) : CallS X (.builtin "max") gMaxL := by
  refine ⟨_, cr_max hc, fun ds d e H xs Q r q => ?_⟩
  unfold gMaxL at e
  split at e
  · rename_i l
    obtain ⟨ns, e1, e2⟩ := Option.bind_eq_some_iff.mp e
    cases ns with
    | nil => cases e2
    | cons n ns =>
      cases e2
      obtain ⟨a, ys, rfl, h1, h2⟩ := listArg r
      rw [intsOf_eq e1] at h2
      rw [Reps.ints h2] at h1
      refine ⟨a, n :: ns, rfl, h1, Nat.succ_pos _, fun m hm hle => ?_⟩
      have z : m = maxI (n :: ns) := by
        have z1 := hle _ (maxI_mem (List.cons_ne_nil n ns))
        have z2 := maxI_ge hm
        omega
      rw [z]
      exact q _ fun _ => rfl
  · cases e
theorem cs_minL (hc : X.calm = true) : CallS X (.builtin "min") gMinL := by
  refine ⟨_, cr_min hc, fun ds d e H xs Q r q => ?_⟩
  unfold gMinL at e
  split at e
  · rename_i l
    obtain ⟨ns, e1, e2⟩ := Option.bind_eq_some_iff.mp e
    cases ns with
    | nil => cases e2
    | cons n ns =>
      cases e2
      obtain ⟨a, ys, rfl, h1, h2⟩ := listArg r
      rw [intsOf_eq e1] at h2
      rw [Reps.ints h2] at h1
      refine ⟨a, n :: ns, rfl, h1, Nat.succ_pos _, fun m hm hle => ?_⟩
      have z : m = minI (n :: ns) := by
        have z1 := hle _ (minI_mem (List.cons_ne_nil n ns))
        have z2 := minI_le hm
        omega
      rw [z]
      exact q _ fun _ => rfl
  · cases e
def gMax (l : List Dt) : Option Dt := (gMax2 l).or (gMaxL l)
def gMin (l : List Dt) : Option Dt := (gMin2 l).or (gMinL l)
theorem cs_max (hc : X.calm = true) : CallS X (.builtin "max") gMax := (cs_max2 hc).or (cs_maxL hc)
theorem cs_min (hc : X.calm = true) : CallS X (.builtin "min") gMin := (cs_min2 hc).or (cs_minL hc)
def gSum : List Dt → Option Dt
  | [.lst l] => (intsOf l).map fun ns => .int ns.sum
  | _ => none
theorem cs_sum (hc : X.calm = true) : CallS X (.builtin "sum") gSum := by
  refine ⟨_, cr_sum hc, fun ds d e H xs Q r q => ?_⟩
  unfold gSum at e
  split at e
  · rename_i l
    obtain ⟨ns, e1, rfl⟩ := Option.map_eq_some_iff.mp e
    obtain ⟨a, ys, rfl, h1, h2⟩ := listArg r
    rw [intsOf_eq e1] at h2
    rw [Reps.ints h2] at h1
    exact ⟨a, ns, rfl, h1, q _ fun _ => rfl⟩
  · cases e
def gAll : List Dt → Option Dt
  | [.lst l] => (boolsOf l).map fun ns => .bl (ns.all id)
  | _ => none
def gAny : List Dt → Option Dt
  | [.lst l] => (boolsOf l).map fun ns => .bl (ns.any id)
  | _ => none
theorem cs_all (hc : X.calm = true) : CallS X (.builtin "all") gAll := by
  refine ⟨_, cr_all hc, fun ds d e H xs Q r q => ?_⟩
  unfold gAll at e
  split at e
  · rename_i l
    obtain ⟨ns, e1, rfl⟩ := Option.map_eq_some_iff.mp e
    obtain ⟨a, ys, rfl, h1, h2⟩ := listArg r
    rw [boolsOf_eq e1] at h2
    rw [Reps.bools h2] at h1
    exact ⟨a, ns, rfl, h1, q _ fun _ => rfl⟩
  · cases e
theorem cs_any (hc : X.calm = true) : CallS X (.builtin "any") gAny := by
  refine ⟨_, cr_any hc, fun ds d e H xs Q r q => ?_⟩
  unfold gAny at e
  split at e
  · rename_i l
    obtain ⟨ns, e1, rfl⟩ := Option.map_eq_some_iff.mp e
    obtain ⟨a, ys, rfl, h1, h2⟩ := listArg r
    rw [boolsOf_eq e1] at h2
    rw [Reps.bools h2] at h1
    exact ⟨a, ns, rfl, h1, q _ fun _ => rfl⟩
  · cases e
def gLen : List Dt → Option Dt
  | [.lst l] => some (.int l.length)
  | [.tup l] => some (.int l.length)
  | [.str s] => if s.length ≤ sizeLine then some (.int s.length) else none
  | _ => none
theorem cs_len : CallS X (.builtin "len") gLen := by
  refine ⟨_, call_len, fun ds d e H xs Q r q => ?_⟩
  unfold gLen at e
  split at e
  · rename_i l
    cases e
    obtain ⟨x, rfl, a, ys, rfl, h1, h2⟩ := rep1 r
    refine ⟨_, l.length, rfl, Or.inl ⟨ys, h1, h2.length⟩, q _ fun _ => rfl⟩
  · rename_i l
    cases e
    obtain ⟨x, rfl, a, ys, rfl, h1, h2⟩ := rep1 r
    refine ⟨_, l.length, rfl, Or.inr ⟨ys, h1, h2.length⟩, q _ fun _ => rfl⟩
  · rename_i s
    by_cases z : s.length ≤ sizeLine
    · rw [if_pos z] at e
      cases e
      obtain ⟨x, rfl, h1⟩ := rep1 r
      rw [show x = _ from h1]
      exact ⟨_, s.length, rfl, ⟨z, rfl⟩, q _ fun _ => rfl⟩
    · rw [if_neg z] at e
      cases e
  · cases e
def gInt : List Dt → Option Dt
  | [.int i] => some (.int i)
  | [.bl b] => some (.int (if b then 1 else 0))
  | _ => none
theorem cs_int : CallS X (.type "int") gInt := by
  refine ⟨_, call_int1, fun ds d e H xs Q r q => ?_⟩
  unfold gInt at e
  split at e
  · cases e
    obtain ⟨x, rfl, h1⟩ := rep1 r
    exact Or.inl ⟨_, by rw [show x = _ from h1], q _ fun _ => rfl⟩
  · cases e
    obtain ⟨x, rfl, h1⟩ := rep1 r
    exact Or.inr ⟨_, by rw [show x = _ from h1], q _ fun _ => rfl⟩
  · cases e
def gGcd : List Dt → Option Dt
  | [.int i, .int j] => some (.int ((Nat.gcd i.natAbs j.natAbs : Nat) : Int))
  | _ => none
theorem cs_gcd : CallS X (.builtin "math.gcd") gGcd := by
  refine ⟨_, cr_gcd, fun ds d e H xs Q r q => ?_⟩
  unfold gGcd at e
  split at e
  · cases e
    obtain ⟨x, y, rfl, h1, h2⟩ := rep2 r
    exact ⟨_, _, by rw [show x = _ from h1, show y = _ from h2], q _ fun _ => rfl⟩
  · cases e
def gIsqrt : List Dt → Option Dt
  | [.int i] => if (decide (0 ≤ i) && decide (i.toNat.log2 < 13000)) = true then some (.int ((Float64.isqrt i.toNat : Nat) : Int)) else none
  | _ => none
theorem cs_isqrt : CallS X (.builtin "math.isqrt") gIsqrt := by
  refine ⟨fun xs H Q => ∃ i : Int, xs = [.int i] ∧ 0 ≤ i ∧ i.toNat.log2 < 13000 ∧ Q (.int ((Float64.isqrt i.toNat : Nat) : Int)) H, ?_, fun ds d e H xs Q r q => ?_⟩
  · intro pins s σ H xs us Q I r h
    obtain ⟨i, rfl, h0, h1, q⟩ := h
    obtain ⟨u, rfl, t, rfl⟩ := vals1 r
    exact call_function_meets PySem.W.MGF.kind_isqrt PySem.W.MGF.plain_isqrt PySem.W.MGF.entry_isqrt (PySem.W.MGF.args_isqrt _) (PySem.W.mg_run_isqrt i t (by omega) (by omega) (by omega)).meets ⟨.int _, H, I.tok _, ⟨_, rfl⟩, q⟩
  · unfold gIsqrt at e
    split at e
    · rename_i i
      by_cases z : (decide (0 ≤ i) && decide (i.toNat.log2 < 13000)) = true
      · rw [if_pos z] at e
        cases e
        obtain ⟨z1, z2⟩ := Bool.and_eq_true_iff.mp z
        obtain ⟨x, rfl, h1⟩ := rep1 r
        exact ⟨i, by rw [show x = _ from h1], of_decide_eq_true z1, of_decide_eq_true z2, q _ fun _ => rfl⟩
      · rw [if_neg z] at e
        cases e
    · cases e
/-- repr: of data without dicts, nothing being shown -/
def shw (d : Dt) : Option Str := match toP d with
  | some p => if (p.showable && (!p.hasDict && (decide (p.depth ≤ 60) && decide (p.shown.length ≤ sizeLine)))) = true then some p.shown else none
  | none => none
def gRepr : List Dt → Option Dt
  | [.lst l] => (shw (.lst l)).map Dt.str
  | [.tup l] => (shw (.tup l)).map Dt.str
  | _ => none
theorem cs_repr {k : Nat} (hr : Room k X.A) (hg : X.A.guards = some []) : CallS X (.builtin "repr") gRepr := by
  refine ⟨fun xs H Q => ∃ a p, xs = [.ref a] ∧ Dp X.K H (.ref a) p ∧ p.showable = true ∧ p.hasDict = false ∧ p.depth ≤ 60 ∧ p.shown.length ≤ sizeLine ∧ Q (.str p.shown) H, ?_, fun ds d e H xs Q r q => ?_⟩
  · intro pins s σ H xs us Q I r h
    obtain ⟨a, p, rfl, hd, h1, h2, h3, h4, q⟩ := h
    obtain ⟨u, rfl, ru⟩ := vals1 r
    obtain ⟨as, rd⟩ := Dp.reads I p _ u hd ru
    cases ru
    have hu := hr.units
    exact PySem.repr_of_reads' rd h1 (PySem.PyData.noDict_hsm h2) hg (by omega) (fun _ _ z => z) (fun h' u tk kk => ⟨.str p.shown, H, I.kept kk, ⟨_, rfl⟩, q⟩) h4
  · have main : ∀ d0 : Dt, (∃ a, ∃ x, xs = [x] ∧ x = .ref a ∧ Rep X.K H d0 x) → (shw d0).map Dt.str = some d → ∃ a p, xs = [V.ref a] ∧ Dp X.K H (.ref a) p ∧ p.showable = true ∧ p.hasDict = false ∧ p.depth ≤ 60 ∧ p.shown.length ≤ sizeLine ∧ Q (.str p.shown) H := by
      rintro d0 ⟨a, x, rfl, rfl, rx⟩ e
      obtain ⟨s, e1, rfl⟩ := Option.map_eq_some_iff.mp e
      unfold shw at e1
      split at e1
      · rename_i p e2
        by_cases z : (p.showable && (!p.hasDict && (decide (p.depth ≤ 60) && decide (p.shown.length ≤ sizeLine)))) = true
        · rw [if_pos z] at e1
          cases e1
          obtain ⟨z1, z⟩ := Bool.and_eq_true_iff.mp z
          obtain ⟨z2, z⟩ := Bool.and_eq_true_iff.mp z
          obtain ⟨z3, z4⟩ := Bool.and_eq_true_iff.mp z
          exact ⟨a, p, rfl, Rep.dp _ rx e2, z1, by simpa using z2, of_decide_eq_true z3, of_decide_eq_true z4, q _ fun _ => rfl⟩
        · rw [if_neg z] at e1
          cases e1
      · cases e1
    unfold gRepr at e
    split at e
    · obtain ⟨x, rfl, h1⟩ := rep1 r
      obtain ⟨a, ys, e1, _⟩ := id h1
      exact main _ ⟨a, x, rfl, e1, h1⟩ e
    · obtain ⟨x, rfl, h1⟩ := rep1 r
      obtain ⟨a, ys, e1, _⟩ := id h1
      exact main _ ⟨a, x, rfl, e1, h1⟩ e
    · cases e
end

/-! ### isinstance -/
def tyName : Dt → Option String
  | .non => some "NoneType"
  | .bl _ => some "bool"
  | .int _ => some "int"
  | .str _ => some "str"
  | .lst _ => some "list"
  | .tup _ => some "tuple"
  | .raw _ => none
theorem tyName_ok {K : PySem.W.Frag} {H : Hp} {d : Dt} {v : V} {n : String} (r : Rep K H d v) (e : tyName d = some n) : TyX K H v (.type n) := by
  cases d with
  | non => cases e; rw [show v = _ from r]; exact .base .non
  | bl b => cases e; rw [show v = _ from r]; exact .base (.bl b)
  | int b => cases e; rw [show v = _ from r]; exact .base (.int b)
  | str b => cases e; rw [show v = _ from r]; exact .base (.str b)
  | lst l =>
    cases e
    obtain ⟨a, xs, rfl, h, _⟩ := r
    rcases h with (h | ⟨o, h⟩) | ⟨o, its, m, h1, h2, _⟩
    · exact .base (.lst h)
    · exact .base (.frz h)
    · exact .kList h1 h2
  | tup l =>
    cases e
    obtain ⟨a, xs, rfl, h, _⟩ := r
    rcases h with (h | ⟨o, h⟩) | ⟨o, its, m, h1, h2, _⟩
    · exact .base (.tup h)
    · exact .fTuple h
    · exact .kTuple h1 h2
  | raw u => cases e
section
variable {X : Cx} {F : Fr0} {W : WX} {a b : Expr} {pos p q : Pos} {x T : Str}
def isT (n : String) (d : Dt) : Option Bool := (tyName d).bind fun m => kitB m n
def mIsi (n : String) (ma : M Dt) : M Dt := bnd ma fun d => opt ((isT n d).map Dt.bl)
theorem pd_isi {n : String} {ma : M Dt} (hm : X.mg "isinstance" = none) (hT : X.mg T = none) (ha : PD X F W a ma) (hvT : bootBuiltins T = some (.type n) := by decide +kernel) (hg : Gl X "isinstance" := by rfl) (hgT : Gl X T := by rfl) (hnT : T ≠ "__name__" := by decide) (hdT : (T == ("__debug__" : Str)) = false := by decide)
    (he : starEach (a :: [.Name T q]) X.env = (false, eval a X.env) :: starEach [.Name T q] X.env := by rfl) (he2 : starEach [.Name T q] X.env = (false, eval (.Name T q) X.env) :: starEach [] X.env := by rfl) (hpl : (backTo pos (starEach [.Name T q] X.env)).any (·.1) = false := by rfl) :
    PD X F W (.Call (.Name "isinstance" p) [a, .Name T q] [] pos) (mIsi n ma) := by
  refine pe_imp (pe_callB call_isi hg hm (by decide +kernel) (pa_cons ha (pa_cons (pe_bltn (v := .ty n) hgT hT hvT rfl hnT hdT) pa_nil he2) he) (by decide) (by decide) he hpl) fun σ H Q h => ?_
  obtain ⟨ρ, θ, Hs, st, h⟩ := h
  refine then_D OkD.anti st h fun v d H1 Hs1 θ1 s1 st1 r1 h => ?_
  obtain ⟨d', e, q'⟩ := post_opt h
  obtain ⟨k, e0, rfl⟩ := Option.map_eq_some_iff.mp e
  obtain ⟨m, e1, e2⟩ := Option.bind_eq_some_iff.mp e0
  exact ⟨v, .ty n, .type m, .type n, k, rfl, .ty n, tyName_ok (Rep.mono st1.sub d r1) e1, kit_ty e2, fin_D q' st1 rfl⟩

/-! ### items -/
theorem reps_atI {K : PySem.W.Frag} {H : Hp} {l : List Dt} {xs : List V} {i : Int} {d : Dt} (h : Reps K H l xs) (e : atI l i = some d) : ∃ v, atI xs i = some v ∧ Rep K H d v := by
  unfold atI at e ⊢
  rw [h.length] at e
  obtain ⟨j, e1, e2⟩ := Option.bind_eq_some_iff.mp e
  obtain ⟨v, e3, e4⟩ := h.get e2
  exact ⟨v, by rw [e1]; exact e3, e4⟩
def gIx : Dt → Dt → Option Dt
  | .lst l, .int i => atI l i
  | .tup l, .int i => atI l i
  | .str z, .int i => if z.length ≤ sizeLine then (atI z.cps.toList i).map fun c => .str ⟨#[c]⟩ else none
  | _, _ => none
theorem gIx_run {K : PySem.W.Frag} (a b d : Dt) (e : gIx a b = some d) (Hs H : Hp) (x y : V) (Q : VK) (s : Same Hs H) (ra : Rep K Hs a x) (rb : Rep K Hs b y) (q : ∀ v Hs' H', Grow Hs H Hs' H' → Rep K Hs' d v → Q v H') : rIx K x y H Q := by
  unfold gIx at e
  split at e
  · obtain ⟨p, xs, rfl, h1, h2⟩ := ra
    obtain ⟨v, e1, e2⟩ := reps_atI h2 e
    exact Or.inl ⟨p, xs, _, v, rfl, rb, s.seq h1, e1, q v Hs H (Grow.refl s) e2⟩
  · obtain ⟨p, xs, rfl, h1, h2⟩ := ra
    obtain ⟨v, e1, e2⟩ := reps_atI h2 e
    exact Or.inr (Or.inl ⟨p, xs, _, v, rfl, rb, sqt_mono s h1, e1, q v Hs H (Grow.refl s) e2⟩)
  · rename_i z i
    by_cases hz : z.length ≤ sizeLine
    · rw [if_pos hz] at e
      obtain ⟨c, e1, rfl⟩ := Option.map_eq_some_iff.mp e
      exact Or.inr (Or.inr ⟨z, i, c, ra, rb, hz, e1, q _ Hs H (Grow.refl s) rfl⟩)
    · rw [if_neg hz] at e
      cases e
  · cases e
theorem pd_ix {ma mb : M Dt} (ha : PD X F W a ma) (hb : PD X F W b mb) (hs : PlainIx b := by intro _ _; rfl) : PD X F W (.Subscript a b pos) (mOp gIx ma mb) :=
  pe_imp (pe_ix ix_seq ha hb hs) fun σ H Q h => op_run (f := binaryOp .Add) gIx_run h
end
end Pd


namespace Pd
open PySem PySem.Spec PyProof.Rows L2
/-! ### targets -/
inductive Tgt where
  | n (i : Nat) | t (is : List Nat)
def bindT : Tgt → Dt → DEnv → Option DEnv
  | .n i, d, ρ => some (ρ.set i (some (.dat d)))
  | .t is, .tup l, ρ => if l.length = is.length then some ((is.zip l).foldl (fun ρ p => ρ.set p.1 (some (.dat p.2))) ρ) else none
  | .t _, _, _ => none
/-- a target with its reading -/
def PGT (X : Cx) (tg : Expr) (T : Tgt) : Prop := ∃ g : TG, PG X tg g ∧ ∀ (F : Fr0) (σ : L2.St) (H Hs : Hp) (ρ ρ' : DEnv) (θ : Pot) (d : Dt) (v : V) (Q : L2.St → Hp → Prop), StOk X.K F σ H Hs ρ θ → Rep X.K Hs d v → bindT T d ρ = some ρ' → (∀ σ', StOk X.K F σ' H Hs ρ' θ → (∀ j, (∀ i, (match T with | .n k => i = k | .t is => i ∈ is) → i ≠ j) → σ'[j]? = σ[j]?) → σ'.length = σ.length → Q σ' H) → g v σ H Q
def gNs : List Nat → TGs
  | [] => gNil
  | i :: is => gCons (gName i) (gNs is)
def PGTs (X : Cx) (es : List Expr) (is : List Nat) : Prop := PGs X es (gNs is)
section
variable {X : Cx} {es : List Expr} {pos : Pos}
theorem pgts_nil : PGTs X [] [] := pgs_nil
theorem pgts_cons {i : Nat} {x : Str} {is : List Nat} (hN : X.N.Nodup) (h : PGTs X es is) (hi : X.N[i]? = some x := by rfl) (hx : Loc X.env.scope x := by first | exact Or.inl rfl | exact Or.inr rfl)
    (hf : X.fn x = true ∨ X.env.scope.names.lookup x = some .local := by first | exact .inl rfl | exact .inr rfl)
    (hs : (assignEach (.Name x pos :: es) X.env).map (·.2) = assign (.Name x pos) X.env :: (assignEach es X.env).map (·.2) := by rfl) : PGTs X (.Name x pos :: es) (i :: is) := pgs_cons (pg_name hN hi hx hf) h hs
theorem pgt_name {i : Nat} {x : Str} (hN : X.N.Nodup) (hi : X.N[i]? = some x := by rfl) (hx : Loc X.env.scope x := by first | exact Or.inl rfl | exact Or.inr rfl)
    (hf : X.fn x = true ∨ X.env.scope.names.lookup x = some .local := by first | exact .inl rfl | exact .inr rfl) : PGT X (.Name x pos) (.n i) := by
  refine ⟨_, pg_name hN hi hx hf, fun F σ H Hs ρ ρ' θ d v Q st r e q => ?_⟩
  cases e
  exact q _ (st_set st i r) (fun j hj => List.getElem?_set_ne (hj i rfl)) (List.length_set ..)
theorem gNs_run {K : PySem.W.Frag} {F : Fr0} : ∀ {is : List Nat} {l : List Dt} {xs : List V} {σ : L2.St} {H Hs : Hp} {ρ : DEnv} {θ : Pot} {Q : L2.St → Hp → Prop}, Reps K Hs l xs → l.length = is.length → StOk K F σ H Hs ρ θ →
    (∀ σ', StOk K F σ' H Hs ((is.zip l).foldl (fun ρ p => ρ.set p.1 (some (.dat p.2))) ρ) θ → (∀ j, (∀ i, i ∈ is → i ≠ j) → σ'[j]? = σ[j]?) → σ'.length = σ.length → Q σ' H) → gNs is xs σ H Q
  | [], l, xs, σ, H, Hs, ρ, θ, Q, r, e, st, q => by
    match l, e with
    | [], _ =>
      rw [show xs = [] from r]
      exact ⟨rfl, q σ st (fun _ _ => rfl) rfl⟩
  | i :: is, l, xs, σ, H, Hs, ρ, θ, Q, r, e, st, q => by
    match l, e with
    | d :: ds, e =>
      obtain ⟨x, r', rfl, h1, h2⟩ := r
      refine ⟨x, r', rfl, ?_⟩
      exact gNs_run (K := K) (F := F) h2 (by simpa using e) (st_set st i h1) fun σ' st' hj hl => q σ' st' (fun j hh => (hj j fun k hk => hh k (List.mem_cons_of_mem _ hk)).trans (List.getElem?_set_ne (hh i List.mem_cons_self))) (hl.trans (List.length_set ..))
theorem pgt_tup {is : List Nat} {k : Nat} {n : Nat} (hc : X.calm = true) (h : PGTs X es is) (hlen : is.length = n := by rfl) (hn : (assignEach es X.env).length = n := by rfl) (hst : (assignEach es X.env).findIdx? (·.1) = none := by rfl) : PGT X (.Tuple es k pos) (.t is) := by
  refine ⟨_, pg_tup hc h hn hst, fun F σ H Hs ρ ρ' θ d v Q st r e q => ?_⟩
  cases d with
  | tup l =>
    have e : (if l.length = is.length then some ((is.zip l).foldl (fun ρ p => ρ.set p.1 (some (.dat p.2))) ρ) else none) = some ρ' := e
    by_cases z : l.length = is.length
    · rw [if_pos z] at e
      cases e
      obtain ⟨a, xs, rfl, h3, h4⟩ := r
      refine ⟨a, xs, rfl, sqt_mono st.sub h3, by rw [← h4.length, z, hlen], ?_⟩
      exact gNs_run h4 z st fun σ' st' hj hl => q σ' st' hj hl
    · rw [if_neg z] at e
      cases e
  | _ => cases e
/-- target = e -/
def mAsg (T : Tgt) (ma : M Dt) : M Out := bnd ma fun d ρ θ => match bindT T d ρ with
  | some ρ' => .ok (.next ρ') θ
  | none => .bad
theorem psd_asg {F : Fr0} {W : WX} {tg e : Expr} {T : Tgt} {ma : M Dt} (ha : PD X F W e ma) (hg : PGT X tg T) (hs : swapsWithSole [tg] e pos.line X.env = pure false := by rfl) (hw : swappedStores [tg] e X.env = pure none := by rfl)
    (h1 : (assignEach [tg] X.env).map (·.2) = [assign tg X.env] := by rfl) : PSD X F W (.Assign [tg] e pos) (mAsg T ma) := by
  obtain ⟨g, pg, k⟩ := hg
  refine ps_imp (ps_asg ha pg hs hw h1) fun D σ H q => ?_
  obtain ⟨ρ, θ, Hs, st, q⟩ := q
  refine then_D OkS.anti st q fun v d H1 Hs1 θ1 s1 st1 r1 h => ?_
  cases e1 : bindT T d ρ with
  | none => rw [e1] at h; exact h.elim
  | some ρ' =>
    rw [e1] at h
    exact k F σ H1 Hs1 ρ ρ' θ1 d v _ st1 r1 e1 fun σ' st' _ _ => h σ' H1 Hs1 (Same.refl _) st'
end

/-! ### what is walked -/
/-- an iterator gives these items -/
structure ItD (K : PySem.W.Frag) (J : It) (l : List Dt) (Hs0 : Hp) : Prop where
  go : ∀ (i : Nat) (H Hs : Hp), i < l.length → Same Hs0 Hs → Same Hs H → J.go i H
  yld : ∀ (i : Nat) (H Hs : Hp) (x : V) (H' : Hp) (d : Dt), l[i]? = some d → Same Hs0 Hs → Same Hs H → J.yld i H x H' → ∃ Hs', Grow Hs H Hs' H' ∧ Rep K Hs' d x
  stop : ∀ (H Hs : Hp), Same Hs0 Hs → Same Hs H → J.stop l.length H
def OkI (X : Cx) (F : Fr0) (σ : L2.St) (ρ : DEnv) (R : It → Hp → Prop) (Hs : Hp) : List Dt → Pot → Prop := fun l θ' => ∀ J H' Hs', Same Hs Hs' → StOk X.K F σ H' Hs' ρ θ' → ItD X.K J l Hs' → R J H'
theorem OkI.anti {X : Cx} {F : Fr0} {σ : L2.St} {ρ : DEnv} {R : It → Hp → Prop} {Hs Hs1 : Hp} (s : Same Hs Hs1) : ∀ d θ, OkI X F σ ρ R Hs d θ → OkI X F σ ρ R Hs1 d θ := fun _ _ h J H' Hs' s' => h J H' Hs' (s.trans s')
def tI (X : Cx) (F : Fr0) (W : WX) (m : M (List Dt)) : TI := fun σ H R => ∃ ρ θ Hs, StOk X.K F σ H Hs ρ θ ∧ Post (m ρ θ) (OkI X F σ ρ R Hs) (ExW X F W Hs)
def PID (X : Cx) (F : Fr0) (W : WX) (tg iter : Expr) (m : M (List Dt)) : Prop := PI X tg iter (tI X F W m)
theorem pi_imp {X : Cx} {tg iter : Expr} {t t' : TI} (h : PI X tg iter t) (i : ∀ σ H R, t' σ H R → t σ H R) : PI X tg iter t' := ⟨fun pins s σ H R I q => h.run pins s σ H R I (i σ H R q)⟩
section
variable {X : Cx} {F : Fr0} {W : WX} {tg a b c : Expr} {es : List Expr} {pos p : Pos}
/-- a list, a tuple -/
def iSeq (K : PySem.W.Frag) (tl : TE) : TI := fun σ H R => tl σ H fun x H1 => ∃ a, x = .ref a ∧ ((∃ xs, SqL K H1 a xs ∧ R (Itl K a) H1) ∨ (∃ xs, SqT K H1 a xs ∧ R (Itt K a) H1))
theorem pi_seq {l : Expr} {tl : TE} (hl : PE X l tl) : PI X tg l (iSeq X.K tl) := by
  refine ⟨fun pins s σ H R I h => ?_⟩
  refine thn (hl.run pins s σ H _ I h) fun v s1 ⟨x, H1, I1, r1, q1⟩ => ?_
  obtain ⟨a, rfl, q1⟩ := q1
  cases r1
  have fresh : ∀ {o : Obj}, ∀ b ∈ [s1.heap.objs.size], FpOk X pins H1 b := fun {o} b hb => by
    have e := List.mem_singleton.mp hb
    subst e
    exact I1.fpOk (Nat.le_refl _) (I1.hok.fresh (Nat.le_refl _))
  rcases q1 with ⟨xs, hq, q⟩ | ⟨xs, hq, q⟩
  · obtain ⟨its, rv, pl, hz⟩ := I1.list hq
    refine wpAny_pyIter_list pl.isList ?_
    exact ⟨_, [s1.heap.objs.size], _, Itl X.K a, H1, rfl, I1.kept (t' := s1.toks) fun b o z => Heap.get?_push_of_some _ z, turn_list a _, ⟨_, Heap.get?_push_size _ rfl, rfl, rfl⟩, fresh (o := default), q⟩
  · obtain ⟨its, rv, pl, hz⟩ := I1.tuple hq
    refine wpAny_pyIter_tuple (show s1.heap.IsTuple a its.toArray from pl) ?_
    exact ⟨_, [s1.heap.objs.size], _, Itt X.K a, H1, rfl, I1.kept (t' := s1.toks) fun b o z => Heap.get?_push_of_some _ z, turn_tuple a _, ⟨_, Heap.get?_push_size _ rfl, rfl, rfl⟩, fresh (o := default), q⟩
def seqOf : Dt → Option (List Dt)
  | .lst l => some l
  | .tup l => some l
  | _ => none
theorem itd_list {K : PySem.W.Frag} {Hs0 : Hp} {q : Addr} {xs : List V} {l : List Dt} (h : SqL K Hs0 q xs) (r : Reps K Hs0 l xs) : ItD K (Itl K q) l Hs0 where
  go := fun i H Hs hi s1 s2 => by
    rw [r.length] at hi
    exact ⟨xs, xs[i], s2.seq (s1.seq h), List.getElem?_eq_getElem hi⟩
  yld := fun i H Hs x H' d e s1 s2 y => by
    obtain ⟨rfl, y⟩ := y
    obtain ⟨v, e1, e2⟩ := r.get e
    have z := y xs (s2.seq (s1.seq h))
    rw [e1] at z
    cases z
    exact ⟨Hs, Grow.refl s2, Rep.mono s1 d e2⟩
  stop := fun H Hs s1 s2 => ⟨xs, s2.seq (s1.seq h), Nat.le_of_eq r.length.symm⟩
theorem itd_tup {K : PySem.W.Frag} {Hs0 : Hp} {q : Addr} {xs : List V} {l : List Dt} (h : SqT K Hs0 q xs) (r : Reps K Hs0 l xs) : ItD K (Itt K q) l Hs0 where
  go := fun i H Hs hi s1 s2 => by
    rw [r.length] at hi
    exact ⟨xs, xs[i], sqt_mono s2 (sqt_mono s1 h), List.getElem?_eq_getElem hi⟩
  yld := fun i H Hs x H' d e s1 s2 y => by
    obtain ⟨rfl, y⟩ := y
    obtain ⟨v, e1, e2⟩ := r.get e
    have z := y xs (sqt_mono s2 (sqt_mono s1 h))
    rw [e1] at z
    cases z
    exact ⟨Hs, Grow.refl s2, Rep.mono s1 d e2⟩
  stop := fun H Hs s1 s2 => ⟨xs, sqt_mono s2 (sqt_mono s1 h), Nat.le_of_eq r.length.symm⟩
def mSeqI (ma : M Dt) : M (List Dt) := bnd ma fun d => opt (seqOf d)
theorem pid_seq {ma : M Dt} (ha : PD X F W a ma) : PID X F W tg a (mSeqI ma) := by
  refine pi_imp (pi_seq ha) fun σ H R h => ?_
  obtain ⟨ρ, θ, Hs, st, h⟩ := h
  refine then_D OkI.anti st h fun v d H1 Hs1 θ1 s1 st1 r1 h => ?_
  obtain ⟨l, e, q⟩ := post_opt h
  cases d with
  | lst l' =>
    cases e
    obtain ⟨q1, xs, rfl, h1, h2⟩ := r1
    exact ⟨q1, rfl, Or.inl ⟨xs, st1.sub.seq h1, q _ H1 Hs1 (Same.refl _) st1 (itd_list h1 h2)⟩⟩
  | tup l' =>
    cases e
    obtain ⟨q1, xs, rfl, h1, h2⟩ := r1
    exact ⟨q1, rfl, Or.inr ⟨xs, sqt_mono st1.sub h1, q _ H1 Hs1 (Same.refl _) st1 (itd_tup h1 h2)⟩⟩
  | _ => cases e
/-- ranges -/
def rngL (lo : Int) (n : Nat) : List Dt := (List.range n).map fun i : Nat => .int (lo + i)
theorem rngL_at {lo : Int} {n i : Nat} {d : Dt} (h : (rngL lo n)[i]? = some d) : d = .int (lo + i) := by
  unfold rngL at h
  rw [List.getElem?_map] at h
  obtain ⟨j, e1, rfl⟩ := Option.map_eq_some_iff.mp h
  obtain ⟨h1, h2⟩ := List.getElem?_eq_some_iff.mp e1
  rw [List.getElem_range] at h2
  rw [h2]
theorem itd_rng {K : PySem.W.Frag} {Hs0 : Hp} {lo : Int} {n : Nat} : ItD K (Itr lo n) (rngL lo n) Hs0 where
  go := fun i H Hs hi _ _ => by
    have h : i < n := by simpa [rngL] using hi
    exact h
  yld := fun i H Hs x H' d e _ s2 y => by
    obtain ⟨rfl, rfl⟩ := y
    rw [rngL_at e]
    exact ⟨Hs, Grow.refl s2, rfl⟩
  stop := fun H Hs _ _ => by simp [rngL, Itr]
def bnd62 (i : Int) : Bool := decide (-(2 ^ 62) ≤ i) && decide (i < 2 ^ 62)
def rng1 : List Dt → Option (List Dt)
  | [.int j] => if bnd62 j = true then some (rngL 0 j.toNat) else none
  | _ => none
def rng2 : List Dt → Option (List Dt)
  | [.int i, .int j] => if (bnd62 i && bnd62 j) = true then some (rngL i (j - i).toNat) else none
  | _ => none
def mRng (g : List Dt → Option (List Dt)) (ml : M (List Dt)) : M (List Dt) := bnd ml fun l => opt (g l)
theorem bnd62_ok {i : Int} (h : bnd62 i = true) : -(2 ^ 62) ≤ i ∧ i < 2 ^ 62 := by
  obtain ⟨h1, h2⟩ := Bool.and_eq_true_iff.mp h
  exact ⟨of_decide_eq_true h1, of_decide_eq_true h2⟩
theorem pid_rng1 {ml : M (List Dt)} (hm : X.mg "range" = none) (ha : PAD X F W [a] ml) (hg : Gl X "range" := by rfl) (hs : starEach [a] X.env = [(false, eval a X.env)] := by rfl) : PID X F W tg (.Call (.Name "range" p) [a] [] pos) (mRng rng1 ml) := by
  refine pi_imp (pi_range1 hg hm ha hs) fun σ H R h => ?_
  obtain ⟨ρ, θ, Hs, st, h⟩ := h
  refine then_A OkI.anti st h fun xs l H1 Hs1 θ1 s1 st1 r1 h => ?_
  obtain ⟨l', e, q⟩ := post_opt h
  unfold rng1 at e
  split at e
  · rename_i j
    by_cases z : bnd62 j = true
    · rw [if_pos z] at e
      cases e
      obtain ⟨x, rfl, h1⟩ := rep1 r1
      obtain ⟨z1, z2⟩ := bnd62_ok z
      exact ⟨j, by rw [show x = _ from h1], z1, z2, q _ H1 Hs1 (Same.refl _) st1 itd_rng⟩
    · rw [if_neg z] at e
      cases e
  · cases e
theorem pid_rng2 {ml : M (List Dt)} (hm : X.mg "range" = none) (ha : PAD X F W [a, b] ml) (hg : Gl X "range" := by rfl) (hs : starEach [a, b] X.env = [(false, eval a X.env), (false, eval b X.env)] := by rfl) (hs2 : starEach [b] X.env = [(false, eval b X.env)] := by rfl) :
    PID X F W tg (.Call (.Name "range" p) [a, b] [] pos) (mRng rng2 ml) := by
  refine pi_imp (pi_range2 hg hm ha hs hs2) fun σ H R h => ?_
  obtain ⟨ρ, θ, Hs, st, h⟩ := h
  refine then_A OkI.anti st h fun xs l H1 Hs1 θ1 s1 st1 r1 h => ?_
  obtain ⟨l', e, q⟩ := post_opt h
  unfold rng2 at e
  split at e
  · rename_i i j
    by_cases z : (bnd62 i && bnd62 j) = true
    · rw [if_pos z] at e
      cases e
      obtain ⟨x, y, rfl, h1, h2⟩ := rep2 r1
      obtain ⟨z1, z2⟩ := Bool.and_eq_true_iff.mp z
      obtain ⟨z3, z4⟩ := bnd62_ok z1
      obtain ⟨z5, z6⟩ := bnd62_ok z2
      exact ⟨i, j, by rw [show x = _ from h1, show y = _ from h2], ⟨z3, z4, z5, z6⟩, q _ H1 Hs1 (Same.refl _) st1 itd_rng⟩
    · rw [if_neg z] at e
      cases e
  · cases e

/-! ### for -/
def forGo (T : Tgt) (body : M Out) : List Dt → M Out
  | [] => mNext
  | d :: ds => fun ρ θ => match bindT T d ρ with
    | none => .bad
    | some ρ1 => match body ρ1 θ with
      | .ok (.next ρ2) θ2 => forGo T body ds ρ2 θ2
      | .ok (.cnt ρ2) θ2 => forGo T body ds ρ2 θ2
      | .ok (.brk ρ2) θ2 => .ok (.next ρ2) θ2
      | r => r
def mFor (T : Tgt) (ms : M (List Dt)) (body : M Out) : M Out := bnd ms fun l => forGo T body l
theorem psd_for {iter : Expr} {body : List Stmt} {T : Tgt} {ms : M (List Dt)} {mb : M Out} (hp : PassesOwn (model X.prog X.w) X.A X.env X.xe) (hc : X.calm = true) (hi : PID X F W tg iter ms) (hg : PGT X tg T) (hb : PSDs X F W body mb)
    (hs : ∀ x, foldedSetIterable iter X.env x = pure x := by intro _; rfl) : PSD X F W (.For tg iter body [] pos) (mFor T ms mb) := by
  obtain ⟨g, pg, k⟩ := hg
  refine ps_imp (ps_for hp hc hi pg hb hs) fun Ds σ H h => ?_
  obtain ⟨ρ, θ, Hs, st, h⟩ := h
  refine ⟨ρ, θ, Hs, st, (post_bnd h).imp (fun l θ1 q J H1 Hs1 s1 st1 it => ?_) fun _ _ _ z => z⟩
  refine ⟨fun i m σ' H' => m = l.length - i ∧ i ≤ l.length ∧ ∃ Hs' ρ' θ', Same Hs1 Hs' ∧ StOk X.K F σ' H' Hs' ρ' θ' ∧ Post (forGo T mb (l.drop i) ρ' θ') (OkS X F Ds Hs') (ExW X F W Hs'), ⟨l.length, rfl, Nat.zero_le _, Hs1, ρ, θ1, Same.refl _, st1, q.imp (OkS.anti s1) (ExW.anti s1)⟩, ?_⟩
  rintro i m σ' H' ⟨rfl, hi', Hs', ρ', θ', s2, st2, q2⟩
  by_cases hlt : i < l.length
  · refine Or.inr ⟨it.go i H' Hs' hlt s2 st2.sub, fun σ3 H3 => ∃ Hs3 ρ3 θ3, Same Hs1 Hs3 ∧ StOk X.K F σ3 H3 Hs3 ρ3 θ3 ∧ Post (forGo T mb (l.drop (i + 1)) ρ3 θ3) (OkS X F Ds Hs3) (ExW X F W Hs3), fun σ3 H3 h3 => ⟨l.length - (i + 1), by omega, rfl, hlt, h3⟩, fun x H4 y => ?_⟩
    obtain ⟨Hs4, g4, r4⟩ := it.yld i H' Hs' x H4 l[i] (List.getElem?_eq_getElem hlt) s2 st2.sub y
    have st4 := st2.grow g4
    rw [List.drop_eq_getElem_cons hlt] at q2
    unfold forGo at q2
    cases eb : bindT T l[i] ρ' with
    | none => rw [eb] at q2; exact q2.elim
    | some ρ5 =>
      rw [eb] at q2
      refine k F σ' H4 Hs4 ρ' ρ5 θ' l[i] x _ st4 r4 eb fun σ5 st5 _ _ => ⟨ρ5, θ', Hs4, st5, ?_⟩
      dsimp only at q2
      have s4 := s2.trans g4.s
      cases em : mb ρ5 θ' with
      | ok o θ6 =>
        rw [em] at q2
        cases o with
        | next ρ6 => exact fun σ7 H7 Hs7 s7 st7 => ⟨Hs7, ρ6, θ6, s4.trans s7, st7, q2.imp (OkS.anti (g4.s.trans s7)) (ExW.anti (g4.s.trans s7))⟩
        | cnt ρ6 => exact fun σ7 H7 Hs7 s7 st7 => ⟨Hs7, ρ6, θ6, s4.trans s7, st7, q2.imp (OkS.anti (g4.s.trans s7)) (ExW.anti (g4.s.trans s7))⟩
        | brk ρ6 => exact fun σ7 H7 Hs7 s7 st7 => q2 σ7 H7 Hs7 (g4.s.trans s7) st7
        | ret r =>
          cases r with
          | d d => exact fun σ7 H7 Hs7 s7 => q2 σ7 H7 Hs7 (g4.s.trans s7)
          | o l => exact fun σ7 H7 Hs7 s7 => q2 σ7 H7 Hs7 (g4.s.trans s7)
      | exn x6 ρ6 θ6 => rw [em] at q2; exact ExW.anti g4.s _ _ _ q2
      | bad => rw [em] at q2; exact q2.elim
  · have e : i = l.length := by omega
    subst e
    rw [List.drop_length] at q2
    exact Or.inl ⟨it.stop H' Hs' s2 st2.sub, q2 σ' H' Hs' (Same.refl _) st2⟩

/-! ### while -/
def whileGo (c : M Bool) (body : M Out) : Nat → M Out
  | 0 => bad
  | n + 1 => fun ρ θ => match c ρ θ with
    | .ok true θ1 => match body ρ θ1 with
      | .ok (.next ρ2) θ2 => whileGo c body n ρ2 θ2
      | .ok (.cnt ρ2) θ2 => whileGo c body n ρ2 θ2
      | .ok (.brk ρ2) θ2 => .ok (.next ρ2) θ2
      | r => r
    | .ok false θ1 => .ok (.next ρ) θ1
    | .exn e ρ' θ' => .exn e ρ' θ'
    | .bad => .bad
theorem psd_while (n : Nat) {c : Expr} {body : List Stmt} {mc : M Bool} {mb : M Out} (hp : PassesOwn (model X.prog X.w) X.A X.env X.xe) (hc : PTD X F W c mc) (hb : PSDs X F W body mb) : PSD X F W (.While c body [] pos) (whileGo mc mb n) := by
  refine ps_imp (ps_while hp hc hb) fun Ds σ H h => ?_
  obtain ⟨ρ, θ, Hs, st, h⟩ := h
  refine ⟨fun m σ' H' => ∃ Hs' ρ' θ', Same Hs Hs' ∧ StOk X.K F σ' H' Hs' ρ' θ' ∧ Post (whileGo mc mb m ρ' θ') (OkS X F Ds Hs') (ExW X F W Hs'), ⟨n, Hs, ρ, θ, Same.refl _, st, h⟩, ?_⟩
  rintro m σ' H' ⟨Hs', ρ', θ', s1, st1, q⟩
  cases m with
  | zero => exact q.elim
  | succ m =>
    unfold whileGo at q
    refine ⟨ρ', θ', Hs', st1, ?_⟩
    cases ec : mc ρ' θ' with
    | ok b θ1 =>
      rw [ec] at q
      intro H2 Hs2 s2 st2
      cases b with
      | false => exact iteF (q σ' H2 Hs2 s2 st2)
      | true =>
        refine iteT ⟨fun σ3 H3 => ∃ Hs3 ρ3 θ3, Same Hs Hs3 ∧ StOk X.K F σ3 H3 Hs3 ρ3 θ3 ∧ Post (whileGo mc mb m ρ3 θ3) (OkS X F Ds Hs3) (ExW X F W Hs3), fun σ3 H3 h3 => ⟨m, Nat.lt_succ_self _, h3⟩, ρ', θ1, Hs2, st2, ?_⟩
        dsimp only at q
        cases em : mb ρ' θ1 with
        | ok o θ6 =>
          rw [em] at q
          cases o with
          | next ρ6 => exact fun σ7 H7 Hs7 s7 st7 => ⟨Hs7, ρ6, θ6, (s1.trans s2).trans s7, st7, q.imp (OkS.anti (s2.trans s7)) (ExW.anti (s2.trans s7))⟩
          | cnt ρ6 => exact fun σ7 H7 Hs7 s7 st7 => ⟨Hs7, ρ6, θ6, (s1.trans s2).trans s7, st7, q.imp (OkS.anti (s2.trans s7)) (ExW.anti (s2.trans s7))⟩
          | brk ρ6 => exact fun σ7 H7 Hs7 s7 st7 => q σ7 H7 Hs7 (s2.trans s7) st7
          | ret r =>
            cases r with
            | d d => exact fun σ7 H7 Hs7 s7 => q σ7 H7 Hs7 (s2.trans s7)
            | o l => exact fun σ7 H7 Hs7 s7 => q σ7 H7 Hs7 (s2.trans s7)
        | exn x6 ρ6 θ6 => rw [em] at q; exact ExW.anti s2 _ _ _ q
        | bad => rw [em] at q; exact q.elim
    | exn x6 ρ6 θ6 => rw [ec] at q; exact q
    | bad => rw [ec] at q; exact q.elim

/-! ### lists of one's own -/
/-- a name's own list becomes data ahead of a statement -/
def frz (i : Nat) (ρ : DEnv) : DEnv := match ρ[i]? with
  | some (some (.own l)) => ρ.set i (some (.dat (.lst l)))
  | _ => ρ
def mFrz (i : Nat) (m : M Out) : M Out := fun ρ θ => m (frz i ρ) θ
theorem getElem?_set_self_of {α : Type} {l : List α} {i : Nat} {x : α} (h : l[i]? = some x) : l.set i x = l := by
  apply List.ext_getElem?
  intro j
  by_cases e : i = j
  · subst e
    rw [List.getElem?_set]
    have q : i < l.length := (List.getElem?_eq_some_iff.mp h).1
    simp only [q, if_true]
    exact h.symm
  · rw [List.getElem?_set_ne e]
theorem set_none_at {ρ : DEnv} {i j : Nat} {x : Ent} (q : (ρ.set i none)[j]? = some (some x)) : i ≠ j ∧ ρ[j]? = some (some x) := by
  by_cases k : i = j
  · subst k
    rw [List.getElem?_set] at q
    by_cases z : i < ρ.length
    · simp only [z, if_true] at q
      cases q
    · simp only [z, if_false, if_true] at q
      cases q
  · rw [List.getElem?_set_ne k] at q
    exact ⟨k, q⟩
theorem st_frz (i : Nat) {σ : L2.St} {H Hs : Hp} {ρ : DEnv} {θ : Pot} (st : StOk X.K F σ H Hs ρ θ) : ∃ Hs', Same Hs Hs' ∧ StOk X.K F σ H Hs' (frz i ρ) θ := by
  unfold frz
  split
  · rename_i l e
    obtain ⟨a, xs, e1, e2, e3, e4, e5, e6⟩ := st.own i l e
    have st1 : StOk X.K F σ H Hs (ρ.set i none) θ := by
      exact ⟨st.sub, st.hap, st.pot, st.old, st.frs, fun j d z => st.dat j d (set_none_at z).2, fun j m z => st.own j m (set_none_at z).2, fun j k m m' b z1 z2 => st.sep j k m m' b (set_none_at z1).2 (set_none_at z2).2, fun j z => st.pt j (set_none_at z).2, by rw [List.length_set]; exact st.len⟩
    have st2 := st_freeze st1 e2 e4 e5 e6 fun j m z q => by
      obtain ⟨k, z⟩ := set_none_at z
      exact k (st.sep i j l m a e z e1 q)
    have st3 := st_set st2 i (d := .lst l) (v := .ref a) ⟨a, xs, rfl, SqL.of upd_same, Reps.mono (same_upd e4) l e3⟩
    rw [List.set_set] at st3
    rw [getElem?_set_self_of e1] at st3
    exact ⟨_, same_upd e4, st3⟩
  · exact ⟨Hs, Same.refl _, st⟩
theorem psd_frz (i : Nat) {st : Stmt} {m : M Out} (h : PSD X F W st m) : PSD X F W st (mFrz i m) := by
  refine ps_imp h fun D σ H q => ?_
  obtain ⟨ρ, θ, Hs, st0, q⟩ := q
  obtain ⟨Hs1, s1, st1⟩ := st_frz i st0
  exact ⟨_, θ, Hs1, st1, q.imp (OkS.anti s1) (ExW.anti s1)⟩
/-- a change of a list of one's own in slot i -/
theorem st_own {σ : L2.St} {H Hs : Hp} {ρ : DEnv} {θ : Pot} (st : StOk X.K F σ H Hs ρ θ) {i : Nat} {l m : List Dt} {a : Addr} {xs ys : List V} (e : ρ[i]? = some (some (.own l))) (e1 : σ[i]? = some (some (.ref a))) (e2 : H a = some (.lst xs)) (r : Reps X.K Hs m ys) :
    StOk X.K F σ (upd H a (.lst ys)) Hs (ρ.set i (some (.own m))) θ := by
  obtain ⟨a', xs', f1, f2, f3, f4, f5, f6⟩ := st.own i l e
  rw [e1] at f1
  cases f1
  have z : ∀ b u, Hs b = some u → b ≠ a := fun b u q k => by rw [k, f4] at q; cases q
  have st1 : StOk X.K F σ (upd H a (.lst ys)) Hs (ρ.set i none) θ := by
    refine ⟨fun b u q => by rw [upd_ne (z b u q)]; exact st.sub b u q, st.hap, fun p q => ?_, fun b o h1 h2 => ?_, st.frs, fun j d q => st.dat j d (set_none_at q).2, fun j m' q => ?_, fun j k m1 m2 b q1 q2 => st.sep j k m1 m2 b (set_none_at q1).2 (set_none_at q2).2, fun j q => st.pt j (set_none_at q).2, by rw [List.length_set]; exact st.len⟩
    · rw [upd_ne (fun k => f6 (by rw [← k]; exact q))]
      exact st.pot p q
    · rw [upd_ne (fun k => by rw [k, f5] at h2; cases h2)]
      exact st.old b o h1 h2
    · obtain ⟨k, q⟩ := set_none_at q
      obtain ⟨b, zs, g1, g2, g3⟩ := st.own j m' q
      have ne : b ≠ a := fun w => k (st.sep i j l m' a e q e1 (by rw [← w]; exact g1))
      exact ⟨b, zs, g1, by rw [upd_ne ne]; exact g2, g3⟩
  have st2 := st_setO st1 i (a := a) (xs := ys) (m := m) upd_same r f4 f5 f6 fun j m' k q w => by
    rw [List.getElem?_set_ne (Ne.symm k)] at q
    exact k (st.sep i j l m' a e q e1 w).symm
  rw [List.set_set, getElem?_set_self_of e1] at st2
  exact st2
theorem st_own_at {σ : L2.St} {H Hs : Hp} {ρ : DEnv} {θ : Pot} (st : StOk X.K F σ H Hs ρ θ) {i : Nat} {l : List Dt} (e : ρ[i]? = some (some (.own l))) : ∃ a xs, σ[i]? = some (some (.ref a)) ∧ H a = some (.lst xs) ∧ Reps X.K Hs l xs := by
  obtain ⟨a, xs, e1, e2, e3, _⟩ := st.own i l e
  exact ⟨a, xs, e1, e2, e3⟩
def bigL : Nat := 1000000
/-- x.append(e) -/
def mApp (i : Nat) (ma : M Dt) : M Out := fun ρ θ => match ρ[i]? with
  | some (some (.own l)) => bnd ma (fun d ρ θ => if l.length < bigL then .ok (.next (ρ.set i (some (.own (l ++ [d]))))) θ else .bad) ρ θ
  | _ => .bad
theorem bigL_ok {n : Nat} (h : n < bigL) : n < sizeLine := Nat.lt_trans h (by decide)
theorem psd_app (i : Nat) {y : Str} {ma : M Dt} {q : Pos} {apos cpos : Pos} (ha : PD X F W a ma) (hN : X.N[i]? = some y := by rfl) (hv : Vis X.env.scope y := by first | exact Or.inl rfl | exact Or.inr (Or.inl rfl) | exact Or.inr (Or.inr rfl)) (hd : (y == ("__debug__" : Str)) = false := by decide)
    (hcd : (y == ("__classdict__" : Str)) = false := by decide)
    (hbase : attributeBase (.Name y q) "append" X.env (eval (.Name y q) X.env) = eval (.Name y q) X.env := by rfl)
    (hfew : ((backTo cpos (starEach (a :: []) X.env)).all (fun x => !x.1) && (backToKw cpos (keywordEach [] X.env)).all (fun x => x.1.isSome)
      && decide ((a :: []).length + ([] : List Keyword).length + (if ([] : List Keyword).isEmpty then 0 else 1) < 30)) = true := by rfl)
    (hline : (apos.endLine == cpos.line) = true := by rfl) (hs1 : starEach (a :: []) X.env = (false, eval a X.env) :: starEach [] X.env := by rfl) (hplain : (backTo cpos (starEach [] X.env)).any (·.1) = false := by rfl)
    (hs : swapsWith (.Call (.Attribute (.Name y q) "append" apos) [a] [] cpos) none pos.line X.env = pure false := by rfl) : PSD X F W (.Expr (.Call (.Attribute (.Name y q) "append" apos) [a] [] cpos) pos) (mApp i ma) := by
  refine ps_imp (ps_expr (pe_bm PySem.F.plainAttrs_list PySem.F.slot_list_append PySem.F.type_list_append mt_append (pe_var hN hv hd hcd) (pa_cons ha pa_nil hs1) hbase hfew hline hs1 hplain) hs) fun D σ H h => ?_
  obtain ⟨ρ, θ, Hs, st, h⟩ := h
  unfold mApp at h
  split at h
  · rename_i l eo
    obtain ⟨p0, xs0, e1, e2, e3⟩ := st_own_at st eo
    refine ⟨.ref p0, e1, Or.inl ⟨rfl, xs0, SqL.of e2⟩, ?_⟩
    refine then_D OkS.anti st h fun v d H1 Hs1 θ1 s1 st1 r1 h => ?_
    by_cases z : l.length < bigL
    · rw [if_pos z] at h
      obtain ⟨p1, xs, f1, f2, f3⟩ := st_own_at st1 eo
      rw [e1] at f1
      cases f1
      refine ⟨p0, xs, v, rfl, rfl, f2, by rw [← f3.length]; exact bigL_ok z, ?_⟩
      exact h σ _ Hs1 (Same.refl _) (st_own st1 eo e1 f2 (f3.append (Reps.cons r1 Reps.nil)))
    · rw [if_neg z] at h
      exact h.elim
  · exact h.elim
/-- x[e] = v, x a list of one's own -/
def mSetI (i : Nat) (mb ma : M Dt) : M Out := bnd ma fun d => fun ρ θ => match ρ[i]? with
  | some (some (.own l)) => bnd mb (fun k ρ θ => match k with
    | .int j => match ixN l.length j with
      | some n => .ok (.next (ρ.set i (some (.own (l.set n d))))) θ
      | none => .bad
    | _ => .bad) ρ θ
  | _ => .bad
theorem psd_setI (i : Nat) {y : Str} {ma mb : M Dt} {q spos : Pos} (ha : PD X F W a ma) (hb : PD X F W b mb) (hN : X.N[i]? = some y := by rfl) (hv : Vis X.env.scope y := by first | exact Or.inl rfl | exact Or.inr (Or.inl rfl) | exact Or.inr (Or.inr rfl)) (hd : (y == ("__debug__" : Str)) = false := by decide)
    (hcd : (y == ("__classdict__" : Str)) = false := by decide)
    (has : ∀ v, assign (.Subscript (.Name y q) b spos) X.env v = (do
      let ov ← holding [v] (eval (.Name y q) X.env)
      let iv ← holding [v, ov] (eval b X.env)
      standAt spos
      holding [v, ov, iv] (setItem ov iv v)
      release [v, ov, iv] []) := by intro _; rfl)
    (hs : swapsWithSole [.Subscript (.Name y q) b spos] a pos.line X.env = pure false := by rfl) (hw : swappedStores [.Subscript (.Name y q) b spos] a X.env = pure none := by rfl)
    (h1 : (assignEach [.Subscript (.Name y q) b spos] X.env).map (·.2) = [assign (.Subscript (.Name y q) b spos) X.env] := by rfl) : PSD X F W (.Assign [.Subscript (.Name y q) b spos] a pos) (mSetI i mb ma) := by
  refine ps_imp (ps_asg ha (pg_sub (pe_var hN hv hd hcd) hb set_list has) hs hw h1) fun D σ H h => ?_
  obtain ⟨ρ, θ, Hs, st, h⟩ := h
  refine then_D OkS.anti st h fun v d H1 Hs1 θ1 s1 st1 r1 h => ?_
  split at h
  · rename_i l eo
    obtain ⟨p0, xs0, e1, e2, e3⟩ := st_own_at st1 eo
    refine ⟨.ref p0, e1, ?_⟩
    refine then_D OkS.anti st1 h fun u k H2 Hs2 θ2 s2 st2 r2 h => ?_
    cases k with
    | int j =>
      dsimp only at h
      split at h
      · rename_i n en
        obtain ⟨p1, xs, f1, f2, f3⟩ := st_own_at st2 eo
        rw [e1] at f1
        cases f1
        refine ⟨p0, xs, j, n, rfl, r2, f2, by rw [← f3.length]; exact en, ?_⟩
        exact h σ _ Hs2 (Same.refl _) (st_own st2 eo e1 f2 (f3.set (Rep.mono s2 d r1) n))
      · exact h.elim
    | _ => exact h.elim
  · exact h.elim
/-- x[e], x a list of one's own -/
def mIxO (i : Nat) (mb : M Dt) : M Dt := fun ρ θ => match ρ[i]? with
  | some (some (.own l)) => bnd mb (fun k => opt (gIx (.lst l) k)) ρ θ
  | _ => .bad
theorem pd_ixO (i : Nat) {y : Str} {mb : M Dt} {q : Pos} (hb : PD X F W b mb) (hN : X.N[i]? = some y := by rfl) (hv : Vis X.env.scope y := by first | exact Or.inl rfl | exact Or.inr (Or.inl rfl) | exact Or.inr (Or.inr rfl)) (hd : (y == ("__debug__" : Str)) = false := by decide)
    (hcd : (y == ("__classdict__" : Str)) = false := by decide) (hs : PlainIx b := by intro _ _; rfl) : PD X F W (.Subscript (.Name y q) b pos) (mIxO i mb) := by
  refine pe_imp (pe_ix ix_seq (pe_var hN hv hd hcd) hb hs) fun σ H Q h => ?_
  obtain ⟨ρ, θ, Hs, st, h⟩ := h
  unfold mIxO at h
  split at h
  · rename_i l eo
    obtain ⟨p0, xs0, e1, e2, e3⟩ := st_own_at st eo
    refine ⟨.ref p0, e1, ?_⟩
    refine then_D OkD.anti st h fun u k H2 Hs2 θ2 s2 st2 r2 h => ?_
    obtain ⟨d, e, q⟩ := post_opt h
    obtain ⟨p1, xs, f1, f2, f3⟩ := st_own_at st2 eo
    rw [e1] at f1
    cases f1
    cases k with
    | int j =>
      obtain ⟨w, g1, g2⟩ := reps_atI f3 (show atI l j = some d from e)
      exact Or.inl ⟨p0, xs, j, w, rfl, r2, SqL.of f2, g1, fin_D q st2 g2⟩
    | _ => cases e
  · exact h.elim
end
end Pd


namespace Pd
open PySem PySem.Spec PyProof.Rows L2
/-! ### comprehensions -/
def hide (ρ : DEnv) : DEnv := ρ.map fun e => match e with
  | some (.own _) => none
  | e => e
def wipeD (ρ : DEnv) : List Nat → DEnv
  | [] => ρ
  | v :: vs => (wipeD ρ vs).set v none
theorem hide_at {ρ : DEnv} {i : Nat} {x : Ent} (h : (hide ρ)[i]? = some (some x)) : ρ[i]? = some (some x) ∧ ∀ l, x ≠ .own l := by
  unfold hide at h
  rw [List.getElem?_map] at h
  cases e : ρ[i]? with
  | none => rw [e] at h; cases h
  | some y =>
    rw [e] at h
    cases y with
    | none => cases h
    | some z =>
      cases z with
      | own l => cases h
      | dat d => cases h; exact ⟨rfl, fun l => nofun⟩
      | pot => cases h; exact ⟨rfl, fun l => nofun⟩
theorem wipeD_length (ρ : DEnv) : ∀ vs : List Nat, (wipeD ρ vs).length = ρ.length
  | [] => rfl
  | v :: vs => by unfold wipeD; rw [List.length_set, wipeD_length ρ vs]
theorem wipeD_at {ρ : DEnv} {i : Nat} {x : Ent} : ∀ {vs : List Nat}, (wipeD ρ vs)[i]? = some (some x) → ρ[i]? = some (some x) ∧ i ∉ vs
  | [], h => ⟨h, by simp⟩
  | v :: vs, h => by
    obtain ⟨h1, h2⟩ := set_none_at (ρ := wipeD ρ vs) h
    obtain ⟨h3, h4⟩ := wipeD_at h2
    exact ⟨h3, fun z => (List.mem_cons.mp z).elim (fun e => h1 e.symm) h4⟩
theorem wipe_keep {σ : L2.St} {i : Nat} : ∀ {vs : List Nat}, i ∉ vs → (wipe σ vs)[i]? = σ[i]?
  | [], _ => rfl
  | v :: vs, h => by
    show ((wipe σ vs).set v none)[i]? = _
    rw [List.getElem?_set_ne (fun e => h (by rw [e]; exact List.mem_cons_self)), wipe_keep fun z => h (List.mem_cons_of_mem _ z)]
theorem wipe_in {σ : L2.St} {i : Nat} : ∀ {vs : List Nat}, i ∈ vs → (wipe σ vs)[i]? = if i < σ.length then some none else none
  | v :: vs, h => by
    show ((wipe σ vs).set v none)[i]? = _
    by_cases e : v = i
    · subst e
      rw [List.getElem?_set, wipe_length]
      by_cases q : v < σ.length
      · simp only [q, if_true]
      · simp only [q, if_false, if_true]
    · rw [List.getElem?_set_ne e, wipe_in ((List.mem_cons.mp h).resolve_left fun z => e z.symm)]
/-- only the wiped places differ -/
theorem wipe_same {σ σ' : L2.St} {vs : List Nat} (hl : σ'.length = σ.length) (h : ∀ j, j ∉ vs → σ'[j]? = (wipe σ vs)[j]?) : wipe σ' vs = wipe σ vs := by
  apply List.ext_getElem?
  intro j
  by_cases q : j ∈ vs
  · rw [wipe_in q, wipe_in q, hl]
  · rw [wipe_keep q, h j q]
section
variable {K : PySem.W.Frag} {F : Fr0} {σ : L2.St} {H Hs H' Hs' : Hp} {ρ : DEnv} {θ : Pot}
theorem st_block (st : StOk K F σ H Hs ρ θ) (vs : List Nat) : StOk K ⟨F.ap, H, Hs⟩ (wipe σ vs) H Hs (wipeD (hide ρ) vs) θ where
  sub := st.sub
  hap := st.hap
  pot := st.pot
  old := fun b o _ h => h
  frs := fun b _ => rfl
  dat := fun i d e => by
    obtain ⟨e1, e2⟩ := wipeD_at e
    obtain ⟨v, e3, e4⟩ := st.dat i d (hide_at e1).1
    exact ⟨v, by rw [wipe_keep e2]; exact e3, e4⟩
  own := fun i l e => absurd rfl ((hide_at (wipeD_at e).1).2 l)
  sep := fun i j l m a e => absurd rfl ((hide_at (wipeD_at e).1).2 l)
  pt := fun i e => by
    obtain ⟨e1, e2⟩ := wipeD_at e
    obtain ⟨p, e3, e4⟩ := st.pt i (hide_at e1).1
    exact ⟨p, e3, by rw [wipe_keep e2]; exact e4⟩
  len := by
    rw [wipeD_length, wipe_length]
    unfold hide
    rw [List.length_map]
    exact st.len
theorem fnEnd_of {σ' : L2.St} {ρ' : DEnv} {θ' : Pot} (s : Same Hs Hs') (st : StOk K ⟨F.ap, H, Hs⟩ σ' H' Hs' ρ' θ') : FnEnd F.ap Hs H Hs' H' θ' := ⟨s, st.sub, st.hap, st.pot, st.old, st.frs⟩
end
/-- the rest of a comprehension -/
def compGo (T : Tgt) (vs : List Nat) (tt : M Bool) (elt : M Dt) : List Dt → M (List Dt)
  | [] => ret []
  | d :: ds => fun ρ θ => match bindT T d (wipeD (hide ρ) vs) with
    | none => .bad
    | some ρ1 => match tt ρ1 θ with
      | .ok true θ1 => match elt ρ1 θ1 with
        | .ok y θ2 => bnd (compGo T vs tt elt ds) (fun ys => ret (y :: ys)) ρ θ2
        | _ => .bad
      | .ok false θ1 => compGo T vs tt elt ds ρ θ1
      | _ => .bad
def mComp (T : Tgt) (vs : List Nat) (ms : M (List Dt)) (tt : M Bool) (elt : M Dt) : M (List Dt) := bnd ms fun l => if l.length < bigL then compGo T vs tt elt l else bad
abbrev W0 : WX := fun _ _ _ _ => False
def tt1 : M Bool := ret true
def PTsD (X : Cx) (F : Fr0) (W : WX) (es : List Expr) (m : M Bool) : Prop := PTs X es (tT X F W m)
theorem ptsd_nil {X : Cx} {F : Fr0} {W : WX} : PTsD X F W [] tt1 := by
  refine ⟨fun pins s σ H Q I h => ?_⟩
  obtain ⟨ρ, θ, Hs, st, h⟩ := h
  exact pts_nil.run pins s σ H Q I (fin_T h st)
theorem ptsd_one {X : Cx} {F : Fr0} {W : WX} {c : Expr} {m : M Bool} (h : PTD X F W c m) : PTsD X F W [c] m := pts_one h
/-- the targets' places are the block's own -/
def TgtIn (T : Tgt) (vs : List Nat) : Prop := match T with
  | .n i => i ∈ vs
  | .t is => ∀ i ∈ is, i ∈ vs
def gOf (K : PySem.W.Frag) (T : Tgt) : TG := match T with
  | .n k => gName k
  | .t is => gTup K is.length (gNs is)
section
variable {X : Cx} {F : Fr0} {W : WX} {elt tg iter : Expr} {ifs : List Expr} {scope : Scope} {own : List (Str × Nat)} {pos : Pos} {T : Tgt} {ms : M (List Dt)} {mt : M Bool} {me : M Dt}
theorem comp_run {g : TG} {tt : TT} {te : TE} (hT : TgtIn T (own.map (·.2)))
    (hg : ∀ (F : Fr0) (σ : L2.St) (H Hs : Hp) (ρ ρ' : DEnv) (θ : Pot) (d : Dt) (v : V) (Q : L2.St → Hp → Prop), StOk X.K F σ H Hs ρ θ → Rep X.K Hs d v → bindT T d ρ = some ρ' → (∀ σ', StOk X.K F σ' H Hs ρ' θ → (∀ j, (∀ i, (match T with | .n k => i = k | .t is => i ∈ is) → i ≠ j) → σ'[j]? = σ[j]?) → σ'.length = σ.length → Q σ' H) → g v σ H Q)
    (ht : ∀ (F : Fr0) (σ : L2.St) (H : Hp) (Q : Bool → Hp → Prop), tT X F W0 mt σ H Q → tt σ H Q) (he : ∀ (F : Fr0) (σ : L2.St) (H : Hp) (Q : VK), tD X F W0 me σ H Q → te σ H Q)
    {σ : L2.St} {H : Hp} {Q : VK} (h : tO X F W (mComp T (own.map (·.2)) ms mt me) σ H Q) : tLc (tI X F W ms) g tt te (own.map (·.2)) σ H Q := by
  obtain ⟨ρ, θ, Hs, st, h⟩ := h
  refine ⟨ρ, θ, Hs, st, (post_bnd h).imp (fun l θ1 q J H1 Hs1 s1 st1 it D nD => ?_) fun _ _ _ z => z⟩
  by_cases hl : l.length < bigL
  · rw [if_pos hl] at q
    -- what holds between two turns
    have stD := st_new (o := .lst []) st1 nD
    refine ⟨fun i m H' => m = l.length - i ∧ i ≤ l.length ∧ ∃ Hs' θ' acc accD, Same Hs1 Hs' ∧ StOk X.K F σ H' Hs' ρ θ' ∧ H' D = some (.lst acc) ∧ Reps X.K Hs' accD acc ∧ Hs' D = none ∧ acc.length ≤ i ∧
      Post (compGo T (own.map (·.2)) mt me (l.drop i) ρ θ') (fun ys θ'' => OkO X F σ ρ Q Hs' (accD ++ ys) θ'') (ExW X F W Hs'), ⟨l.length, rfl, Nat.zero_le _, Hs1, θ1, [], [], Same.refl _, stD, upd_same, rfl, st1.sub.free nD, Nat.le_refl _, q.imp (fun ys θ'' z => OkO.anti s1 _ _ z) (ExW.anti s1)⟩, ?_⟩
    rintro i m H' ⟨rfl, hi', Hs', θ', acc, accD, s2, st2, hD, hacc, nD', la, q2⟩
    by_cases hlt : i < l.length
    · refine Or.inr ⟨it.go i H' Hs' hlt s2 st2.sub, fun H3 => ∃ Hs3 θ3 acc3 accD3, Same Hs1 Hs3 ∧ StOk X.K F σ H3 Hs3 ρ θ3 ∧ H3 D = some (.lst acc3) ∧ Reps X.K Hs3 accD3 acc3 ∧ Hs3 D = none ∧ acc3.length ≤ i + 1 ∧
        Post (compGo T (own.map (·.2)) mt me (l.drop (i + 1)) ρ θ3) (fun ys θ'' => OkO X F σ ρ Q Hs3 (accD3 ++ ys) θ'') (ExW X F W Hs3), fun H3 h3 => ⟨l.length - (i + 1), by omega, rfl, hlt, h3⟩, fun x H4 y => ?_⟩
      obtain ⟨Hs4, g4, r4⟩ := it.yld i H' Hs' x H4 l[i] (List.getElem?_eq_getElem hlt) s2 st2.sub y
      have st4 := st2.grow g4
      have hD4 : H4 D = some (.lst acc) := g4.h _ _ hD
      have nD4 : Hs4 D = none := (g4.n D (by rw [hD]; exact fun z => nomatch z)).trans nD'
      rw [List.drop_eq_getElem_cons hlt] at q2
      unfold compGo at q2
      cases eb : bindT T l[i] (wipeD (hide ρ) (own.map (·.2))) with
      | none => rw [eb] at q2; exact q2.elim
      | some ρ5 =>
        rw [eb] at q2
        refine hg ⟨F.ap, H4, Hs4⟩ _ H4 Hs4 _ ρ5 θ' l[i] x _ (st_block st4 _) r4 eb fun σ5 st5 hj hlen => ⟨?_, ?_⟩
        · refine wipe_same (by rw [hlen, wipe_length]) fun j hj2 => hj j fun k hk e => hj2 ?_
          rw [← e]
          cases T with
          | n k' => exact (show k = k' from hk) ▸ hT
          | t is => exact hT k hk
        · dsimp only at q2
          refine ht ⟨F.ap, H4, Hs4⟩ σ5 H4 _ ⟨ρ5, θ', Hs4, st5, ?_⟩
          cases et : mt ρ5 θ' with
          | ok b θ6 =>
            rw [et] at q2
            intro H6 Hs6 s6 st6
            have fe6 := fnEnd_of (F := F) s6 st6
            have stO6 := st_end st4 fe6
            have apD : F.ap ≠ some D := ap_ne st1 nD
            have hD6 : H6 D = some (.lst acc) := fe6.old D _ apD hD4
            have nD6 : Hs6 D = none := (fe6.n D (by rw [hD4]; exact fun z => nomatch z)).trans nD4
            cases b with
            | false =>
              refine iteF ?_
              exact ⟨Hs6, θ6, acc, accD, s2.trans (g4.s.trans s6), stO6, hD6, Reps.mono (g4.s.trans s6) accD hacc, nD6, by omega, q2.imp (fun ys θ'' z => OkO.anti (g4.s.trans s6) _ _ z) (ExW.anti (g4.s.trans s6))⟩
            | true =>
              refine iteT ?_
              dsimp only at q2
              refine he ⟨F.ap, H4, Hs4⟩ σ5 H6 _ ⟨ρ5, θ6, Hs6, st6, ?_⟩
              cases ee : me ρ5 θ6 with
              | ok y θ7 =>
                rw [ee] at q2
                intro v H7 Hs7 s7 st7 r7
                have fe7 := fnEnd_of (F := F) (s6.trans s7) st7
                have stO7 := st_end st4 fe7
                have hD7 : H7 D = some (.lst acc) := fe7.old D _ apD hD4
                have nD7 : Hs7 D = none := (fe7.n D (by rw [hD4]; exact fun z => nomatch z)).trans nD4
                have s47 := g4.s.trans (s6.trans s7)
                refine ⟨acc, hD7, bigL_ok (by omega), Hs7, θ7, acc ++ [v], accD ++ [y], s2.trans s47, ?_, upd_same, (Reps.mono s47 accD hacc).append (Reps.cons r7 Reps.nil), nD7, by rw [List.length_append, List.length_singleton]; omega, ?_⟩
                · -- the list D has grown
                  have zD : ∀ b u, Hs7 b = some u → b ≠ D := fun b u w k => by rw [k, nD7] at w; cases w
                  have z0 : F.H0 D = none := h0_none st1 nD
                  refine ⟨fun b u w => by rw [upd_ne (zD b u w)]; exact stO7.sub b u w, stO7.hap, fun p w => ?_, fun b o w1 w2 => ?_, stO7.frs, stO7.dat, fun j m' w => ?_, stO7.sep, stO7.pt, stO7.len⟩
                  · rw [upd_ne (fun k => apD (by rw [← k]; exact w))]
                    exact stO7.pot p w
                  · rw [upd_ne (fun k => by rw [k, z0] at w2; cases w2)]
                    exact stO7.old b o w1 w2
                  · obtain ⟨b, zs, w1, w2, w3⟩ := stO7.own j m' w
                    obtain ⟨b', zs', w1', w2', _⟩ := st1.own j m' w
                    rw [w1] at w1'
                    cases w1'
                    have ne : b ≠ D := fun k => by rw [k, nD] at w2'; cases w2'
                    exact ⟨b, zs, w1, by rw [upd_ne ne]; exact w2, w3⟩
                · refine Post.imp (post_bnd q2) (fun ys θ'' z => ?_) fun _ _ _ z => ExW.anti s47 _ _ _ z
                  rw [List.append_assoc]
                  exact OkO.anti s47 _ _ z
              | exn x6 ρ6 θ7 => rw [ee] at q2; exact q2.elim
              | bad => rw [ee] at q2; exact q2.elim
          | exn x6 ρ6 θ6 => rw [et] at q2; exact q2.elim
          | bad => rw [et] at q2; exact q2.elim
    · have e : i = l.length := by omega
      subst e
      rw [List.drop_length] at q2
      have q3 : OkO X F σ ρ Q Hs' (accD ++ []) θ' := q2
      rw [List.append_nil] at q3
      refine Or.inl ⟨it.stop H' Hs' s2 st2.sub, q3 D acc H' Hs' (Same.refl _) st2 hD hacc nD' (h0_none st1 nD) (ap_ne st1 nD) fun j m' w z => own_ne st1 nD j m' w z⟩
  · rw [if_neg hl] at q
    exact q.elim
theorem po_comp (own : List (Str × Nat)) (T : Tgt) (hc : X.calm = true) (hN : X.N.Nodup) (hi : PID X F W tg iter ms) (ok : BlkOk X.N X.env.scope scope own) (hT : TgtIn T (own.map (·.2)))
    (hg : ∀ (s : Shared) (H : Hp) (C : Addr) (cl : List (Str × Addr)) (fp : List Addr), PG (X.blk s H scope (compEnvC scope cl C X.env) fp) tg (gOf X.K T))
    (ht : ∀ (F : Fr0) (s : Shared) (H : Hp) (C : Addr) (cl : List (Str × Addr)) (fp : List Addr), PTsD (X.blk s H scope (compEnvC scope cl C X.env) fp) F W0 ifs mt)
    (he : ∀ (F : Fr0) (s : Shared) (H : Hp) (C : Addr) (cl : List (Str × Addr)) (fp : List Addr), PD (X.blk s H scope (compEnvC scope cl C X.env) fp) F W0 elt me) (hs : ∀ x, foldedSetIterable iter X.env x = pure x := by intro _; rfl) :
    PO X F W (.ListComp elt [⟨tg, iter, ifs, 0⟩] scope pos) (mComp T (own.map (·.2)) ms mt me) := by
  -- one reading for all frames: what holds at some frame
  have ht' : ∀ (s : Shared) (H : Hp) (C : Addr) (cl : List (Str × Addr)) (fp : List Addr), PTs (X.blk s H scope (compEnvC scope cl C X.env) fp) ifs (fun σ H Q => ∃ F, tT X F W0 mt σ H Q) := fun s H C cl fp => ⟨fun pins s1 σ H1 Q I ⟨F1, h⟩ => (ht F1 s H C cl fp).run pins s1 σ H1 Q I h⟩
  have he' : ∀ (s : Shared) (H : Hp) (C : Addr) (cl : List (Str × Addr)) (fp : List Addr), PE (X.blk s H scope (compEnvC scope cl C X.env) fp) elt (fun σ H Q => ∃ F, tD X F W0 me σ H Q) := fun s H C cl fp => ⟨fun pins s1 σ H1 Q I ⟨F1, h⟩ => (he F1 s H C cl fp).run pins s1 σ H1 Q I h⟩
  refine pe_imp (pe_lc hc hN hi ok hg ht' he' hs) fun σ H Q h => ?_
  refine comp_run hT (fun F σ H Hs ρ ρ' θ d v Q st r e q => ?_) (fun F σ H Q h => ⟨F, h⟩) (fun F σ H Q h => ⟨F, h⟩) h
  cases T with
  | n k =>
    cases e
    exact q _ (st_set st k r) (fun j hj => List.getElem?_set_ne (hj k rfl)) (List.length_set ..)
  | t is =>
    cases d with
    | tup l =>
      have e : (if l.length = is.length then some ((is.zip l).foldl (fun ρ p => ρ.set p.1 (some (.dat p.2))) ρ) else none) = some ρ' := e
      by_cases z : l.length = is.length
      · rw [if_pos z] at e
        cases e
        obtain ⟨a, xs, rfl, h3, h4⟩ := r
        refine ⟨a, xs, rfl, sqt_mono st.sub h3, by rw [← h4.length, z], ?_⟩
        exact gNs_run h4 z st fun σ' st' hj hl => q σ' st' hj hl
      · rw [if_neg z] at e
        cases e
    | _ => cases e
end

/-! ### the pot -/
section
variable {X : Cx} {F : Fr0} {W : WX} {a b c : Expr} {pos q : Pos} {x y : Str}
theorem st_pot {σ : L2.St} {H Hs : Hp} {ρ : DEnv} {θ : Pot} (st : StOk X.K F σ H Hs ρ θ) {p : Addr} (e : F.ap = some p) (θ' : Pot) : StOk X.K F σ (upd H p (.lst [.int θ'.1, .int θ'.2])) Hs ρ θ' := by
  have z : ∀ b u, Hs b = some u → b ≠ p := fun b u w k => by rw [k, st.hap p e] at w; cases w
  refine ⟨fun b u w => by rw [upd_ne (z b u w)]; exact st.sub b u w, st.hap, fun r w => ?_, fun b o w1 w2 => ?_, st.frs, st.dat, fun j l w => ?_, st.sep, st.pt, st.len⟩
  · rw [e] at w
    cases w
    exact upd_same
  · rw [upd_ne (fun k => w1 (by rw [k]; exact e))]
    exact st.old b o w1 w2
  · obtain ⟨a, xs, e1, e2, e3, e4, e5, e6⟩ := st.own j l w
    exact ⟨a, xs, e1, by rw [upd_ne (fun k => e6 (by rw [k]; exact e))]; exact e2, e3, e4, e5, e6⟩
/-- pot[0], pot[1] -/
def mPotI (i : Nat) (k : Nat) : M Dt := fun ρ θ => match ρ[i]? with
  | some (some .pot) => .ok (.int (if k = 0 then θ.1 else θ.2)) θ
  | _ => .bad
theorem pd_potI (i k : Nat) {j : Nat} {p : Pos} (hk : k < 2 := by decide) (hN : X.N[i]? = some y := by rfl) (hv : Vis X.env.scope y := by first | exact Or.inl rfl | exact Or.inr (Or.inl rfl) | exact Or.inr (Or.inr rfl)) (hd : (y == ("__debug__" : Str)) = false := by decide)
    (hcd : (y == ("__classdict__" : Str)) = false := by decide) (hs : PlainIx (.Constant (.int (k : Int)) j p) := by intro _ _; rfl) : PD X F W (.Subscript (.Name y q) (.Constant (.int (k : Int)) j p) pos) (mPotI i k) := by
  refine pe_imp (pe_ix ix_list (pe_var hN hv hd hcd) pe_int hs) fun σ H Q h => ?_
  obtain ⟨ρ, θ, Hs, st, h⟩ := h
  unfold mPotI at h
  split at h
  · rename_i e
    obtain ⟨p0, e1, e2⟩ := st.pt i e
    refine ⟨_, e2, p0, _, _, .int (if k = 0 then θ.1 else θ.2), rfl, rfl, SqL.of (st.pot p0 e1), atI_nat ?_, fin_D h st rfl⟩
    match k, hk with
    | 0, _ => rfl
    | 1, _ => rfl
  · exact h.elim
/-- pot[1] = e -/
def mPotS (i : Nat) (ma : M Dt) : M Out := bnd ma fun d ρ θ => match d, ρ[i]? with
  | .int n, some (some .pot) => .ok (.next ρ) (θ.1, n)
  | _, _ => .bad
theorem psd_potS (i : Nat) {ma : M Dt} {j : Nat} {p spos : Pos} (ha : PD X F W a ma) (hN : X.N[i]? = some y := by rfl) (hv : Vis X.env.scope y := by first | exact Or.inl rfl | exact Or.inr (Or.inl rfl) | exact Or.inr (Or.inr rfl)) (hd : (y == ("__debug__" : Str)) = false := by decide)
    (hcd : (y == ("__classdict__" : Str)) = false := by decide)
    (has : ∀ v, assign (.Subscript (.Name y q) (.Constant (.int 1) j p) spos) X.env v = (do
      let ov ← holding [v] (eval (.Name y q) X.env)
      let iv ← holding [v, ov] (eval (.Constant (.int 1) j p) X.env)
      standAt spos
      holding [v, ov, iv] (setItem ov iv v)
      release [v, ov, iv] []) := by intro _; rfl)
    (hs : swapsWithSole [.Subscript (.Name y q) (.Constant (.int 1) j p) spos] a pos.line X.env = pure false := by rfl) (hw : swappedStores [.Subscript (.Name y q) (.Constant (.int 1) j p) spos] a X.env = pure none := by rfl)
    (h1 : (assignEach [.Subscript (.Name y q) (.Constant (.int 1) j p) spos] X.env).map (·.2) = [assign (.Subscript (.Name y q) (.Constant (.int 1) j p) spos) X.env] := by rfl) : PSD X F W (.Assign [.Subscript (.Name y q) (.Constant (.int 1) j p) spos] a pos) (mPotS i ma) := by
  refine ps_imp (ps_asg ha (pg_sub (pe_var hN hv hd hcd) pe_int set_list has) hs hw h1) fun D σ H h => ?_
  obtain ⟨ρ, θ, Hs, st, h⟩ := h
  refine then_D OkS.anti st h fun v d H1 Hs1 θ1 s1 st1 r1 h => ?_
  split at h
  · rename_i n e
    obtain ⟨p0, e1, e2⟩ := st1.pt i e
    refine ⟨_, e2, p0, _, 1, 1, rfl, rfl, st1.pot p0 e1, rfl, ?_⟩
    rw [show v = _ from r1]
    exact h σ _ Hs1 (Same.refl _) (st_pot st1 e1 (θ1.1, n))
  · exact h.elim
theorem call_divmodW : CallR X (.builtin "divmod") (fun xs H Q => ∃ i j, xs = [.int i, .int j] ∧ (0 < j ∧ j.natAbs.log2 < 9000) ∧ ∀ p, H p = none → Q (.ref p) (upd H p (.tup [.int (i / j), .int (i % j)]))) := by
  intro pins s σ H xs us Q I r h
  obtain ⟨i, j, rfl, ⟨h1, h2⟩, q⟩ := h
  obtain ⟨u, w', rfl, ⟨t, rfl⟩, ⟨t', rfl⟩⟩ := vals2 r
  have hj : j ≠ 0 := by omega
  refine divmod_int hj ?_ (.inl (PyProof.noPylong_of_log2 h2))
  rw [Int.fdiv_eq_ediv_of_nonneg i (Int.le_of_lt h1), Int.fmod_eq_emod_of_nonneg i (Int.le_of_lt h1)]
  refine ⟨.ref s.heap.objs.size, _, ?_, rfl, q _ (I.hok.fresh (Nat.le_refl _))⟩
  refine I.laid (fun b o e => Heap.get?_push_of_some _ e) (Nat.le_refl _) ⟨by show 2 ≤ sizeLine; decide, [.int (i / j) s.toks, .int (i % j) (s.toks + 1)], .cons ⟨_, rfl⟩ (.cons ⟨_, rfl⟩ .nil), ?_⟩
  exact ⟨_, Heap.get?_push_size s.heap rfl, rfl, 0, rfl⟩
/-- pot[0], x = divmod(pot[0], e) -/
def mPotD (i j : Nat) (mb : M Dt) : M Out := fun ρ θ => match ρ[i]? with
  | some (some .pot) => bnd mb (fun d ρ θ1 => match d with
    | .int n => if (decide (0 < n) && small n) = true then .ok (.next (ρ.set j (some (.dat (.int (θ.1 % n)))))) (θ.1 / n, θ1.2) else .bad
    | _ => .bad) ρ θ
  | _ => .bad
theorem psd_potD (i j : Nat) {mb : M Dt} {z : Str} {k1 k2 : Nat} {p1 p2 p3 p4 p5 p6 p7 p8 p9 : Pos} {kt : Nat} (hc : X.calm = true) (hNd : X.N.Nodup) (hm : X.mg "divmod" = none) (hb : PD X F W b mb) (hN : X.N[i]? = some y := by rfl) (hj : X.N[j]? = some z := by rfl) (hv : Vis X.env.scope y := by first | exact Or.inl rfl | exact Or.inr (Or.inl rfl) | exact Or.inr (Or.inr rfl)) (hd : (y == ("__debug__" : Str)) = false := by decide)
    (hcd : (y == ("__classdict__" : Str)) = false := by decide) (hx : Loc X.env.scope z := by first | exact Or.inl rfl | exact Or.inr rfl) (hf : X.fn z = true ∨ X.env.scope.names.lookup z = some .local := by first | exact .inl rfl | exact .inr rfl) (hg : Gl X "divmod" := by rfl)
    (has : ∀ v, assign (.Subscript (.Name y p1) (.Constant (.int 0) k1 p2) p3) X.env v = (do
      let ov ← holding [v] (eval (.Name y p1) X.env)
      let iv ← holding [v, ov] (eval (.Constant (.int 0) k1 p2) X.env)
      standAt p3
      holding [v, ov, iv] (setItem ov iv v)
      release [v, ov, iv] []) := by intro _; rfl)
    (hpx : PlainIx (.Constant (.int 0) k2 p8) := by intro _ _; rfl)
    (e1 : starEach [.Subscript (.Name y p7) (.Constant (.int 0) k2 p8) p9, b] X.env = (false, eval (.Subscript (.Name y p7) (.Constant (.int 0) k2 p8) p9) X.env) :: starEach [b] X.env := by rfl) (e2 : starEach [b] X.env = (false, eval b X.env) :: starEach [] X.env := by rfl) (hpl : (backTo p6 (starEach [b] X.env)).any (·.1) = false := by rfl)
    (g1 : (assignEach [.Subscript (.Name y p1) (.Constant (.int 0) k1 p2) p3, .Name z p4] X.env).map (·.2) = assign (.Subscript (.Name y p1) (.Constant (.int 0) k1 p2) p3) X.env :: (assignEach [.Name z p4] X.env).map (·.2) := by rfl)
    (g2 : (assignEach [.Name z p4] X.env).map (·.2) = assign (.Name z p4) X.env :: (assignEach [] X.env).map (·.2) := by rfl)
    (g3 : (assignEach [.Subscript (.Name y p1) (.Constant (.int 0) k1 p2) p3, .Name z p4] X.env).length = 2 := by rfl) (g4 : (assignEach [.Subscript (.Name y p1) (.Constant (.int 0) k1 p2) p3, .Name z p4] X.env).findIdx? (·.1) = none := by rfl)
    (hs : swapsWithSole [.Tuple [.Subscript (.Name y p1) (.Constant (.int 0) k1 p2) p3, .Name z p4] kt p5] (.Call (.Name "divmod" q) [.Subscript (.Name y p7) (.Constant (.int 0) k2 p8) p9, b] [] p6) pos.line X.env = pure false := by rfl)
    (hw : swappedStores [.Tuple [.Subscript (.Name y p1) (.Constant (.int 0) k1 p2) p3, .Name z p4] kt p5] (.Call (.Name "divmod" q) [.Subscript (.Name y p7) (.Constant (.int 0) k2 p8) p9, b] [] p6) X.env = pure none := by rfl)
    (h1 : (assignEach [.Tuple [.Subscript (.Name y p1) (.Constant (.int 0) k1 p2) p3, .Name z p4] kt p5] X.env).map (·.2) = [assign (.Tuple [.Subscript (.Name y p1) (.Constant (.int 0) k1 p2) p3, .Name z p4] kt p5) X.env] := by rfl) :
    PSD X F W (.Assign [.Tuple [.Subscript (.Name y p1) (.Constant (.int 0) k1 p2) p3, .Name z p4] kt p5] (.Call (.Name "divmod" q) [.Subscript (.Name y p7) (.Constant (.int 0) k2 p8) p9, b] [] p6) pos) (mPotD i j mb) := by
  have PY : ∀ {r : Pos}, PE X (.Name y r) (tVar i) := pe_var hN hv hd hcd
  refine ps_imp (ps_asg (pe_callB call_divmodW hg hm (by decide +kernel) (pa_cons (pe_ix ix_list PY pe_int hpx) (pa_cons hb pa_nil e2) e1) (by decide) (by decide) e1 hpl)
    (pg_tup hc (pgs_cons (pg_sub PY pe_int set_list has) (pgs_cons (pg_name hNd hj hx hf) pgs_nil g2) g1) g3 g4) hs hw h1) fun D σ H h => ?_
  obtain ⟨ρ, θ, Hs, st, h⟩ := h
  unfold mPotD at h
  split at h
  · rename_i e
    obtain ⟨p0, e3, e4⟩ := st.pt i e
    refine ⟨_, e4, p0, _, _, .int θ.1, rfl, rfl, SqL.of (st.pot p0 e3), rfl, ?_⟩
    refine then_D OkS.anti st h fun v d H1 Hs1 θ1 s1 st1 r1 h => ?_
    split at h
    · rename_i n
      by_cases w : (decide (0 < n) && small n) = true
      · rw [if_pos w] at h
        obtain ⟨w1, w2⟩ := Bool.and_eq_true_iff.mp w
        refine ⟨θ.1, n, by rw [show v = _ from r1], ⟨of_decide_eq_true w1, of_decide_eq_true w2⟩, fun p np => ?_⟩
        have st2 := st_new (o := .tup [.int (θ.1 / n), .int (θ.1 % n)]) st1 np
        refine ⟨p, _, rfl, Or.inl (Or.inl upd_same), rfl, ?_⟩
        refine ⟨_, _, rfl, ?_⟩
        obtain ⟨p1, e5, e6⟩ := st2.pt i e
        refine ⟨_, e6, p1, _, 0, 0, rfl, rfl, st2.pot p1 e5, rfl, ?_⟩
        refine ⟨_, _, rfl, rfl, ?_⟩
        exact h _ _ _ (Same.refl _) (st_set (st_pot st2 e5 (θ.1 / n, θ1.2)) j rfl)
      · rw [if_neg w] at h
        exact h.elim
    · exact h.elim
  · exact h.elim
end
end Pd


namespace Pd
open PySem PySem.Spec PyProof.Rows L2
/-! ### chains of any length -/
structure PCh (X : Cx) (ops : List CmpOp) (es : List Expr) (t : V → TE) : Prop where
  val : ∀ (pos : Pos) (pins : List (Addr × Obj)) (s : Shared) (σ : L2.St) (H : Hp) (x : V) (v : Value) (Q : VK), Inv X pins σ H s → RelV x v → t x σ H Q → wpAny (model X.prog X.w) X.A (compareChain pos v ops (evalEach es X.env)) (EP X pins σ Q) X.xe s
  tst : ∀ (pos : Pos) (pins : List (Addr × Obj)) (s : Shared) (σ : L2.St) (H : Hp) (x : V) (v : Value) (Q : Bool → Hp → Prop), Inv X pins σ H s → RelV x v → t x σ H (fun y H' => ∃ k, y = .bl k ∧ Q k H') → wpAny (model X.prog X.w) X.A (testChain pos v ops (evalEach es X.env)) (TP X pins σ Q) X.xe s
def tLast (r : R2) (tb : TE) : V → TE := fun x σ H Q => tb σ H fun y H2 => r x y H2 Q
def tLink (r : R2) (tb : TE) (u : V → TE) : V → TE := fun x σ H Q => tb σ H fun y H2 => r x y H2 fun z H3 => ∃ k, z = .bl k ∧ (if k = true then u y σ H3 Q else Q (.bl false) H3)
section
variable {X : Cx} {F : Fr0} {W : WX} {a b : Expr} {pos : Pos} {tb ta : TE} {u : V → TE}
theorem pch_last {op : CmpOp} {r : R2} (ho : OpR X (compareOp op) r) (hb : PE X b tb) : PCh X [op] [b] (tLast r tb) where
  val := fun pos pins s σ H x v Q I rx h => chain_last (thn (hb.run pins s σ H _ I h) fun w' s4 ⟨z', H4, I4, r4, q4⟩ => ho pins s4 σ H4 x z' v w' Q I4 rx r4 q4)
  tst := fun pos pins s σ H x v Q I rx h => test_last (thn (hb.run pins s σ H _ I h) fun w' s4 ⟨z', H4, I4, r4, q4⟩ => thn (ho pins s4 σ H4 x z' v w' _ I4 rx r4 q4) fun d' s5 ⟨z2, H5, I5, r5, k2, e2, q5⟩ => by
    subst e2
    cases r5
    exact wpAny_truthy_bool ⟨H5, I5, q5⟩)
theorem pch_link {op op' : CmpOp} {ops : List CmpOp} {e : Expr} {es : List Expr} {r : R2} (ho : OpR X (compareOp op) r) (hb : PE X b tb) (hr : PCh X (op' :: ops) (e :: es) u) : PCh X (op :: op' :: ops) (b :: e :: es) (tLink r tb u) where
  val := fun pos pins s σ H x v Q I rx h => chain_link (thn (hb.run pins s σ H _ I h) fun w s2 ⟨y, H2, I2, r2, q2⟩ => thn (ho pins s2 σ H2 x y v w _ I2 rx r2 q2) fun d s3 ⟨z, H3, I3, r3, k, e, q3⟩ => by
    subst e
    cases r3
    refine wpAny_truthy_bool ?_
    cases k with
    | false => exact ite_ff ⟨.bl false, H3, I3, rfl, q3⟩
    | true => exact ite_tt (hr.val pos pins s3 σ H3 y w Q I3 r2 q3))
  tst := fun pos pins s σ H x v Q I rx h => test_link (thn (hb.run pins s σ H _ I h) fun w s2 ⟨y, H2, I2, r2, q2⟩ => thn (ho pins s2 σ H2 x y v w _ I2 rx r2 q2) fun d s3 ⟨z, H3, I3, r3, k, e, q3⟩ => by
    subst e
    cases r3
    refine wpAny_truthy_bool ?_
    cases k with
    | false =>
      obtain ⟨k', e', q'⟩ := q3
      cases e'
      exact ite_ff ⟨H3, I3, q'⟩
    | true => exact ite_tt (hr.tst pos pins s3 σ H3 y w Q I3 r2 q3))
/-- the same by data -/
def tC3 (X : Cx) (F : Fr0) (W : WX) (c : Dt → M Dt) : V → TE := fun x σ H Q => ∃ d ρ θ Hs, StOk X.K F σ H Hs ρ θ ∧ Rep X.K Hs d x ∧ Post (c d ρ θ) (OkD X F σ ρ Q Hs) (ExW X F W Hs)
def PCD (X : Cx) (F : Fr0) (W : WX) (ops : List CmpOp) (es : List Expr) (c : Dt → M Dt) : Prop := PCh X ops es (tC3 X F W c)
theorem pch_imp {ops : List CmpOp} {es : List Expr} {t t' : V → TE} (h : PCh X ops es t) (i : ∀ x σ H Q, t' x σ H Q → t x σ H Q) : PCh X ops es t' where
  val := fun pos pins s σ H x v Q I rx q => h.val pos pins s σ H x v Q I rx (i _ _ _ _ q)
  tst := fun pos pins s σ H x v Q I rx q => h.tst pos pins s σ H x v Q I rx (i _ _ _ _ q)
def cLast (g : Dt → Dt → Option Dt) (mb : M Dt) : Dt → M Dt := fun x => bnd mb fun y => opt (g x y)
def cLink (g : Dt → Dt → Option Dt) (mb : M Dt) (c : Dt → M Dt) : Dt → M Dt := fun x => bnd mb fun y => bnd (opt (g x y)) fun z => match z with
  | .bl true => c y
  | .bl false => ret (.bl false)
  | _ => bad
theorem pcd_last {op : CmpOp} {g : Dt → Dt → Option Dt} {mb : M Dt} (ho : OpD X (compareOp op) g) (hb : PD X F W b mb) : PCD X F W [op] [b] (cLast g mb) := by
  obtain ⟨r, o, k⟩ := ho
  refine pch_imp (pch_last o hb) fun x σ H Q h => ?_
  obtain ⟨d, ρ, θ, Hs, st, rx, h⟩ := h
  refine then_D OkD.anti st h fun y dy H2 Hs2 θ2 s2 st2 r2 h => ?_
  obtain ⟨dd, e, q⟩ := post_opt h
  exact k d dy dd e Hs2 H2 x y Q st2.sub (Rep.mono s2 d rx) r2 fun v Hs' H' g1 r => q v H' Hs' g1.s (st2.grow g1) r
theorem pcd_link {op op' : CmpOp} {ops : List CmpOp} {e : Expr} {es : List Expr} {g : Dt → Dt → Option Dt} {mb : M Dt} {c : Dt → M Dt} (ho : OpD X (compareOp op) g) (hb : PD X F W b mb) (hr : PCD X F W (op' :: ops) (e :: es) c) : PCD X F W (op :: op' :: ops) (b :: e :: es) (cLink g mb c) := by
  obtain ⟨r, o, k⟩ := ho
  refine pch_imp (pch_link o hb hr) fun x σ H Q h => ?_
  obtain ⟨dx, ρ, θ, Hs, st, rx, h⟩ := h
  refine then_D OkD.anti st h fun y dy H2 Hs2 θ2 s2 st2 r2 h => ?_
  obtain ⟨d, e, q⟩ := post_opt (post_bnd h)
  refine k dx dy d e Hs2 H2 x y _ st2.sub (Rep.mono s2 dx rx) r2 fun v Hs3 H3 g1 r => ?_
  have st3 := st2.grow g1
  cases d with
  | bl kk =>
    refine ⟨kk, r, ?_⟩
    cases kk with
    | true =>
      refine iteT ?_
      exact ⟨dy, ρ, θ2, Hs3, st3, Rep.mono g1.s dy r2, Post.imp q (OkD.anti g1.s) (ExW.anti g1.s)⟩
    | false =>
      refine iteF ?_
      exact OkD.anti g1.s _ _ q _ H3 Hs3 (Same.refl _) st3 rfl
  | _ => exact q.elim
def mChn (ma : M Dt) (c : Dt → M Dt) : M Dt := bnd ma c
theorem pd_chn {op op' : CmpOp} {ops : List CmpOp} {e e' : Expr} {es : List Expr} {ma : M Dt} {c : Dt → M Dt} (ha : PD X F W a ma) (hc : PCD X F W (op :: op' :: ops) (e :: e' :: es) c) (hm : lastMarks (op :: op' :: ops) (e :: e' :: es) = false := by with_unfolding_all rfl) :
    PD X F W (.Compare a (op :: op' :: ops) (e :: e' :: es) pos) (mChn ma c) := by
  refine ⟨fun pins s σ H Q I h => ?_⟩
  obtain ⟨ρ, θ, Hs, st, h⟩ := h
  refine Compare_chain (thn (ha.run pins s σ H _ I (then_D OkD.anti st h fun x dx H1 Hs1 θ1 s1 st1 r1 h => ?_)) fun v s1 ⟨x, H1, I1, r1, q1⟩ => hc.val pos pins s1 σ H1 x v Q I1 r1 q1) hm
  exact ⟨dx, ρ, θ1, Hs1, st1, r1, h⟩
theorem pt_chn {op op' : CmpOp} {ops : List CmpOp} {e e' : Expr} {es : List Expr} {ma : M Dt} {c : Dt → M Dt} (ha : PD X F W a ma) (hc : PCD X F W (op :: op' :: ops) (e :: e' :: es) c) (hm : lastMarks (op :: op' :: ops) (e :: e' :: es) = false := by with_unfolding_all rfl) :
    PTD X F W (.Compare a (op :: op' :: ops) (e :: e' :: es) pos) (mBool (mChn ma c)) := by
  refine ⟨fun pins s σ H Q I h => ?_⟩
  obtain ⟨ρ, θ, Hs, st, h⟩ := bool_run h
  refine isTrue_chain (thn (ha.run pins s σ H _ I (then_D OkD.anti st h fun x dx H1 Hs1 θ1 s1 st1 r1 h => ?_)) fun v s1 ⟨x, H1, I1, r1, q1⟩ => hc.tst pos pins s1 σ H1 x v Q I1 r1 q1) hm
  exact ⟨dx, ρ, θ1, Hs1, st1, r1, h⟩
theorem psd_par3 {i j k : Nat} {x y z : Str} {a b c : Expr} {ml : M (List Dt)} {px py pz pt : Pos} {kt k2 pt2} (hc : X.calm = true) (hN : X.N.Nodup) (ha : PAD X F W [a, b, c] ml)
    (hi : X.N[i]? = some x := by rfl) (hj : X.N[j]? = some y := by rfl) (hk : X.N[k]? = some z := by rfl) (hij : i ≠ j := by decide) (hik : i ≠ k := by decide) (hjk : j ≠ k := by decide)
    (hx : X.env.scope.names.lookup x = some .local := by rfl) (hy : X.env.scope.names.lookup y = some .local := by rfl) (hz : X.env.scope.names.lookup z = some .local := by rfl)
    (hw : swappedStores [.Tuple [.Name x px, .Name y py, .Name z pz] kt pt] (.Tuple [a, b, c] k2 pt2) X.env = pure (some [x, y, z]) := by rfl)
    (hs : swapsWithSole [.Tuple [.Name x px, .Name y py, .Name z pz] kt pt] (.Tuple [a, b, c] k2 pt2) pos.line X.env = pure false := by rfl) :
    PSD X F W (.Assign [.Tuple [.Name x px, .Name y py, .Name z pz] kt pt] (.Tuple [a, b, c] k2 pt2) pos) (mPar [i, j, k] ml) := by
  refine ps_imp (ps_par3 hc hN hi hj hk hij hik hjk hx hy hz ha hw hs) fun D σ H q => ?_
  obtain ⟨ρ, θ, Hs, st, q⟩ := q
  refine then_A OkS.anti st q fun vs l H1 Hs1 θ1 s1 st1 r1 h => ?_
  by_cases z : l.length = [i, j, k].length
  · rw [if_pos z] at h
    match l, z, r1, h with
    | [d1, d2, d3], _, r1, h =>
      obtain ⟨v1, r, rfl, q1, v2, r', rfl, q2, v3, r'', rfl, q3, rfl⟩ := r1
      exact ⟨v1, v2, v3, rfl, h _ H1 Hs1 (Same.refl _) (st_set (st_set (st_set st1 i q1) j q2) k q3)⟩
  · rw [if_neg z] at h
    exact h.elim
end
end Pd


namespace Pd
open PySem PySem.Spec PyProof.Rows L2
/-! ### return right(pot(script, 0)): the fresh list of two becomes the pot -/
section
variable {X : Cx} {F : Fr0} {W : WX} {a b c : Expr} {es : List Expr} {pos p : Pos} {x : Str}
def mLawR (f : Mir) (ml : M (List Dt)) : M Out := bnd ml fun l ρ θ => match l with
  | [.int i, .int j] => match f [.pot] (i, j) with
    | .ok (.d d) _ => .ok (.ret (.d d)) θ
    | _ => .bad
  | _ => .bad
def st_blank {K : PySem.W.Frag} {σ : L2.St} {H Hs H' Hs' : Hp} {ρ : DEnv} {θ θ' : Pot} {q : Addr} {v : V} (st : StOk K F σ H Hs ρ θ) (hap : F.ap ≠ some q) (h0 : F.H0 q = none) (e : FnEnd (some q) Hs H Hs' H' θ') : StOk K F σ H' Hs' (List.replicate ρ.length none) θ where
  sub := e.i
  hap := fun p h => (e.n p (st.apH h)).trans (st.hap p h)
  pot := fun p h => e.old p _ (fun z => hap (by rw [h]; exact z.symm)) (st.pot p h)
  old := fun b o h1 h2 => e.old b o (fun z => by cases z; rw [h0] at h2; cases h2) (st.old b o h1 h2)
  frs := fun b hb => (e.n b (st.H0H hb)).trans (st.frs b hb)
  dat := fun i d z => by rw [List.getElem?_replicate] at z; split at z <;> cases z
  own := fun i l z => by rw [List.getElem?_replicate] at z; split at z <;> cases z
  sep := fun i j l m a z => by rw [List.getElem?_replicate] at z; split at z <;> cases z
  pt := fun i z => by rw [List.getElem?_replicate] at z; split at z <;> cases z
  len := by rw [List.length_replicate]; exact st.len
theorem one_arg {P : Value → Prop} {v : V} {us : List Value} (r : Vals [v] us) (h : ∀ u, RelV v u → us = [u] → P u) : ∃ u, us = [u] ∧ P u := by
  cases r with
  | cons r rr =>
    cases rr
    exact ⟨_, rfl, h _ r rfl⟩
theorem lawR_call {k : Nat} {f : Addr} {fd : FuncData} {ps : List Str} {m : Mir} {ml : M (List Dt)} {e : Expr} (tk : Takes X W) (G : FnP X.prog X.w X.K X.mg X.base k f fd ps m) (hr : Room k X.A) (hg : X.A.guards = some []) (hm : X.mg x = some (.ref f)) (kp : PySem.W.keepIn X.K (.ref f) = true) (bt : Bt X.K fd ps 1 [] [] [0])
    (ha : PO X F W e ml) (hps : ps.length = 1) (gl : Gl X x)
    (hks : (backToKw pos (keywordEach [] X.env)).filterMap (·.1) = []) (hall : (backToKw pos (keywordEach [] X.env)).all (·.1.isSome) = true)
    (he : starEach [e] X.env = (false, eval e X.env) :: starEach [] X.env) (hpl : ((backTo pos (starEach [e] X.env)).any (·.1) || (backToKw pos (keywordEach [] X.env)).any (·.1.isNone)) = false) (hdb : (x == ("__debug__" : Str)) = false) :
    PE X (.Call (.Name x p) [e] [] pos) (fun σ H Q => tO X F W ml σ H fun v H1 => spF X.K X.mg ps.length m [v] H1 Q (fun c d H' => W c d σ H')) := by
  refine ⟨fun pins s σ H Q I h => ?_⟩
  refine wpAny_Call_Name_kw (ld_glob I gl hm ?_ hdb)
  have PA1 : PA X [e] (tCons (tO X F W ml) tNil) := pa_cons ha pa_nil he
  have h1 : tCons (tO X F W ml) tNil σ H (fun vs H1 => ∃ v, vs = [v] ∧ spF X.K X.mg ps.length m [v] H1 Q (fun c d H' => W c d σ H')) := by
    obtain ⟨ρ, θ, Hs, st, h⟩ := h
    exact ⟨ρ, θ, Hs, st, h.imp (fun l θ' q a xs H' Hs' s' st' e1 e2 e3 e4 e5 e6 => ⟨_, rfl, q a xs H' Hs' s' st' e1 e2 e3 e4 e5 e6⟩) fun _ _ _ z => z⟩
  have A1 := PA1.run pos pins s σ H _ I h1
  refine PySem.W.callWith_KW (h₀ := X.base) I.ok.mod.kin kp hall (thn A1 fun us s1 ⟨vs, H1, I1, r1, q1⟩ => ?_) hpl he
  obtain ⟨v, e1, q1⟩ := q1
  rw [e1] at r1
  have K1 := (pk_nil (X := X)).run pos pins s1 σ H1 (fun zs H2 => zs = [] ∧ H2 = H1) I1 ⟨rfl, rfl⟩
  refine thn K1 fun ws s2 ⟨zs, H2, I2, r2, q2⟩ => ⟨I2.kIn, ?_⟩
  obtain ⟨e2, e3⟩ := q2
  rw [e2] at r2
  rw [hks]
  have w0 : ws = [] := by cases r2; rfl
  obtain ⟨u, e4, q4⟩ := one_arg (P := fun u => us = [u] ∧ RelV v u) r1 fun u r e => ⟨e, r⟩
  rw [e4, w0]
  exact run_p G hr hg tk I2 (.cons q4.2 .nil) (bt s2 [u] [] I2.kIn rfl rfl) (by rw [e3]; exact q1)
theorem psd_lawR {pos2 : Pos} {k : Nat} {f : Addr} {fd : FuncData} {ps : List Str} {m : Mir} {ml : M (List Dt)} {e : Expr} (tk : Takes X W) (G : FnP X.prog X.w X.K X.mg X.base k f fd ps m) (hr : Room k X.A) (hg : X.A.guards = some []) (hm : X.mg x = some (.ref f)) (kp : PySem.W.keepIn X.K (.ref f) = true) (bt : Bt X.K fd ps 1 [] [] [0])
    (ha : PO X F W e ml) (hps : ps.length = 1 := by rfl) (gl : Gl X x := by rfl)
    (hks : (backToKw pos (keywordEach [] X.env)).filterMap (·.1) = [] := by rfl) (hall : (backToKw pos (keywordEach [] X.env)).all (·.1.isSome) = true := by rfl)
    (he : starEach [e] X.env = (false, eval e X.env) :: starEach [] X.env := by rfl) (hpl : ((backTo pos (starEach [e] X.env)).any (·.1) || (backToKw pos (keywordEach [] X.env)).any (·.1.isNone)) = false := by rfl) (hdb : (x == ("__debug__" : Str)) = false := by decide) :
    PSD X F W (.Return (some (.Call (.Name x p) [e] [] pos)) pos2) (mLawR m ml) := by
  refine ps_imp (ps_ret (lawR_call tk G hr hg hm kp bt ha hps gl hks hall he hpl hdb)) fun D σ H h => ?_
  · obtain ⟨ρ, θ, Hs, st, h⟩ := h
    refine then_O OkS.anti st h fun q xs l H1 Hs1 θ1 s1 st1 e1 e2 e3 e4 e5 e6 h => ?_
    split at h
    · rename_i i j
      refine ⟨hps.symm, some q, Hs1, [.pot], (i, j), st1.sub, fun p z => by cases z; exact e3, fun p z => by cases z; rw [e1, show xs = _ from Reps.ints (l := [i, j]) e2]; rfl, ⟨q, [], rfl, rfl, rfl⟩, ?_⟩
      cases em : m [.pot] (i, j) with
      | ok r θ2 =>
        rw [em] at h
        cases r with
        | d d => exact fun v H' Hs' fe rv => h σ H' Hs' fe.s _ v (st_blank (v := v) st1 e5 e4 fe) rv
        | o l => exact h.elim
      | exn x1 ρ1 θ1 => rw [em] at h; exact h.elim
      | bad => rw [em] at h; exact h.elim
    · exact h.elim
end

/-- no defaults: how the values come to the parameters -/
theorem bt0 {K : PySem.W.Frag} {x qual : Str} {params : Arguments} {body : List Stmt} {scope : Scope} {kws : List (Str × V)} {f : Addr} {fd : FuncData} {ps ks : List Str} {n : Nat} {is : List Nat} (D : FunD K x qual params body scope [] kws f fd)
    (h : ∀ (kV doc pm : Value) (an : Option Addr) (cdv ct : Value) (us ws : List Value), us.length = n → ws.length = ks.length → bindArgs (PySem.W.fnOf x qual params body scope .none kV doc pm an cdv ct) ⟨us, ks.zip ws⟩ = pure (ps.zip (pick is (us ++ (ws ++ []))))) : Bt K fd ps n ks [] is := by
  obtain ⟨oc, od, dV, kV, doc, pm, an, cdv, ct, osl, rfl, lk, hcd, hD, hK⟩ := D.ex
  rcases hD with ⟨_, rfl⟩ | ⟨e, _⟩
  · exact fun s us ws _ l1 l2 => .of_eq (h kV doc pm an cdv ct us ws l1 l2)
  · exact absurd rfl e
/-! ### the law's end -/
/-- the call of a law's def by its mirror -/
theorem lawP {P : Program} {w : World} {K : PySem.W.Frag} {mg mb : Str → Option Value} {k : Nat} {fa a : Addr} {fd : FuncData} {x : Str} {m : Mir} {s₁ : Shared} {vs : List Value} {ns : List Int}
    (kin : K.In s₁.heap) (glo : s₁.heap.Ns mainGlobals mg) (bui : s₁.heap.Ns builtinsNs mb) (boot : ∀ z : Str, z ≠ "__name__" → mb z = bootBuiltins z) (lim : s₁.heap.NoLimit) (nog : s₁.gens = #[])
    (there : s₁.heap.get? a = some { cls := .type "list", data := .seq vs.toArray }) (ints0 : IntsAre vs ns) (few : ns.length ≤ sizeLine) (room : Room k callerA)
    (G : ∀ base : Heap, K.In base → base.Ns mainGlobals mg → FnP P w K mg base k fa fd [x] m) (bind : ∀ (s : Shared) (u : Value), BindsTo s fd ⟨[u], []⟩ [(x, u)])
    (right : ∀ θ, ∃ θ', m [.dat (.lst (ns.map Dt.int))] θ = .ok (.d (.bl true)) θ') :
    codeAny (model P w) callerA (.call (.ref fa) ⟨[.ref a], []⟩) (fun r s' => r = .ok (.ret (.bool true)) ∧ OldK s₁.heap s'.heap ∧ s'.os = s₁.os ∧ AllBare s'.gens) s₁ := by
  have items := vals_ints ints0
  have many := ints0.length
  have go : ∀ H : Hp, Only H → SqL K H a (ns.map V.int) → HOk P w H s₁.heap → (∀ b, H b ≠ none → b = a) → (H a ≠ none → K.lookup a = none) → codeAny (model P w) callerA (.call (.ref fa) ⟨[.ref a], []⟩) (fun r s' => r = .ok (.ret (.bool true)) ∧ OldK s₁.heap s'.heap ∧ s'.os = s₁.os ∧ AllBare s'.gens) s₁ := by
    intro H only sq good sole apart
    have free : ∀ b, b ≠ a → H b = none := fun b n => Classical.byContradiction fun z => n (sole b z)
    have ns0 : ∀ {b : Addr} {g : Str → Option Value}, s₁.heap.Ns b g → (hidT s₁.heap H).Ns b g := fun {b g} ⟨o, es, ep, e, d, r⟩ => by
      refine ⟨o, es, ep, hidT_get e (free b fun z => ?_), d, r⟩
      rw [z, there] at e
      cases e
      cases (show Data.seq vs.toArray _ = Data.dict es ep from d)
    have kin0 : K.In (hidT s₁.heap H) := fun b o e => by
      refine hidT_get (kin b o e) (Classical.byContradiction fun z => ?_)
      have q := sole b z
      rw [q] at e z
      rw [apart z] at e
      cases e
    have md : Mod K mg (hidT s₁.heap H) := ⟨kin0, ns0 glo, ⟨mb, ns0 bui, boot⟩, by obtain ⟨mc, q1, q2⟩ := lim; exact ⟨mc, ns0 q1, q2⟩⟩
    have ev : Env0 P w K mg (hidT s₁.heap H) callerA [] s₁ H := ⟨rfl, md, fun b o e => of_hidT e, Nat.le_of_eq (hidT_size _ _), trivial, fun b hb => absurd (show b ∈ ([] : List Addr) from hb) (by simp), good, .of_eq nog⟩
    obtain ⟨θ', er⟩ := right (0, 0)
    have sp : spF K mg [x].length m [.ref a] H (fun v _ => v = .bl true) fun _ _ _ => False := by
      refine ⟨rfl, none, H, [.dat (.lst (ns.map Dt.int))], (0, 0), Same.refl _, nofun, nofun, ⟨.ref a, [], rfl, ⟨a, _, rfl, sq, Reps.of_ints ns⟩, rfl⟩, ?_⟩
      rw [er]
      exact fun v H' Hs' _ rv => rv
    have run := (G _ kin0 (ns0 glo)).run callerA [] s₁ H ⟨[.ref a], []⟩ [.ref a] [.ref a] _ _ room rfl ev (bind s₁ (.ref a)) (.cons rfl .nil) sp
    refine codeAny_mono run fun r s' h => ?_
    rcases r with e | (_ | _ | _ | u)
    · obtain ⟨_, _, _, _, _, _, _, _, _, _, _, _, z⟩ := h
      exact z.elim
    · exact False.elim h
    · exact False.elim h
    · exact False.elim h
    · obtain ⟨v, H', os, bare, un, good', rv, q⟩ := h
      obtain rfl : v = .bl true := q
      obtain rfl : u = Value.bool true := rv
      refine ⟨rfl, OldK.of_keep fun b o e => ?_, os, bare⟩
      cases hb : H b with
      | none => exact un.keep b o e hb (fun z => absurd (show b ∈ ([] : List Addr) from z) (by simp)) (by simp)
      | some u =>
        rcases only b with z | ⟨ob, xs, z⟩
        · exact absurd (hb.symm.trans z) nofun
        · obtain ⟨e1, _⟩ := good b _ z
          obtain ⟨e2, _⟩ := good' b _ (un.frzs b ob _ z)
          cases e.symm.trans e1
          exact e2
  cases hk : K.lookup a with
  | some o =>
    have e := kin a o hk
    rw [there] at e
    cases e
    exact go (fun _ => none) (fun _ => .inl rfl) (.inr ⟨_, vs.toArray, _, hk, rfl, rfl, rfl, by rw [List.size_toArray, many]; exact few, by simpa using items⟩) (fun b u z => nomatch (show (none : Option HO) = some u from z)) (fun b z => absurd rfl z) fun z => absurd rfl z
  | none =>
    refine go (upd (fun _ => none) a (.frz { cls := .type "list", data := .seq vs.toArray } (.lst (ns.map V.int)))) (fun b => ?_) (.inl (.inr ⟨_, upd_same⟩)) (fun b u z => ?_) (fun b z => Classical.byContradiction fun n => z (by rw [upd_ne n])) fun _ => hk
    · by_cases n : b = a
      · exact .inr ⟨_, _, by rw [n]; exact upd_same⟩
      · exact .inl (by rw [upd_ne n])
    · by_cases n : b = a
      · rw [n, upd_same] at z
        cases z
        rw [n]
        exact ⟨there, by rw [List.length_map]; exact few, vs, _, items, there⟩
      · rw [upd_ne n] at z
        cases z
/-- a law whose def has a mirror that says True of every script -/
theorem walkP {l : PySem.W.OpenLaw} {n k : Nat} {q : Program} {loose : List Str} {XP : (Str → Option Value) → Heap → Prop} {YP : World → Heap → Prop} {d : DefRec} {x : Str}
    (hn : l.most = some n) (hn2 : n ≤ sizeLine) (hdf : d.params.defaults = []) (hr : Room k callerA)
    (G : ∀ (w : World) (mg : Str → Option Value) (fa : Addr) (h : Heap), YP w h → h.Ns mainGlobals mg → mg d.name = some (.ref fa) →
      ∃ (K : PySem.W.Frag) (fd : FuncData) (m : Mir), K.In h ∧ (∀ (s : Shared) (u : Value), BindsTo s fd ⟨[u], []⟩ [(x, u)]) ∧ (∀ ns : List Int, ns.length ≤ n → ∀ θ, ∃ θ', m [.dat (.lst (ns.map Dt.int))] θ = .ok (.d (.bl true)) θ') ∧
        ∀ base : Heap, K.In base → base.Ns mainGlobals mg → FnP l.prog w K mg base k fa fd [x] m) :
    PySem.W.WalkO q loose XP YP l.row.toRowW d [] (fun f vs => PySem.call f vs) :=
  Att.attach_call hn hdf fun w s₀ s₁ mg mb fa o pm cd doc a vs ns Gr Y ho hd hcd hmg hobj hints hlen hg => by
    obtain ⟨K, fd, m, kin, bind, right, F⟩ := G w mg fa _ Y Gr.T.g hmg
    exact lawP kin Gr.T.g Gr.T.b Gr.T.builtins Gr.T.nolimit hg hobj hints (Nat.le_trans hlen hn2) hr F bind (right ns hlen)
end Pd


namespace Pd
open PySem PySem.Spec
/-! ### what a mirror gives: rules to simplify by -/
def Gv {α : Type} (r : Res α) (Q : α → Pot → Prop) : Prop := match r with
  | .ok a θ => Q a θ
  | _ => False
section
variable {α β : Type} {ρ : DEnv} {θ : Pot} {Q : α → Pot → Prop}
theorem Gv.imp {r : Res α} {Q Q' : α → Pot → Prop} (h : Gv r Q) (i : ∀ a θ, Q a θ → Q' a θ) : Gv r Q' := by
  cases r with
  | ok a θ => exact i a θ h
  | exn e ρ θ => exact h
  | bad => exact h
theorem Gv.ok {r : Res α} (h : Gv r Q) : ∃ a θ, r = .ok a θ ∧ Q a θ := by
  cases r with
  | ok a θ => exact ⟨a, θ, rfl, h⟩
  | exn e ρ θ => exact h.elim
  | bad => exact h.elim
theorem gv_ok (a : α) (θ : Pot) : Gv (.ok a θ) Q = Q a θ := rfl
theorem gv_bad : Gv (.bad : Res α) Q = False := rfl
theorem gv_ret (a : α) : Gv (ret a ρ θ) Q = Q a θ := rfl
theorem gv_opt (a : α) : Gv (opt (some a) ρ θ) Q = Q a θ := rfl
variable {ρ1 ρ2 : DEnv}
theorem gv_bnd (m : M β) (f : β → M α) : Gv (bnd m f ρ θ) Q = Gv (m ρ θ) fun a θ' => Gv (f a ρ θ') Q := by
  unfold bnd
  cases m ρ θ <;> rfl
theorem gv_varR (i : Nat) {Q : Dt → Pot → Prop} : Gv (mVar i ρ θ) Q = match ρ[i]? with
  | some (some (.dat d)) => Q d θ
  | _ => False := by
  unfold mVar
  rcases ρ[i]? with _ | _ | _ | _ | _ <;> rfl
def varK (x : Option (Option Ent)) (θ : Pot) (Q : Dt → Pot → Prop) : Prop := match x with
  | some (some (.dat d)) => Q d θ
  | _ => False
theorem gv_var (i : Nat) {Q : Dt → Pot → Prop} : Gv (mVar i ρ θ) Q = varK ρ[i]? θ Q := gv_varR i
theorem varK_d (d : Dt) {Q : Dt → Pot → Prop} : varK (some (some (.dat d))) θ Q = Q d θ := rfl
def potK (x : Option (Option Ent)) (p : Prop) : Prop := match x with
  | some (some .pot) => p
  | _ => False
theorem potK_p (p : Prop) : potK (some (some .pot)) p = p := rfl
def opK2 (g : Dt → Dt → Option Dt) (x : Dt) (ρ : DEnv) (Q : Dt → Pot → Prop) : Dt → Pot → Prop := fun y θ => Gv (opt (g x y) ρ θ) Q
def opK1 (g : Dt → Dt → Option Dt) (mb : M Dt) (ρ : DEnv) (Q : Dt → Pot → Prop) : Dt → Pot → Prop := fun x θ => Gv (mb ρ θ) (opK2 g x ρ Q)
theorem gv_op (g : Dt → Dt → Option Dt) (ma mb : M Dt) {Q : Dt → Pot → Prop} : Gv (mOp g ma mb ρ θ) Q = Gv (ma ρ θ) (opK1 g mb ρ Q) := by
  unfold mOp
  simp only [gv_bnd]
  rfl
theorem opK1_a (g : Dt → Dt → Option Dt) (mb : M Dt) (x : Dt) {Q : Dt → Pot → Prop} : opK1 g mb ρ Q x θ = Gv (mb ρ θ) (opK2 g x ρ Q) := rfl
theorem opK2_a (g : Dt → Dt → Option Dt) (x y : Dt) {Q : Dt → Pot → Prop} : opK2 g x ρ Q y θ = Gv (opt (g x y) ρ θ) Q := rfl
theorem gv_I (c : Int → Int → Bool) (g : Int → Int → Dt) (i j : Int) {Q : Dt → Pot → Prop} : Gv (opt (gI c g (.int i) (.int j)) ρ θ) Q = (c i j = true ∧ Q (g i j) θ) := by
  show Gv (opt (if c i j = true then some (g i j) else none) ρ θ) Q = _
  by_cases h : c i j = true
  · rw [if_pos h]
    exact propext ⟨fun q => ⟨h, q⟩, fun q => q.2⟩
  · rw [if_neg h]
    exact propext ⟨fun q => q.elim, fun q => h q.1⟩
theorem gv_eqI (i j : Int) {Q : Dt → Pot → Prop} : Gv (opt (gEq (.int i) (.int j)) ρ θ) Q = Q (.bl (decide (i = j))) θ := rfl
theorem gv_neI (i j : Int) {Q : Dt → Pot → Prop} : Gv (opt (gNe (.int i) (.int j)) ρ θ) Q = Q (.bl (!decide (i = j))) θ := rfl
def negK (Q : Dt → Pot → Prop) : Dt → Pot → Prop := fun x θ => match x with
  | .int i => Q (.int (-i)) θ
  | _ => False
theorem gv_neg (ma : M Dt) {Q : Dt → Pot → Prop} : Gv (mNeg ma ρ θ) Q = Gv (ma ρ θ) (negK Q) := by
  unfold mNeg
  rw [gv_bnd]
  congr 1
  funext x θ1
  cases x <;> rfl
theorem negK_a (i : Int) {Q : Dt → Pot → Prop} : negK Q (.int i) θ = Q (.int (-i)) θ := rfl
def boolK (Q : Bool → Pot → Prop) : Dt → Pot → Prop := fun x θ => match x with
  | .bl k => Q k θ
  | _ => False
theorem gv_bool (ma : M Dt) {Q : Bool → Pot → Prop} : Gv (mBool ma ρ θ) Q = Gv (ma ρ θ) (boolK Q) := by
  unfold mBool
  rw [gv_bnd]
  congr 1
  funext x θ1
  cases x <;> rfl
theorem boolK_a (k : Bool) {Q : Bool → Pot → Prop} : boolK Q (.bl k) θ = Q k θ := rfl
def notK (Q : Bool → Pot → Prop) : Bool → Pot → Prop := fun k θ => Q (!k) θ
theorem gv_not (ma : M Bool) {Q : Bool → Pot → Prop} : Gv (mNot ma ρ θ) Q = Gv (ma ρ θ) (notK Q) := by
  unfold mNot
  rw [gv_bnd]
  rfl
theorem notK_a (k : Bool) {Q : Bool → Pot → Prop} : notK Q k θ = Q (!k) θ := rfl
def brK (Q1 Q2 : Pot → Prop) : Bool → Pot → Prop := fun k θ => if k = true then Q1 θ else Q2 θ
theorem brK_t (Q1 Q2 : Pot → Prop) : brK Q1 Q2 true θ = Q1 θ := rfl
theorem brK_f (Q1 Q2 : Pot → Prop) : brK Q1 Q2 false θ = Q2 θ := rfl
theorem brK_d (Q1 Q2 : Pot → Prop) (p : Prop) [Decidable p] : brK Q1 Q2 (decide p) θ = ((p → Q1 θ) ∧ (¬p → Q2 θ)) := by
  unfold brK
  by_cases h : p
  · rw [decide_eq_true h, if_pos rfl]
    exact propext ⟨fun q => ⟨fun _ => q, fun z => absurd h z⟩, fun q => q.1 h⟩
  · rw [decide_eq_false h]
    exact propext ⟨fun q => ⟨fun z => absurd z h, fun _ => q⟩, fun q => q.2 h⟩
theorem brK_n (Q1 Q2 : Pot → Prop) (k : Bool) : brK Q1 Q2 (!k) θ = brK Q2 Q1 k θ := by cases k <;> rfl
def runP {α : Type} (m : M α) (ρ : DEnv) (Q : α → Pot → Prop) : Pot → Prop := fun θ => Gv (m ρ θ) Q
theorem runP_a (m : M α) : runP m ρ Q θ = Gv (m ρ θ) Q := rfl
def ansP {α : Type} (a : α) (Q : α → Pot → Prop) : Pot → Prop := fun θ => Q a θ
theorem ansP_a (a : α) : ansP a Q θ = Q a θ := rfl
theorem gv_and (ma mb : M Bool) {Q : Bool → Pot → Prop} : Gv (mAnd ma mb ρ θ) Q = Gv (ma ρ θ) (brK (runP mb ρ Q) (ansP false Q)) := by
  unfold mAnd
  rw [gv_bnd]
  congr 1
  funext k θ1
  cases k <;> rfl
theorem gv_or (ma mb : M Bool) {Q : Bool → Pot → Prop} : Gv (mOr ma mb ρ θ) Q = Gv (ma ρ θ) (brK (ansP true Q) (runP mb ρ Q)) := by
  unfold mOr
  rw [gv_bnd]
  congr 1
  funext k θ1
  cases k <;> rfl
theorem gv_andV (ma mb : M Dt) {Q : Dt → Pot → Prop} : Gv (mAndV ma mb ρ θ) Q = Gv (ma ρ θ) (boolK (brK (runP mb ρ Q) (ansP (.bl false) Q))) := by
  unfold mAndV
  rw [gv_bnd]
  congr 1
  funext x θ1
  cases x <;> try rfl
  rename_i k
  cases k <;> rfl
theorem gv_orV (ma mb : M Dt) {Q : Dt → Pot → Prop} : Gv (mOrV ma mb ρ θ) Q = Gv (ma ρ θ) (boolK (brK (ansP (.bl true) Q) (runP mb ρ Q))) := by
  unfold mOrV
  rw [gv_bnd]
  congr 1
  funext x θ1
  cases x <;> try rfl
  rename_i k
  cases k <;> rfl
def blK (Q : Dt → Pot → Prop) : Bool → Pot → Prop := fun k θ => Q (.bl k) θ
theorem blK_a (k : Bool) {Q : Dt → Pot → Prop} : blK Q k θ = Q (.bl k) θ := rfl
theorem gv_notV (ma : M Dt) {Q : Dt → Pot → Prop} : Gv (mNotV ma ρ θ) Q = Gv (ma ρ θ) (boolK (notK (blK Q))) := by
  unfold mNotV
  rw [gv_bnd]
  congr 1
  funext x θ1
  cases x <;> rfl
theorem gv_ite (mc : M Bool) (ma mb : M α) : Gv (mIte mc ma mb ρ θ) Q = Gv (mc ρ θ) (brK (runP ma ρ Q) (runP mb ρ Q)) := by
  unfold mIte
  rw [gv_bnd]
  congr 1
  funext k θ1
  cases k <;> rfl
theorem gv_if (mc : M Bool) (m n : M Out) {Q : Out → Pot → Prop} : Gv (mIf mc m n ρ θ) Q = Gv (mc ρ θ) (brK (runP m ρ Q) (runP n ρ Q)) := by
  unfold mIf
  rw [gv_bnd]
  congr 1
  funext k θ1
  cases k <;> rfl
def consK2 (x : Dt) (Q : List Dt → Pot → Prop) : List Dt → Pot → Prop := fun l θ => Q (x :: l) θ
def consK1 (mr : M (List Dt)) (ρ : DEnv) (Q : List Dt → Pot → Prop) : Dt → Pot → Prop := fun x θ => Gv (mr ρ θ) (consK2 x Q)
theorem gv_nil {Q : List Dt → Pot → Prop} : Gv (mNil ρ θ) Q = Q [] θ := rfl
theorem gv_cons (ma : M Dt) (mr : M (List Dt)) {Q : List Dt → Pot → Prop} : Gv (mCons ma mr ρ θ) Q = Gv (ma ρ θ) (consK1 mr ρ Q) := by
  unfold mCons
  simp only [gv_bnd, gv_ret]
  rfl
theorem consK1_a (mr : M (List Dt)) (x : Dt) {Q : List Dt → Pot → Prop} : consK1 mr ρ Q x θ = Gv (mr ρ θ) (consK2 x Q) := rfl
theorem consK2_a (x : Dt) (l : List Dt) {Q : List Dt → Pot → Prop} : consK2 x Q l θ = Q (x :: l) θ := rfl
def mapK {β : Type} (f : β → α) (Q : α → Pot → Prop) : β → Pot → Prop := fun b θ => Q (f b) θ
theorem mapK_a (f : β → α) (b : β) : mapK f Q b θ = Q (f b) θ := rfl
theorem gv_tup (ml : M (List Dt)) {Q : Dt → Pot → Prop} : Gv (mTup ml ρ θ) Q = Gv (ml ρ θ) (mapK Dt.tup Q) := by
  unfold mTup
  simp only [gv_bnd, gv_ret]
  rfl
theorem gv_lst (ml : M (List Dt)) {Q : Dt → Pot → Prop} : Gv (mLst ml ρ θ) Q = Gv (ml ρ θ) (mapK Dt.lst Q) := by
  unfold mLst
  simp only [gv_bnd, gv_ret]
  rfl
def optK {β : Type} (g : β → Option α) (ρ : DEnv) (Q : α → Pot → Prop) : β → Pot → Prop := fun l θ => Gv (opt (g l) ρ θ) Q
theorem optK_a (g : β → Option α) (l : β) : optK g ρ Q l θ = Gv (opt (g l) ρ θ) Q := rfl
theorem gv_B (g : List Dt → Option Dt) (ml : M (List Dt)) {Q : Dt → Pot → Prop} : Gv (mB g ml ρ θ) Q = Gv (ml ρ θ) (optK g ρ Q) := by
  unfold mB
  simp only [gv_bnd]
  rfl
def chnK (c : Dt → M Dt) (ρ : DEnv) (Q : Dt → Pot → Prop) : Dt → Pot → Prop := fun x θ => Gv (c x ρ θ) Q
theorem gv_chn (ma : M Dt) (c : Dt → M Dt) {Q : Dt → Pot → Prop} : Gv (mChn ma c ρ θ) Q = Gv (ma ρ θ) (chnK c ρ Q) := by
  unfold mChn
  simp only [gv_bnd]
  rfl
theorem chnK_a (c : Dt → M Dt) (x : Dt) {Q : Dt → Pot → Prop} : chnK c ρ Q x θ = Gv (c x ρ θ) Q := rfl
theorem gv_last (g : Dt → Dt → Option Dt) (mb : M Dt) (x : Dt) {Q : Dt → Pot → Prop} : Gv (cLast g mb x ρ θ) Q = Gv (mb ρ θ) (opK2 g x ρ Q) := by
  unfold cLast
  simp only [gv_bnd]
  rfl
def linkK (g : Dt → Dt → Option Dt) (c : Dt → M Dt) (x : Dt) (ρ : DEnv) (Q : Dt → Pot → Prop) : Dt → Pot → Prop := fun y θ => Gv (opt (g x y) ρ θ) (boolK (brK (runP (c y) ρ Q) (ansP (.bl false) Q)))
theorem gv_link (g : Dt → Dt → Option Dt) (mb : M Dt) (c : Dt → M Dt) (x : Dt) {Q : Dt → Pot → Prop} : Gv (cLink g mb c x ρ θ) Q = Gv (mb ρ θ) (linkK g c x ρ Q) := by
  unfold cLink
  simp only [gv_bnd]
  congr 1
  funext y θ1
  unfold linkK
  congr 1
  funext z θ2
  cases z <;> try rfl
  rename_i k
  cases k <;> rfl
theorem linkK_a (g : Dt → Dt → Option Dt) (c : Dt → M Dt) (x y : Dt) {Q : Dt → Pot → Prop} : linkK g c x ρ Q y θ = Gv (opt (g x y) ρ θ) (boolK (brK (runP (c y) ρ Q) (ansP (.bl false) Q))) := rfl
def isiF (n : String) (x : Dt) : Option Dt := (isT n x).map Dt.bl
theorem gv_isi (n : String) (ma : M Dt) {Q : Dt → Pot → Prop} : Gv (mIsi n ma ρ θ) Q = Gv (ma ρ θ) (optK (isiF n) ρ Q) := by
  unfold mIsi
  simp only [gv_bnd]
  rfl
theorem isi_ii (i : Int) {Q : Dt → Pot → Prop} : Gv (opt ((isiF "int") (.int i)) ρ θ) Q = Q (.bl true) θ := rfl
theorem isi_bi (i : Int) {Q : Dt → Pot → Prop} : Gv (opt ((isiF "bool") (.int i)) ρ θ) Q = Q (.bl false) θ := rfl
theorem isi_tt (l : List Dt) {Q : Dt → Pot → Prop} : Gv (opt ((isiF "tuple") (.tup l)) ρ θ) Q = Q (.bl true) θ := rfl
theorem isi_ll (l : List Dt) {Q : Dt → Pot → Prop} : Gv (opt ((isiF "list") (.lst l)) ρ θ) Q = Q (.bl true) θ := rfl
theorem isi_ss (s : Str) {Q : Dt → Pot → Prop} : Gv (opt ((isiF "str") (.str s)) ρ θ) Q = Q (.bl true) θ := rfl
theorem isi_ti (i : Int) {Q : Dt → Pot → Prop} : Gv (opt ((isiF "tuple") (.int i)) ρ θ) Q = Q (.bl false) θ := rfl
theorem isi_li (i : Int) {Q : Dt → Pot → Prop} : Gv (opt ((isiF "list") (.int i)) ρ θ) Q = Q (.bl false) θ := rfl
theorem isi_si (i : Int) {Q : Dt → Pot → Prop} : Gv (opt ((isiF "str") (.int i)) ρ θ) Q = Q (.bl false) θ := rfl
theorem isi_tl (l : List Dt) {Q : Dt → Pot → Prop} : Gv (opt ((isiF "tuple") (.lst l)) ρ θ) Q = Q (.bl false) θ := rfl
theorem isi_lt (l : List Dt) {Q : Dt → Pot → Prop} : Gv (opt ((isiF "list") (.tup l)) ρ θ) Q = Q (.bl false) θ := rfl
theorem isi_it (l : List Dt) {Q : Dt → Pot → Prop} : Gv (opt ((isiF "int") (.tup l)) ρ θ) Q = Q (.bl false) θ := rfl
theorem isi_il (l : List Dt) {Q : Dt → Pot → Prop} : Gv (opt ((isiF "int") (.lst l)) ρ θ) Q = Q (.bl false) θ := rfl
theorem isi_is (s : Str) {Q : Dt → Pot → Prop} : Gv (opt ((isiF "int") (.str s)) ρ θ) Q = Q (.bl false) θ := rfl
theorem isi_bs (s : Str) {Q : Dt → Pot → Prop} : Gv (opt ((isiF "bool") (.str s)) ρ θ) Q = Q (.bl false) θ := rfl
theorem isi_ib (b : Bool) {Q : Dt → Pot → Prop} : Gv (opt ((isiF "int") (.bl b)) ρ θ) Q = Q (.bl true) θ := rfl
theorem isi_bb (b : Bool) {Q : Dt → Pot → Prop} : Gv (opt ((isiF "bool") (.bl b)) ρ θ) Q = Q (.bl true) θ := rfl
theorem isi_st (l : List Dt) {Q : Dt → Pot → Prop} : Gv (opt ((isiF "str") (.tup l)) ρ θ) Q = Q (.bl false) θ := rfl
theorem isi_sl (l : List Dt) {Q : Dt → Pot → Prop} : Gv (opt ((isiF "str") (.lst l)) ρ θ) Q = Q (.bl false) θ := rfl
def sqK (n : M Out) (Q : Out → Pot → Prop) : Out → Pot → Prop := fun o θ => match o with
  | .next ρ1 => Gv (n ρ1 θ) Q
  | o => Q o θ
theorem gv_seq (m n : M Out) {Q : Out → Pot → Prop} : Gv (mSeq m n ρ θ) Q = Gv (m ρ θ) (sqK n Q) := by
  unfold mSeq
  cases m ρ θ with
  | ok o θ1 => cases o <;> rfl
  | exn e ρ θ => rfl
  | bad => rfl
theorem sqK_n (n : M Out) (ρ : DEnv) {Q : Out → Pot → Prop} : sqK n Q (.next ρ) θ = Gv (n ρ θ) Q := rfl
theorem sqK_r (n : M Out) (r : Ret) {Q : Out → Pot → Prop} : sqK n Q (.ret r) θ = Q (.ret r) θ := rfl
theorem sqK_b (n : M Out) (ρ : DEnv) {Q : Out → Pot → Prop} : sqK n Q (.brk ρ) θ = Q (.brk ρ) θ := rfl
theorem sqK_c (n : M Out) (ρ : DEnv) {Q : Out → Pot → Prop} : sqK n Q (.cnt ρ) θ = Q (.cnt ρ) θ := rfl
theorem gv_next {Q : Out → Pot → Prop} : Gv (mNext ρ θ) Q = Q (.next ρ) θ := rfl
theorem gv_brk {Q : Out → Pot → Prop} : Gv (mBrk ρ θ) Q = Q (.brk ρ) θ := rfl
theorem gv_cnt {Q : Out → Pot → Prop} : Gv (mCnt ρ θ) Q = Q (.cnt ρ) θ := rfl
theorem gv_retN {Q : Out → Pot → Prop} : Gv (mRetN ρ θ) Q = Q (.ret (.d .non)) θ := rfl
def setK (i : Nat) (ρ : DEnv) (Q : Out → Pot → Prop) : Dt → Pot → Prop := fun d θ => Q (.next (ρ.set i (some (.dat d)))) θ
theorem gv_set (i : Nat) (ma : M Dt) {Q : Out → Pot → Prop} : Gv (mSet i ma ρ θ) Q = Gv (ma ρ θ) (setK i ρ Q) := by
  unfold mSet
  rw [gv_bnd]
  rfl
theorem setK_a (i : Nat) (d : Dt) {Q : Out → Pot → Prop} : setK i ρ Q d θ = Q (.next (ρ.set i (some (.dat d)))) θ := rfl
def parK (is : List Nat) (ρ : DEnv) (Q : Out → Pot → Prop) : List Dt → Pot → Prop := fun l θ => l.length = is.length ∧ Q (.next ((is.zip l).foldl (fun ρ p => ρ.set p.1 (some (.dat p.2))) ρ)) θ
theorem gv_par (is : List Nat) (ml : M (List Dt)) {Q : Out → Pot → Prop} : Gv (mPar is ml ρ θ) Q = Gv (ml ρ θ) (parK is ρ Q) := by
  unfold mPar
  rw [gv_bnd]
  congr 1
  funext l θ1
  unfold parK
  by_cases h : l.length = is.length
  · rw [if_pos h]
    exact propext ⟨fun q => ⟨h, q⟩, fun q => q.2⟩
  · rw [if_neg h]
    exact propext ⟨fun q => q.elim, fun q => h q.1⟩
theorem parK_2 (i j : Nat) (x y : Dt) {Q : Out → Pot → Prop} : parK [i, j] ρ Q [x, y] θ = Q (.next ((ρ.set i (some (.dat x))).set j (some (.dat y)))) θ := propext ⟨fun q => q.2, fun q => ⟨rfl, q⟩⟩
theorem parK_3 (i j k : Nat) (x y z : Dt) {Q : Out → Pot → Prop} : parK [i, j, k] ρ Q [x, y, z] θ = Q (.next (((ρ.set i (some (.dat x))).set j (some (.dat y))).set k (some (.dat z)))) θ := propext ⟨fun q => q.2, fun q => ⟨rfl, q⟩⟩
def asgR (x : Option DEnv) (θ : Pot) (Q : Out → Pot → Prop) : Prop := match x with
  | some ρ' => Q (.next ρ') θ
  | none => False
def asgK (T : Tgt) (ρ : DEnv) (Q : Out → Pot → Prop) : Dt → Pot → Prop := fun d θ => asgR (bindT T d ρ) θ Q
theorem gv_asg (T : Tgt) (ma : M Dt) {Q : Out → Pot → Prop} : Gv (mAsg T ma ρ θ) Q = Gv (ma ρ θ) (asgK T ρ Q) := by
  unfold mAsg
  rw [gv_bnd]
  congr 1
  funext d θ1
  unfold asgK
  cases bindT T d ρ <;> rfl
theorem asgK_a (T : Tgt) (d : Dt) {Q : Out → Pot → Prop} : asgK T ρ Q d θ = asgR (bindT T d ρ) θ Q := rfl
theorem asgR_s (ρ : DEnv) {Q : Out → Pot → Prop} : asgR (some ρ) θ Q = Q (.next ρ) θ := rfl
theorem bindT_n (i : Nat) (d : Dt) : bindT (.n i) d ρ = some (ρ.set i (some (.dat d))) := rfl
theorem bindT_2 (i j : Nat) (x y : Dt) : bindT (.t [i, j]) (.tup [x, y]) ρ = some ((ρ.set i (some (.dat x))).set j (some (.dat y))) := rfl
theorem bindT_3 (i j k : Nat) (x y z : Dt) : bindT (.t [i, j, k]) (.tup [x, y, z]) ρ = some (((ρ.set i (some (.dat x))).set j (some (.dat y))).set k (some (.dat z))) := rfl
def retK (Q : Out → Pot → Prop) : Dt → Pot → Prop := fun d θ => Q (.ret (.d d)) θ
theorem gv_retS (ma : M Dt) {Q : Out → Pot → Prop} : Gv (mRet ma ρ θ) Q = Gv (ma ρ θ) (retK Q) := by
  unfold mRet
  rw [gv_bnd]
  rfl
theorem retK_a (d : Dt) {Q : Out → Pot → Prop} : retK Q d θ = Q (.ret (.d d)) θ := rfl
def retOK (Q : Out → Pot → Prop) : List Dt → Pot → Prop := fun d θ => Q (.ret (.o d)) θ
theorem gv_retO (ma : M (List Dt)) {Q : Out → Pot → Prop} : Gv (mRetO ma ρ θ) Q = Gv (ma ρ θ) (retOK Q) := by
  unfold mRetO
  rw [gv_bnd]
  rfl
theorem retOK_a (d : List Dt) {Q : Out → Pot → Prop} : retOK Q d θ = Q (.ret (.o d)) θ := rfl
def fnK (Q : Ret → Pot → Prop) : Out → Pot → Prop := fun o θ => match o with
  | .next _ => Q (.d .non) θ
  | .ret r => Q r θ
  | _ => False
theorem gv_fn (n : Nat) (m : M Out) (es : List Ent) {Q : Ret → Pot → Prop} : Gv (mFn n m es θ) Q = Gv (m (es.map some ++ List.replicate (n - es.length) none) θ) (fnK Q) := by
  unfold mFn
  cases m (es.map some ++ List.replicate (n - es.length) none) θ with
  | ok o θ1 => cases o <;> rfl
  | exn e ρ θ => rfl
  | bad => rfl
theorem fnK_n (ρ : DEnv) {Q : Ret → Pot → Prop} : fnK Q (.next ρ) θ = Q (.d .non) θ := rfl
theorem fnK_r (r : Ret) {Q : Ret → Pot → Prop} : fnK Q (.ret r) θ = Q r θ := rfl
def ecK2 (x : Dt) (Q : List Ent → Pot → Prop) : List Ent → Pot → Prop := fun l θ => Q (.dat x :: l) θ
def ecK1 (mr : M (List Ent)) (ρ : DEnv) (Q : List Ent → Pot → Prop) : Dt → Pot → Prop := fun x θ => Gv (mr ρ θ) (ecK2 x Q)
def epK (Q : List Ent → Pot → Prop) : List Ent → Pot → Prop := fun l θ => Q (.pot :: l) θ
theorem gv_enil {Q : List Ent → Pot → Prop} : Gv (mENil ρ θ) Q = Q [] θ := rfl
theorem gv_econs (ma : M Dt) (mr : M (List Ent)) {Q : List Ent → Pot → Prop} : Gv (mECons ma mr ρ θ) Q = Gv (ma ρ θ) (ecK1 mr ρ Q) := by
  unfold mECons
  simp only [gv_bnd, gv_ret]
  rfl
theorem ecK1_a (mr : M (List Ent)) (x : Dt) {Q : List Ent → Pot → Prop} : ecK1 mr ρ Q x θ = Gv (mr ρ θ) (ecK2 x Q) := rfl
theorem ecK2_a (x : Dt) (l : List Ent) {Q : List Ent → Pot → Prop} : ecK2 x Q l θ = Q (.dat x :: l) θ := rfl
theorem gv_epot (i : Nat) (mr : M (List Ent)) {Q : List Ent → Pot → Prop} : Gv (mEPot i mr ρ θ) Q = potK ρ[i]? (Gv (mr ρ θ) (epK Q)) := by
  unfold mEPot
  rcases ρ[i]? with _ | _ | _ | _ | _ <;> try rfl
  show Gv (bnd mr (fun l => ret (.pot :: l)) ρ θ) Q = _
  rw [gv_bnd]
  rfl
theorem epK_a (l : List Ent) {Q : List Ent → Pot → Prop} : epK Q l θ = Q (.pot :: l) θ := rfl
def rdK (Q : Dt → Pot → Prop) : Ret → Pot → Prop := fun v θ => match v with
  | .d d => Q d θ
  | .o l => Q (.lst l) θ
def roK (Q : List Dt → Pot → Prop) : Ret → Pot → Prop := fun v θ => match v with
  | .d _ => False
  | .o l => Q l θ
theorem rdK_d (d : Dt) {Q : Dt → Pot → Prop} : rdK Q (.d d) θ = Q d θ := rfl
theorem rdK_o (d : List Dt) {Q : Dt → Pot → Prop} : rdK Q (.o d) θ = Q (.lst d) θ := rfl
theorem roK_o (d : List Dt) {Q : List Dt → Pot → Prop} : roK Q (.o d) θ = Q d θ := rfl
def cK2 (f : Mir) (des : List Ent) (is : List Nat) (l : List Ent) (Q : Dt → Pot → Prop) : List Ent → Pot → Prop := fun r θ => Gv (f (pick is (l ++ (r ++ des))) θ) (rdK Q)
def cK1 (f : Mir) (des : List Ent) (is : List Nat) (mk : M (List Ent)) (ρ : DEnv) (Q : Dt → Pot → Prop) : List Ent → Pot → Prop := fun l θ => Gv (mk ρ θ) (cK2 f des is l Q)
theorem gv_call (f : Mir) (des : List Ent) (is : List Nat) (ma mk : M (List Ent)) {Q : Dt → Pot → Prop} : Gv (mCallD f des is ma mk ρ θ) Q = Gv (ma ρ θ) (cK1 f des is mk ρ Q) := by
  unfold mCallD
  simp only [gv_bnd]
  congr 1
  funext l θ1
  unfold cK1
  congr 1
  funext r θ2
  unfold cK2 callD
  cases f (pick is (l ++ (r ++ des))) θ2 with
  | ok v θ3 => cases v <;> rfl
  | exn e ρ θ => rfl
  | bad => rfl
theorem cK1_a (f : Mir) (des : List Ent) (is : List Nat) (mk : M (List Ent)) (l : List Ent) {Q : Dt → Pot → Prop} : cK1 f des is mk ρ Q l θ = Gv (mk ρ θ) (cK2 f des is l Q) := rfl
theorem cK2_a (f : Mir) (des : List Ent) (is : List Nat) (l r : List Ent) {Q : Dt → Pot → Prop} : cK2 f des is l Q r θ = Gv (f (pick is (l ++ (r ++ des))) θ) (rdK Q) := rfl
def coK2 (f : Mir) (des : List Ent) (is : List Nat) (l : List Ent) (Q : List Dt → Pot → Prop) : List Ent → Pot → Prop := fun r θ => Gv (f (pick is (l ++ (r ++ des))) θ) (roK Q)
def coK1 (f : Mir) (des : List Ent) (is : List Nat) (mk : M (List Ent)) (ρ : DEnv) (Q : List Dt → Pot → Prop) : List Ent → Pot → Prop := fun l θ => Gv (mk ρ θ) (coK2 f des is l Q)
theorem gv_callO (f : Mir) (des : List Ent) (is : List Nat) (ma mk : M (List Ent)) {Q : List Dt → Pot → Prop} : Gv (mCallO f des is ma mk ρ θ) Q = Gv (ma ρ θ) (coK1 f des is mk ρ Q) := by
  unfold mCallO
  simp only [gv_bnd]
  congr 1
  funext l θ1
  unfold coK1
  congr 1
  funext r θ2
  unfold coK2 callO
  cases f (pick is (l ++ (r ++ des))) θ2 with
  | ok v θ3 => cases v <;> rfl
  | exn e ρ θ => rfl
  | bad => rfl
theorem coK1_a (f : Mir) (des : List Ent) (is : List Nat) (mk : M (List Ent)) (l : List Ent) {Q : List Dt → Pot → Prop} : coK1 f des is mk ρ Q l θ = Gv (mk ρ θ) (coK2 f des is l Q) := rfl
theorem coK2_a (f : Mir) (des : List Ent) (is : List Nat) (l r : List Ent) {Q : List Dt → Pot → Prop} : coK2 f des is l Q r θ = Gv (f (pick is (l ++ (r ++ des))) θ) (roK Q) := rfl
theorem gv_lawR (f : Mir) (ml : M (List Dt)) {Q : Out → Pot → Prop} : Gv (mLawR f ml ρ θ) Q = Gv (ml ρ θ) fun l θ1 => match l with
  | [.int i, .int j] => Gv (f [.pot] (i, j)) fun r _ => match r with
    | .d d => Q (.ret (.d d)) θ1
    | .o _ => False
  | _ => False := by
  unfold mLawR
  rw [gv_bnd]
  congr 1
  funext l θ1
  match l with
  | [] => rfl
  | [.int i] => rfl
  | [.int i, .int j] =>
    dsimp only
    cases f [.pot] (i, j) with
    | ok v θ3 => cases v <;> rfl
    | exn e ρ θ => rfl
    | bad => rfl
  | .int i :: .int j :: _ :: _ => rfl
  | .int i :: .non :: _ => rfl
  | .int i :: .bl _ :: _ => rfl
  | .int i :: .str _ :: _ => rfl
  | .int i :: .lst _ :: _ => rfl
  | .int i :: .tup _ :: _ => rfl
  | .int i :: .raw _ :: _ => rfl
  | .non :: _ => rfl
  | .bl _ :: _ => rfl
  | .str _ :: _ => rfl
  | .lst _ :: _ => rfl
  | .tup _ :: _ => rfl
  | .raw _ :: _ => rfl
def potIK (k : Nat) (θ : Pot) : Dt := .int (if k = 0 then θ.1 else θ.2)
theorem gv_potI (i k : Nat) {Q : Dt → Pot → Prop} : Gv (mPotI i k ρ θ) Q = potK ρ[i]? (Q (potIK k θ) θ) := by
  unfold mPotI
  rcases ρ[i]? with _ | _ | _ | _ | _ <;> rfl
theorem potI_0 : potIK 0 θ = .int θ.1 := rfl
theorem potI_1 : potIK 1 θ = .int θ.2 := rfl
def potSK (i : Nat) (ρ : DEnv) (Q : Out → Pot → Prop) : Dt → Pot → Prop := fun d θ => match d with
  | .int n => potK ρ[i]? (Q (.next ρ) (θ.1, n))
  | _ => False
theorem gv_potS (i : Nat) (ma : M Dt) {Q : Out → Pot → Prop} : Gv (mPotS i ma ρ θ) Q = Gv (ma ρ θ) (potSK i ρ Q) := by
  unfold mPotS
  rw [gv_bnd]
  congr 1
  funext d θ1
  unfold potSK
  cases d <;> rcases ρ[i]? with _ | _ | _ | _ | _ <;> rfl
theorem potSK_a (i : Nat) (n : Int) {Q : Out → Pot → Prop} : potSK i ρ Q (.int n) θ = potK ρ[i]? (Q (.next ρ) (θ.1, n)) := rfl
def potDK (j : Nat) (i1 : Int) (ρ : DEnv) (Q : Out → Pot → Prop) : Dt → Pot → Prop := fun d θ => match d with
  | .int n => (0 < n ∧ small n = true) ∧ Q (.next (ρ.set j (some (.dat (.int (i1 % n)))))) (i1 / n, θ.2)
  | _ => False
theorem gv_potD (i j : Nat) (mb : M Dt) {Q : Out → Pot → Prop} : Gv (mPotD i j mb ρ θ) Q = potK ρ[i]? (Gv (mb ρ θ) (potDK j θ.1 ρ Q)) := by
  unfold mPotD
  rcases ρ[i]? with _ | _ | _ | _ | _ <;> try rfl
  show Gv (bnd mb _ ρ θ) Q = Gv (mb ρ θ) (potDK j θ.1 ρ Q)
  rw [gv_bnd]
  congr 1
  funext d θ1
  unfold potDK
  cases d with
  | int n =>
    dsimp only
    by_cases h : (decide (0 < n) && small n) = true
    · rw [if_pos h]
      exact propext ⟨fun q => ⟨by simpa using h, q⟩, fun q => q.2⟩
    · rw [if_neg h]
      exact propext ⟨fun q => q.elim, fun q => h (by simpa using q.1)⟩
  | _ => rfl
theorem potDK_a (j : Nat) (i1 n : Int) {Q : Out → Pot → Prop} : potDK j i1 ρ Q (.int n) θ = ((0 < n ∧ small n = true) ∧ Q (.next (ρ.set j (some (.dat (.int (i1 % n)))))) (i1 / n, θ.2)) := rfl
theorem gv_rng (g : List Dt → Option (List Dt)) (ml : M (List Dt)) {Q : List Dt → Pot → Prop} : Gv (mRng g ml ρ θ) Q = Gv (ml ρ θ) (optK g ρ Q) := by
  unfold mRng
  rw [gv_bnd]
  rfl
theorem gv_seqI (ma : M Dt) {Q : List Dt → Pot → Prop} : Gv (mSeqI ma ρ θ) Q = Gv (ma ρ θ) (optK seqOf ρ Q) := by
  unfold mSeqI
  rw [gv_bnd]
  rfl
theorem seqOf_l (l : List Dt) {Q : List Dt → Pot → Prop} : Gv (opt (seqOf (.lst l)) ρ θ) Q = Q l θ := rfl
theorem seqOf_t (l : List Dt) {Q : List Dt → Pot → Prop} : Gv (opt (seqOf (.tup l)) ρ θ) Q = Q l θ := rfl
def forK (T : Tgt) (body : M Out) (ρ : DEnv) (Q : Out → Pot → Prop) : List Dt → Pot → Prop := fun l θ => Gv (forGo T body l ρ θ) Q
theorem gv_for (T : Tgt) (ms : M (List Dt)) (body : M Out) {Q : Out → Pot → Prop} : Gv (mFor T ms body ρ θ) Q = Gv (ms ρ θ) (forK T body ρ Q) := by
  unfold mFor
  rw [gv_bnd]
  rfl
theorem forK_a (T : Tgt) (body : M Out) (l : List Dt) {Q : Out → Pot → Prop} : forK T body ρ Q l θ = Gv (forGo T body l ρ θ) Q := rfl
theorem gv_go0 (T : Tgt) (body : M Out) {Q : Out → Pot → Prop} : Gv (forGo T body [] ρ θ) Q = Q (.next ρ) θ := rfl
theorem gv_go1 (T : Tgt) (body : M Out) (d : Dt) (ds : List Dt) {Q : Out → Pot → Prop} : Gv (forGo T body (d :: ds) ρ θ) Q = match bindT T d ρ with
  | none => False
  | some ρ1 => Gv (body ρ1 θ) fun o θ2 => (match o with
    | .next ρ2 => Gv (forGo T body ds ρ2 θ2) Q
    | .cnt ρ2 => Gv (forGo T body ds ρ2 θ2) Q
    | .brk ρ2 => Q (.next ρ2) θ2
    | r => Q r θ2) := by
  rw [forGo]
  dsimp only
  cases bindT T d ρ with
  | none => rfl
  | some ρ1 =>
    dsimp only
    cases body ρ1 θ with
    | ok o θ1 => cases o <;> rfl
    | exn e ρ θ => rfl
    | bad => rfl
/-- a loop by what holds ahead of each turn -/
theorem gv_for_inv {T : Tgt} {body : M Out} {Q : Out → Pot → Prop} (I : List Dt → DEnv → Pot → Prop) (h0 : ∀ ρ θ, I [] ρ θ → Q (.next ρ) θ)
    (h1 : ∀ d ds ρ θ, I (d :: ds) ρ θ → ∃ ρ1, bindT T d ρ = some ρ1 ∧ Gv (body ρ1 θ) fun o θ2 => match o with
      | .next ρ2 => I ds ρ2 θ2
      | .cnt ρ2 => I ds ρ2 θ2
      | .brk ρ2 => Q (.next ρ2) θ2
      | r => Q r θ2) : ∀ (l : List Dt) (ρ : DEnv) (θ : Pot), I l ρ θ → Gv (forGo T body l ρ θ) Q
  | [], ρ, θ, h => h0 ρ θ h
  | d :: ds, ρ, θ, h => by
    obtain ⟨ρ1, e, q⟩ := h1 d ds ρ θ h
    rw [gv_go1, e]
    refine q.imp fun o θ2 z => ?_
    cases o with
    | next ρ2 => exact gv_for_inv I h0 h1 ds ρ2 θ2 z
    | cnt ρ2 => exact gv_for_inv I h0 h1 ds ρ2 θ2 z
    | brk ρ2 => exact z
    | ret r => exact z
def compK (T : Tgt) (vs : List Nat) (tt : M Bool) (elt : M Dt) (ρ : DEnv) (Q : List Dt → Pot → Prop) : List Dt → Pot → Prop := fun l θ => l.length < bigL ∧ Gv (compGo T vs tt elt l ρ θ) Q
theorem gv_comp (T : Tgt) (vs : List Nat) (ms : M (List Dt)) (tt : M Bool) (elt : M Dt) {Q : List Dt → Pot → Prop} : Gv (mComp T vs ms tt elt ρ θ) Q = Gv (ms ρ θ) (compK T vs tt elt ρ Q) := by
  unfold mComp
  rw [gv_bnd]
  congr 1
  funext l θ1
  unfold compK
  by_cases h : l.length < bigL
  · rw [if_pos h]
    exact propext ⟨fun q => ⟨h, q⟩, fun q => q.2⟩
  · rw [if_neg h]
    exact propext ⟨fun q => q.elim, fun q => h q.1⟩
theorem compK_a (T : Tgt) (vs : List Nat) (tt : M Bool) (elt : M Dt) (l : List Dt) {Q : List Dt → Pot → Prop} : compK T vs tt elt ρ Q l θ = (l.length < bigL ∧ Gv (compGo T vs tt elt l ρ θ) Q) := rfl
theorem gv_comp0 (T : Tgt) (vs : List Nat) (tt : M Bool) (elt : M Dt) {Q : List Dt → Pot → Prop} : Gv (compGo T vs tt elt [] ρ θ) Q = Q [] θ := rfl
theorem gv_comp1R (T : Tgt) (vs : List Nat) (tt : M Bool) (elt : M Dt) (d : Dt) (ds : List Dt) {Q : List Dt → Pot → Prop} : Gv (compGo T vs tt elt (d :: ds) ρ θ) Q = match bindT T d (wipeD (hide ρ) vs) with
  | none => False
  | some ρ1 => Gv (tt ρ1 θ) fun k θ1 => if k = true then Gv (elt ρ1 θ1) fun y θ2 => Gv (compGo T vs tt elt ds ρ θ2) fun ys θ3 => Q (y :: ys) θ3 else Gv (compGo T vs tt elt ds ρ θ1) Q := by
  rw [compGo]
  dsimp only
  cases bindT T d (wipeD (hide ρ) vs) with
  | none => rfl
  | some ρ1 =>
    dsimp only
    cases tt ρ1 θ with
    | ok k θ1 =>
      rw [gv_ok]
      cases k with
      | false => rfl
      | true =>
        rw [if_pos rfl]
        dsimp only
        cases elt ρ1 θ1 with
        | ok y θ2 =>
          dsimp only
          rw [gv_bnd]
          rfl
        | exn e ρ θ => rfl
        | bad => rfl
    | exn e ρ θ => rfl
    | bad => rfl
def cmpR (x : Option DEnv) (p : DEnv → Prop) : Prop := match x with
  | some ρ => p ρ
  | none => False
theorem cmpR_s (ρ : DEnv) (p : DEnv → Prop) : cmpR (some ρ) p = p ρ := rfl
def cmpK2 (T : Tgt) (vs : List Nat) (tt : M Bool) (elt : M Dt) (ds : List Dt) (ρ : DEnv) (Q : List Dt → Pot → Prop) : Dt → Pot → Prop := fun y θ => Gv (compGo T vs tt elt ds ρ θ) (consK2 y Q)
theorem cmpK2_a (T : Tgt) (vs : List Nat) (tt : M Bool) (elt : M Dt) (ds : List Dt) (y : Dt) {Q : List Dt → Pot → Prop} : cmpK2 T vs tt elt ds ρ Q y θ = Gv (compGo T vs tt elt ds ρ θ) (consK2 y Q) := rfl
def cmpK1 (T : Tgt) (vs : List Nat) (tt : M Bool) (elt : M Dt) (ds : List Dt) (ρ : DEnv) (θ : Pot) (Q : List Dt → Pot → Prop) : DEnv → Prop := fun ρ1 => Gv (tt ρ1 θ) (brK (runP elt ρ1 (cmpK2 T vs tt elt ds ρ Q)) (runP (compGo T vs tt elt ds) ρ Q))
theorem cmpK1_a (T : Tgt) (vs : List Nat) (tt : M Bool) (elt : M Dt) (ds : List Dt) {Q : List Dt → Pot → Prop} : cmpK1 T vs tt elt ds ρ θ Q ρ1 = Gv (tt ρ1 θ) (brK (runP elt ρ1 (cmpK2 T vs tt elt ds ρ Q)) (runP (compGo T vs tt elt ds) ρ Q)) := rfl
theorem gv_comp1 (T : Tgt) (vs : List Nat) (tt : M Bool) (elt : M Dt) (d : Dt) (ds : List Dt) {Q : List Dt → Pot → Prop} : Gv (compGo T vs tt elt (d :: ds) ρ θ) Q = cmpR (bindT T d (wipeD (hide ρ) vs)) (cmpK1 T vs tt elt ds ρ θ Q) := by
  rw [gv_comp1R]
  cases bindT T d (wipeD (hide ρ) vs) with
  | none => rfl
  | some ρ1 =>
    show Gv (tt ρ1 θ) _ = Gv (tt ρ1 θ) _
    refine congrArg (Gv (tt ρ1 θ)) ?_
    funext k θ1
    cases k <;> rfl
theorem gv_tt1 {Q : Bool → Pot → Prop} : Gv (tt1 ρ θ) Q = Q true θ := rfl
theorem hide_nil : hide [] = [] := rfl
theorem hide_0 (ρ : DEnv) : hide (none :: ρ) = none :: hide ρ := rfl
theorem hide_d (d : Dt) (ρ : DEnv) : hide (some (.dat d) :: ρ) = some (.dat d) :: hide ρ := rfl
theorem hide_p (ρ : DEnv) : hide (some .pot :: ρ) = some .pot :: hide ρ := rfl
theorem hide_o (l : List Dt) (ρ : DEnv) : hide (some (.own l) :: ρ) = none :: hide ρ := rfl
theorem wipeD_nil (ρ : DEnv) : wipeD ρ [] = ρ := rfl
theorem wipeD_cons (v : Nat) (vs : List Nat) (ρ : DEnv) : wipeD ρ (v :: vs) = (wipeD ρ vs).set v none := rfl
end
theorem pick_nil {α : Type} (l : List α) : pick [] l = [] := rfl
theorem pick_consR {α : Type} (i : Nat) (is : List Nat) (l : List α) : pick (i :: is) l = match l[i]? with
  | some x => x :: pick is l
  | none => pick is l := by
  unfold pick
  rw [List.filterMap_cons]
  cases l[i]? <;> rfl
theorem pick_0 {α : Type} (is : List Nat) (x : α) (l : List α) : pick (0 :: is) (x :: l) = x :: pick is (x :: l) := rfl
theorem pick_1 {α : Type} (is : List Nat) (x y : α) (l : List α) : pick (1 :: is) (x :: y :: l) = y :: pick is (x :: y :: l) := rfl
theorem pick_2 {α : Type} (is : List Nat) (x y z : α) (l : List α) : pick (2 :: is) (x :: y :: z :: l) = z :: pick is (x :: y :: z :: l) := rfl
theorem pick_3 {α : Type} (is : List Nat) (x y z u : α) (l : List α) : pick (3 :: is) (x :: y :: z :: u :: l) = u :: pick is (x :: y :: z :: u :: l) := rfl
theorem pick_4 {α : Type} (is : List Nat) (x y z u v : α) (l : List α) : pick (4 :: is) (x :: y :: z :: u :: v :: l) = v :: pick is (x :: y :: z :: u :: v :: l) := rfl
theorem pick_5 {α : Type} (is : List Nat) (x y z u v w : α) (l : List α) : pick (5 :: is) (x :: y :: z :: u :: v :: w :: l) = w :: pick is (x :: y :: z :: u :: v :: w :: l) := rfl
/-- what a drawn pot is -/
def PotOk (θ : Pot) : Prop := 0 ≤ θ.1 ∧ 0 ≤ θ.2 ∧ θ.2 < 4294967296
theorem ite_tf {p : Prop} [Decidable p] {a b : Prop} : (if p then a else b) = ((p → a) ∧ (¬p → b)) := by
  by_cases h : p
  · rw [if_pos h]
    exact propext ⟨fun q => ⟨fun _ => q, fun z => absurd h z⟩, fun q => q.1 h⟩
  · rw [if_neg h]
    exact propext ⟨fun q => ⟨fun z => absurd z h, fun _ => q⟩, fun q => q.2 h⟩
theorem fm_pos {i n : Int} (h : 0 < n) : i.fmod n = i % n := Int.fmod_eq_emod_of_nonneg i (Int.le_of_lt h)
theorem fd_pos {i n : Int} (h : 0 < n) : i.fdiv n = i / n := Int.fdiv_eq_ediv_of_nonneg i (Int.le_of_lt h)
/-! ### bounds -/
theorem small_of {i : Int} (h1 : -1606938044258990275541962092341162602522202993782792835301376 < i) (h2 : i < 1606938044258990275541962092341162602522202993782792835301376) : small i = true := by
  refine decide_eq_true ?_
  by_cases z : i.natAbs = 0
  · rw [z]
    decide
  · have e : i.natAbs < 2 ^ 200 := by
      have e0 : (2 : Nat) ^ 200 = 1606938044258990275541962092341162602522202993782792835301376 := by decide
      rw [e0]
      omega
    exact Nat.lt_of_lt_of_le ((Nat.log2_lt z).mpr e) (by decide)
theorem small_and {i j : Int} (h1 : small i = true) (h2 : small j = true) : (small i && small j) = true := by rw [h1, h2]; rfl
theorem mul_lt {a b A B : Int} (h0 : 0 ≤ a) (h1 : 0 ≤ b) (h2 : a ≤ A) (h3 : b ≤ B) : 0 ≤ a * b ∧ a * b ≤ A * B := ⟨Int.mul_nonneg h0 h1, Int.mul_le_mul h2 h3 h1 (Int.le_trans h0 h2)⟩
theorem gv_max2 {ρ : DEnv} {θ : Pot} (i j : Int) {Q : Dt → Pot → Prop} : Gv (opt (gMax [.int i, .int j]) ρ θ) Q = Q (.int (if j > i then j else i)) θ := rfl
theorem gv_min2 {ρ : DEnv} {θ : Pot} (i j : Int) {Q : Dt → Pot → Prop} : Gv (opt (gMin [.int i, .int j]) ρ θ) Q = Q (.int (if j < i then j else i)) θ := rfl
theorem gv_int {ρ : DEnv} {θ : Pot} (i : Int) {Q : Dt → Pot → Prop} : Gv (opt (gInt [.int i]) ρ θ) Q = Q (.int i) θ := rfl
theorem gv_ix0 {ρ : DEnv} {θ : Pot} (x : Dt) (l : List Dt) {Q : Dt → Pot → Prop} : Gv (opt (gIx (.tup (x :: l)) (.int 0)) ρ θ) Q = Q x θ := by
  have e : gIx (.tup (x :: l)) (.int 0) = some x := L2.atI_nat (j := 0) rfl
  rw [e, gv_opt]
theorem gv_ix1 {ρ : DEnv} {θ : Pot} (x y : Dt) (l : List Dt) {Q : Dt → Pot → Prop} : Gv (opt (gIx (.tup (x :: y :: l)) (.int 1)) ρ θ) Q = Q y θ := by
  have e : gIx (.tup (x :: y :: l)) (.int 1) = some y := L2.atI_nat (j := 1) rfl
  rw [e, gv_opt]
theorem gv_ix2 {ρ : DEnv} {θ : Pot} (x y z : Dt) (l : List Dt) {Q : Dt → Pot → Prop} : Gv (opt (gIx (.tup (x :: y :: z :: l)) (.int 2)) ρ θ) Q = Q z θ := by
  have e : gIx (.tup (x :: y :: z :: l)) (.int 2) = some z := L2.atI_nat (j := 2) rfl
  rw [e, gv_opt]
theorem gv_lenT {ρ : DEnv} {θ : Pot} (l : List Dt) {Q : Dt → Pot → Prop} : Gv (opt (gLen [.tup l]) ρ θ) Q = Q (.int l.length) θ := rfl
theorem gv_lenL {ρ : DEnv} {θ : Pot} (l : List Dt) {Q : Dt → Pot → Prop} : Gv (opt (gLen [.lst l]) ρ θ) Q = Q (.int l.length) θ := rfl
theorem gv_abs {ρ : DEnv} {θ : Pot} (i : Int) {Q : Dt → Pot → Prop} : Gv (opt (gAbs [.int i]) ρ θ) Q = Q (.int (if i < 0 then -i else i)) θ := rfl
theorem log_of {i : Int} (h1 : -1606938044258990275541962092341162602522202993782792835301376 < i) (h2 : i < 1606938044258990275541962092341162602522202993782792835301376) : i.natAbs.log2 < 1920 := by
  by_cases z : i.natAbs = 0
  · rw [z]
    decide
  · have e : i.natAbs < 2 ^ 200 := by
      have e0 : (2 : Nat) ^ 200 = 1606938044258990275541962092341162602522202993782792835301376 := by decide
      rw [e0]
      omega
    exact Nat.lt_of_lt_of_le ((Nat.log2_lt z).mpr e) (by decide)
theorem repr2 {a b : Int} (ha : a.natAbs.log2 < 1920) (hb : b.natAbs.log2 < 1920) : gRepr [.tup [.int a, .int b]] = some (.str (PyData.shown (.tuple [.int a, .int b]))) ∧ (PyData.shown (.tuple [.int a, .int b])).length ≤ sizeLine := by
  have l1 := int_text_length_le (k := 1920) (by decide) ha
  have l2 := int_text_length_le (k := 1920) (by decide) hb
  have c1 : (PyData.tuple [.int a, .int b]).showable = true := by
    show (decide (a.natAbs.log2 < 1920) && (decide (b.natAbs.log2 < 1920) && true)) = true
    rw [decide_eq_true ha, decide_eq_true hb]
    rfl
  have c2 : (PyData.tuple [.int a, .int b]).hasDict = false := rfl
  have c3 : (PyData.tuple [.int a, .int b]).depth ≤ 60 := by
    simp [PyData.depth, PyData.depthAll]
  have c4 : (PyData.tuple [.int a, .int b]).shown.length ≤ sizeLine := by
    show ((("(" : Str) ++ ((Str.ofString (toString a)) ++ ", " ++ (Str.ofString (toString b)))) ++ ((")" : String) : Str)).length ≤ sizeLine
    have k1 : (Str.ofString (toString a)).length = (toString a).length := ofString_length _
    have k2 : (Str.ofString (toString b)).length = (toString b).length := ofString_length _
    rw [strLen_append, strLen_append, strLen_append, strLen_append, k1, k2]
    have e1 : (("(" : String) : Str).length = 1 := rfl
    have e2 : ((")" : String) : Str).length = 1 := rfl
    have e3 : ((", " : String) : Str).length = 2 := rfl
    have e4 : sizeLine = 16777216 := by decide
    rw [e4]
    omega
  have e : gRepr [.tup [.int a, .int b]] = (if ((PyData.tuple [.int a, .int b]).showable && (!(PyData.tuple [.int a, .int b]).hasDict && (decide ((PyData.tuple [.int a, .int b]).depth ≤ 60) && decide ((PyData.tuple [.int a, .int b]).shown.length ≤ sizeLine)))) = true then some ((PyData.tuple [.int a, .int b]).shown) else none).map Dt.str := rfl
  refine ⟨?_, c4⟩
  rw [e, c1, c2, decide_eq_true c3, decide_eq_true c4]
  rfl
theorem gv_neS {ρ : DEnv} {θ : Pot} (x y : Str) {Q : Dt → Pot → Prop} : Gv (opt (gNe (.str x) (.str y)) ρ θ) Q = Q (.bl (!decide (x = y))) θ := rfl
theorem gv_eqS {ρ : DEnv} {θ : Pot} (x y : Str) {Q : Dt → Pot → Prop} : Gv (opt (gEq (.str x) (.str y)) ρ θ) Q = Q (.bl (decide (x = y))) θ := rfl
theorem gv_rng1 {ρ : DEnv} {θ : Pot} (j : Int) {Q : List Dt → Pot → Prop} : Gv (opt (rng1 [.int j]) ρ θ) Q = (bnd62 j = true ∧ Q (rngL 0 j.toNat) θ) := by
  show Gv (opt (if bnd62 j = true then some (rngL 0 j.toNat) else none) ρ θ) Q = _
  by_cases h : bnd62 j = true
  · rw [if_pos h]
    exact propext ⟨fun q => ⟨h, q⟩, fun q => q.2⟩
  · rw [if_neg h]
    exact propext ⟨fun q => q.elim, fun q => h q.1⟩
theorem gv_rng2 {ρ : DEnv} {θ : Pot} (i j : Int) {Q : List Dt → Pot → Prop} : Gv (opt (rng2 [.int i, .int j]) ρ θ) Q = ((bnd62 i && bnd62 j) = true ∧ Q (rngL i (j - i).toNat) θ) := by
  show Gv (opt (if (bnd62 i && bnd62 j) = true then some (rngL i (j - i).toNat) else none) ρ θ) Q = _
  by_cases h : (bnd62 i && bnd62 j) = true
  · rw [if_pos h]
    exact propext ⟨fun q => ⟨h, q⟩, fun q => q.2⟩
  · rw [if_neg h]
    exact propext ⟨fun q => q.elim, fun q => h q.1⟩
theorem bnd62_of {i : Int} (h1 : -4611686018427387904 ≤ i) (h2 : i < 4611686018427387904) : bnd62 i = true := by
  unfold bnd62
  rw [decide_eq_true (show -(2 ^ 62) ≤ i by omega), decide_eq_true (show i < 2 ^ 62 by omega)]
  rfl
theorem rngL_len (i : Int) (n : Nat) : (rngL i n).length = n := by simp [rngL]
theorem big_of {n : Nat} (h : n < 1000000) : (n < bigL) = True := eq_true h
theorem gv_all2 {ρ : DEnv} {θ : Pot} (a b : Bool) {Q : Dt → Pot → Prop} : Gv (opt (gAll [.lst [.bl a, .bl b]]) ρ θ) Q = Q (.bl (a && b)) θ := by
  cases a <;> cases b <;> rfl
theorem gv_maxL2 {ρ : DEnv} {θ : Pot} (a b : Int) {Q : Dt → Pot → Prop} : Gv (opt (gMax [.lst [.int a, .int b]]) ρ θ) Q = Q (.int (if b > a then b else a)) θ := rfl
theorem gv_minL2 {ρ : DEnv} {θ : Pot} (a b : Int) {Q : Dt → Pot → Prop} : Gv (opt (gMin [.lst [.int a, .int b]]) ρ θ) Q = Q (.int (if b < a then b else a)) θ := rfl
theorem gv_isq {ρ : DEnv} {θ : Pot} {i : Int} (h0 : 0 ≤ i) (h1 : i < 1606938044258990275541962092341162602522202993782792835301376) {Q : Dt → Pot → Prop} : Gv (opt (gIsqrt [.int i]) ρ θ) Q = Q (.int (Float64.isqrt i.toNat : Nat)) θ := by
  have c : i.toNat.log2 < 13000 := by
    have z := log_of (i := i) (by omega) h1
    have : i.toNat = i.natAbs := by omega
    rw [this]
    omega
  show Gv (opt (if (decide (0 ≤ i) && decide (i.toNat.log2 < 13000)) = true then some (.int (Float64.isqrt i.toNat : Nat)) else none) ρ θ) Q = _
  rw [decide_eq_true h0, decide_eq_true c]
  rfl
theorem sq_le {x y : Int} (hy : 0 ≤ y) (h : x * x ≤ y * y) : x ≤ y := by
  by_cases z : x ≤ y
  · exact z
  · have := Int.mul_self_lt_mul_self hy (show y < x by omega)
    omega
theorem sq_lt {x y : Int} (hy : 0 ≤ y) (h : x * x < y * y) : x < y := by
  by_cases z : x < y
  · exact z
  · have := Int.mul_self_le_mul_self hy (show y ≤ x by omega)
    omega
theorem isq_spec {i : Int} (h0 : 0 ≤ i) : ∀ r : Int, r = (Float64.isqrt i.toNat : Nat) → 0 ≤ r ∧ r * r ≤ i ∧ i < (r + 1) * (r + 1) := by
  intro r e
  obtain ⟨h1, h2⟩ := Float64.isqrt_spec i.toNat
  have k : ((i.toNat : Nat) : Int) = i := Int.toNat_of_nonneg h0
  have h1' : ((Float64.isqrt i.toNat : Nat) : Int) * ((Float64.isqrt i.toNat : Nat) : Int) ≤ ((i.toNat : Nat) : Int) := by exact_mod_cast h1
  have h2' : ((i.toNat : Nat) : Int) < (((Float64.isqrt i.toNat : Nat) : Int) + 1) * (((Float64.isqrt i.toNat : Nat) : Int) + 1) := by exact_mod_cast h2
  rw [k] at h1' h2'
  rw [e]
  exact ⟨Int.natCast_nonneg _, h1', h2'⟩
theorem gv_lenT0 {ρ : DEnv} {θ : Pot} {Q : Dt → Pot → Prop} : Gv (opt (gLen [.tup []]) ρ θ) Q = Q (.int 0) θ := rfl
theorem gv_lenL0 {ρ : DEnv} {θ : Pot} {Q : Dt → Pot → Prop} : Gv (opt (gLen [.lst []]) ρ θ) Q = Q (.int 0) θ := rfl
theorem gv_lenT1 {ρ : DEnv} {θ : Pot} (a : Dt) {Q : Dt → Pot → Prop} : Gv (opt (gLen [.tup [a]]) ρ θ) Q = Q (.int 1) θ := rfl
theorem gv_lenL1 {ρ : DEnv} {θ : Pot} (a : Dt) {Q : Dt → Pot → Prop} : Gv (opt (gLen [.lst [a]]) ρ θ) Q = Q (.int 1) θ := rfl
theorem gv_lenT2 {ρ : DEnv} {θ : Pot} (a b : Dt) {Q : Dt → Pot → Prop} : Gv (opt (gLen [.tup [a, b]]) ρ θ) Q = Q (.int 2) θ := rfl
theorem gv_lenL2 {ρ : DEnv} {θ : Pot} (a b : Dt) {Q : Dt → Pot → Prop} : Gv (opt (gLen [.lst [a, b]]) ρ θ) Q = Q (.int 2) θ := rfl
theorem gv_lenT3 {ρ : DEnv} {θ : Pot} (a b c : Dt) {Q : Dt → Pot → Prop} : Gv (opt (gLen [.tup [a, b, c]]) ρ θ) Q = Q (.int 3) θ := rfl
theorem gv_lenL3 {ρ : DEnv} {θ : Pot} (a b c : Dt) {Q : Dt → Pot → Prop} : Gv (opt (gLen [.lst [a, b, c]]) ρ θ) Q = Q (.int 3) θ := rfl
theorem gv_lenT4 {ρ : DEnv} {θ : Pot} (a b c d : Dt) {Q : Dt → Pot → Prop} : Gv (opt (gLen [.tup [a, b, c, d]]) ρ θ) Q = Q (.int 4) θ := rfl
theorem gv_lenL4 {ρ : DEnv} {θ : Pot} (a b c d : Dt) {Q : Dt → Pot → Prop} : Gv (opt (gLen [.lst [a, b, c, d]]) ρ θ) Q = Q (.int 4) θ := rfl
end Pd


namespace Tc
open PySem PySem.Spec PyProof.Rows L2 Pd
def r__law_draw : M Out :=
 (Pd.mSeq (Pd.mIf (Pd.mBool (Pd.mOp Pd.gGt (Pd.mPotI 0 0) (Pd.ret (.int 0))))
  (Pd.mSeq (Pd.mPotD 0 2 (Pd.mVar 1))
 (Pd.mRet (Pd.mVar 2)))
  Pd.mNext)
 (Pd.mSeq (Pd.mPotS 0 (Pd.mOp Pd.gMod (Pd.mB Pd.gInt (Pd.mCons (Pd.mOp Pd.gAdd (Pd.mOp Pd.gMul (Pd.mPotI 0 1) (Pd.ret (.int 39373))) (Pd.ret (.int 941))) Pd.mNil)) (Pd.ret (.int 2147483587))))
 (Pd.mRet (Pd.mOp Pd.gMod (Pd.mB Pd.gInt (Pd.mCons (Pd.mOp Pd.gDiv (Pd.mOp Pd.gMod (Pd.mB Pd.gInt (Pd.mCons (Pd.mOp Pd.gMul (Pd.mPotI 0 1) (Pd.mPotI 0 1)) Pd.mNil)) (Pd.ret (.int 2147483563))) (Pd.ret (.int 17))) Pd.mNil)) (Pd.mVar 1)))))
def m__law_draw : Mir := Pd.mFn 3 r__law_draw
def r__law_number : M Out :=
 (Pd.mSeq (Pd.mSet 1 (Pd.mCallD m__law_draw [] [0, 1] (Pd.mEPot 0 (Pd.mECons (Pd.ret (.int 6)) Pd.mENil)) Pd.mENil))
 (Pd.mSeq (Pd.mIf (Pd.mBool (Pd.mOp Pd.gEq (Pd.mVar 1) (Pd.ret (.int 0))))
  (Pd.mRet (Pd.mCallD m__law_draw [] [0, 1] (Pd.mEPot 0 (Pd.mECons (Pd.ret (.int 10)) Pd.mENil)) Pd.mENil))
  Pd.mNext)
 (Pd.mSeq (Pd.mIf (Pd.mBool (Pd.mOp Pd.gEq (Pd.mVar 1) (Pd.ret (.int 5))))
  (Pd.mRet (Pd.mOp Pd.gSub (Pd.mOp Pd.gSub (Pd.mOp Pd.gPow (Pd.mOp Pd.gPow (Pd.ret (.int 2)) (Pd.ret (.int 35))) (Pd.ret (.int 2))) (Pd.mOp Pd.gPow (Pd.ret (.int 2)) (Pd.ret (.int 10)))) (Pd.mCallD m__law_draw [] [0, 1] (Pd.mEPot 0 (Pd.mECons (Pd.ret (.int 10)) Pd.mENil)) Pd.mENil)))
  Pd.mNext)
 (Pd.mSeq (Pd.mIf (Pd.mBool (Pd.mOp Pd.gEq (Pd.mVar 1) (Pd.ret (.int 1))))
  (Pd.mSeq (Pd.mSet 2 (Pd.mOp Pd.gAdd (Pd.ret (.int 1)) (Pd.mCallD m__law_draw [] [0, 1] (Pd.mEPot 0 (Pd.mECons (Pd.mOp Pd.gPow (Pd.ret (.int 2)) (Pd.ret (.int 30))) Pd.mENil)) Pd.mENil)))
 (Pd.mRet (Pd.mB Pd.gMax (Pd.mCons (Pd.ret (.int 0)) (Pd.mCons (Pd.mOp Pd.gSub (Pd.mOp Pd.gAdd (Pd.mOp Pd.gDiv (Pd.mOp Pd.gMul (Pd.mOp Pd.gMul (Pd.mVar 2) (Pd.mVar 2)) (Pd.mOp Pd.gPow (Pd.ret (.int 2)) (Pd.ret (.int 40)))) (Pd.mOp Pd.gPow (Pd.ret (.int 2)) (Pd.ret (.int 40)))) (Pd.mCallD m__law_draw [] [0, 1] (Pd.mEPot 0 (Pd.mECons (Pd.ret (.int 3)) Pd.mENil)) Pd.mENil)) (Pd.ret (.int 1))) Pd.mNil)))))
  Pd.mNext)
 (Pd.mSeq (Pd.mIf (Pd.mBool (Pd.mOp Pd.gEq (Pd.mVar 1) (Pd.ret (.int 2))))
  (Pd.mRet (Pd.mOp Pd.gMul (Pd.mOp Pd.gPow (Pd.mCallD m__law_draw [] [0, 1] (Pd.mEPot 0 (Pd.mECons (Pd.mOp Pd.gPow (Pd.ret (.int 2)) (Pd.ret (.int 20))) Pd.mENil)) Pd.mENil) (Pd.ret (.int 2))) (Pd.mOp Pd.gPow (Pd.ret (.int 2)) (Pd.ret (.int 20)))))
  Pd.mNext)
 (Pd.mSeq (Pd.mSet 3 (Pd.mCallD m__law_draw [] [0, 1] (Pd.mEPot 0 (Pd.mECons (Pd.mOp Pd.gPow (Pd.ret (.int 2)) (Pd.ret (.int 30))) Pd.mENil)) Pd.mENil))
 (Pd.mSeq (Pd.mFor (.n 4) (Pd.mRng Pd.rng1 (Pd.mCons (Pd.mCallD m__law_draw [] [0, 1] (Pd.mEPot 0 (Pd.mECons (Pd.ret (.int 31)) Pd.mENil)) Pd.mENil) Pd.mNil))
  (Pd.mSet 3 (Pd.mOp Pd.gMul (Pd.ret (.int 2)) (Pd.mVar 3))))
 (Pd.mRet (Pd.mVar 3)))))))))
def m__law_number : Mir := Pd.mFn 5 r__law_number
def r__law_interval : M Out :=
 (Pd.mSeq (Pd.mPar [1, 2] (Pd.mCons (Pd.mCallD m__law_number [] [0] (Pd.mEPot 0 Pd.mENil) Pd.mENil) (Pd.mCons (Pd.mCallD m__law_number [] [0] (Pd.mEPot 0 Pd.mENil) Pd.mENil) Pd.mNil)))
 (Pd.mRet (Pd.mIte (Pd.mBool (Pd.mOp Pd.gEq (Pd.mCallD m__law_draw [] [0, 1] (Pd.mEPot 0 (Pd.mECons (Pd.ret (.int 3)) Pd.mENil)) Pd.mENil) (Pd.ret (.int 0)))) (Pd.mTup (Pd.mCons (Pd.mVar 1) (Pd.mCons (Pd.mVar 1) Pd.mNil))) (Pd.mTup (Pd.mCons (Pd.mB Pd.gMin (Pd.mCons (Pd.mVar 1) (Pd.mCons (Pd.mVar 2) Pd.mNil))) (Pd.mCons (Pd.mB Pd.gMax (Pd.mCons (Pd.mVar 1) (Pd.mCons (Pd.mVar 2) Pd.mNil))) Pd.mNil))))))
def m__law_interval : Mir := Pd.mFn 3 r__law_interval
def r_root_at : M Out :=
 (Pd.mSeq (Pd.mIf (Pd.mBool (Pd.mOp Pd.gLt (Pd.mOp Pd.gIx (Pd.mVar 0) (Pd.ret (.int 0))) (Pd.ret (.int 0))))
  (fun _ _ => .bad)
  Pd.mNext)
 (Pd.mSeq (Pd.mPar [1, 2] (Pd.mCons (Pd.mB Pd.gIsqrt (Pd.mCons (Pd.mOp Pd.gMul (Pd.mOp Pd.gIx (Pd.mVar 0) (Pd.ret (.int 0))) (Pd.ret (.int (1099511627776)))) Pd.mNil)) (Pd.mCons (Pd.mB Pd.gIsqrt (Pd.mCons (Pd.mOp Pd.gMul (Pd.mOp Pd.gIx (Pd.mVar 0) (Pd.ret (.int 1))) (Pd.ret (.int (1099511627776)))) Pd.mNil)) Pd.mNil)))
 (Pd.mRet (Pd.mTup (Pd.mCons (Pd.mVar 1) (Pd.mCons (Pd.mIte (Pd.mBool (Pd.mOp Pd.gEq (Pd.mOp Pd.gMul (Pd.mVar 2) (Pd.mVar 2)) (Pd.mOp Pd.gMul (Pd.mOp Pd.gIx (Pd.mVar 0) (Pd.ret (.int 1))) (Pd.ret (.int (1099511627776)))))) (Pd.mVar 2) (Pd.mOp Pd.gAdd (Pd.mVar 2) (Pd.ret (.int 1)))) Pd.mNil))))))
def m_root_at : Mir := Pd.mFn 3 r_root_at
def r_is_integer : M Out :=
 (Pd.mRet (Pd.mAndV (Pd.mIsi "int" (Pd.mVar 0)) (Pd.mNotV (Pd.mIsi "bool" (Pd.mVar 0)))))
def m_is_integer : Mir := Pd.mFn 1 r_is_integer
def r_is_interval : M Out :=
 (Pd.mSeq (Pd.mIf (Pd.mOr (Pd.mNot (Pd.mBool (Pd.mIsi "tuple" (Pd.mVar 0)))) (Pd.mOr (Pd.mBool (Pd.mOp Pd.gNe (Pd.mB Pd.gLen (Pd.mCons (Pd.mVar 0) Pd.mNil)) (Pd.ret (.int 2)))) (Pd.mOr (Pd.mNot (Pd.mBool (Pd.mCallD m_is_integer [] [0] (Pd.mECons (Pd.mOp Pd.gIx (Pd.mVar 0) (Pd.ret (.int 0))) Pd.mENil) Pd.mENil))) (Pd.mNot (Pd.mBool (Pd.mCallD m_is_integer [] [0] (Pd.mECons (Pd.mOp Pd.gIx (Pd.mVar 0) (Pd.ret (.int 1))) Pd.mENil) Pd.mENil))))))
  (Pd.mRet (Pd.ret (.bl false)))
  Pd.mNext)
 (Pd.mRet (Pd.mChn (Pd.mOp Pd.gSub (Pd.ret (.int 0)) (Pd.ret (.int (1180591620717411303424)))) (Pd.cLink Pd.gLe (Pd.mOp Pd.gIx (Pd.mVar 0) (Pd.ret (.int 0))) (Pd.cLink Pd.gLe (Pd.mOp Pd.gIx (Pd.mVar 0) (Pd.ret (.int 1))) (Pd.cLast Pd.gLe (Pd.ret (.int (1180591620717411303424)))))))))
def m_is_interval : Mir := Pd.mFn 1 r_is_interval
def r_want_interval : M Out :=
 (Pd.mSeq (Pd.mIf (Pd.mNot (Pd.mBool (Pd.mCallD m_is_interval [] [0] (Pd.mECons (Pd.mVar 0) Pd.mENil) Pd.mENil)))
  (fun _ _ => .bad)
  Pd.mNext)
 (Pd.mRet (Pd.mVar 0)))
def m_want_interval : Mir := Pd.mFn 1 r_want_interval
def r_root_of : M Out :=
 (Pd.mRet (Pd.mCallD m_root_at [] [0] (Pd.mECons (Pd.mCallD m_want_interval [] [0] (Pd.mECons (Pd.mVar 0) Pd.mENil) Pd.mENil) Pd.mENil) Pd.mENil))
def m_root_of : Mir := Pd.mFn 1 r_root_of
def r__law_root_right : M Out :=
 (Pd.mSeq (Pd.mIf (Pd.mOr (Pd.mNot (Pd.mBool (Pd.mIsi "tuple" (Pd.mVar 0)))) (Pd.mOr (Pd.mBool (Pd.mOp Pd.gNe (Pd.mB Pd.gLen (Pd.mCons (Pd.mVar 0) Pd.mNil)) (Pd.ret (.int 2)))) (Pd.mNot (Pd.mBool (Pd.mChn (Pd.ret (.int 0)) (Pd.cLink Pd.gLe (Pd.mOp Pd.gIx (Pd.mVar 0) (Pd.ret (.int 0))) (Pd.cLast Pd.gLe (Pd.mOp Pd.gIx (Pd.mVar 0) (Pd.ret (.int 1))))))))))
  (Pd.mRet (Pd.ret (.bl false)))
  Pd.mNext)
 (Pd.mSeq (Pd.mIf (Pd.mNot (Pd.mBool (Pd.mB Pd.gAll (Pd.mCons (Pd.mLst (Pd.mComp (.n 3) [3] (Pd.mSeqI (Pd.mVar 0)) Pd.tt1 (Pd.mAndV (Pd.mIsi "int" (Pd.mVar 3)) (Pd.mNotV (Pd.mIsi "bool" (Pd.mVar 3)))))) Pd.mNil))))
  (Pd.mRet (Pd.ret (.bl false)))
  Pd.mNext)
 (Pd.mSeq (Pd.mPar [4, 5, 3] (Pd.mCons (Pd.mOp Pd.gIx (Pd.mVar 0) (Pd.ret (.int 0))) (Pd.mCons (Pd.mOp Pd.gIx (Pd.mVar 0) (Pd.ret (.int 1))) (Pd.mCons (Pd.mOp Pd.gPow (Pd.ret (.int 2)) (Pd.ret (.int 40))) Pd.mNil))))
 (Pd.mSeq (Pd.mIf (Pd.mNot (Pd.mBool (Pd.mChn (Pd.mOp Pd.gMul (Pd.mVar 4) (Pd.mVar 4)) (Pd.cLink Pd.gLe (Pd.mOp Pd.gMul (Pd.mVar 1) (Pd.mVar 3)) (Pd.cLast Pd.gLt (Pd.mOp Pd.gMul (Pd.mOp Pd.gAdd (Pd.mVar 4) (Pd.ret (.int 1))) (Pd.mOp Pd.gAdd (Pd.mVar 4) (Pd.ret (.int 1)))))))))
  (Pd.mRet (Pd.ret (.bl false)))
  Pd.mNext)
 (Pd.mRet (Pd.mAndV (Pd.mOp Pd.gGe (Pd.mOp Pd.gMul (Pd.mVar 5) (Pd.mVar 5)) (Pd.mOp Pd.gMul (Pd.mVar 2) (Pd.mVar 3))) (Pd.mOrV (Pd.mOp Pd.gEq (Pd.mVar 5) (Pd.ret (.int 0))) (Pd.mOp Pd.gLt (Pd.mOp Pd.gMul (Pd.mOp Pd.gSub (Pd.mVar 5) (Pd.ret (.int 1))) (Pd.mOp Pd.gSub (Pd.mVar 5) (Pd.ret (.int 1)))) (Pd.mOp Pd.gMul (Pd.mVar 2) (Pd.mVar 3))))))))))
def m__law_root_right : Mir := Pd.mFn 6 r__law_root_right
def r_checked_ends : M Out :=
 (Pd.mSeq (Pd.mIf (Pd.mOr (Pd.mBool (Pd.mOp Pd.gLt (Pd.mVar 0) (Pd.mOp Pd.gSub (Pd.ret (.int 0)) (Pd.ret (.int (1180591620717411303424)))))) (Pd.mBool (Pd.mOp Pd.gGt (Pd.mVar 1) (Pd.ret (.int (1180591620717411303424))))))
  (fun _ _ => .bad)
  Pd.mNext)
 (Pd.mRet (Pd.mTup (Pd.mCons (Pd.mVar 0) (Pd.mCons (Pd.mVar 1) Pd.mNil)))))
def m_checked_ends : Mir := Pd.mFn 2 r_checked_ends
def r_rounded_down : M Out :=
 (Pd.mSeq (Pd.mIf (Pd.mBool (Pd.mOp Pd.gLt (Pd.mVar 1) (Pd.ret (.int 0))))
  (Pd.mRet (Pd.mOp Pd.gDiv (Pd.mOp Pd.gSub (Pd.ret (.int 0)) (Pd.mVar 0)) (Pd.mOp Pd.gSub (Pd.ret (.int 0)) (Pd.mVar 1))))
  Pd.mNext)
 (Pd.mRet (Pd.mOp Pd.gDiv (Pd.mVar 0) (Pd.mVar 1))))
def m_rounded_down : Mir := Pd.mFn 2 r_rounded_down
def r_rounded_up : M Out :=
 (Pd.mRet (Pd.mOp Pd.gSub (Pd.ret (.int 0)) (Pd.mCallD m_rounded_down [] [0, 1] (Pd.mECons (Pd.mOp Pd.gSub (Pd.ret (.int 0)) (Pd.mVar 0)) (Pd.mECons (Pd.mVar 1) Pd.mENil)) Pd.mENil)))
def m_rounded_up : Mir := Pd.mFn 2 r_rounded_up
def r_over_at : M Out :=
 (Pd.mSeq (Pd.mIf (Pd.mBool (Pd.mChn (Pd.mOp Pd.gIx (Pd.mVar 0) (Pd.ret (.int 0))) (Pd.cLink Pd.gLe (Pd.ret (.int 0)) (Pd.cLast Pd.gLe (Pd.mOp Pd.gIx (Pd.mVar 0) (Pd.ret (.int 1)))))))
  (fun _ _ => .bad)
  Pd.mNext)
 (Pd.mRet (Pd.mCallD m_checked_ends [] [0, 1] (Pd.mECons (Pd.mCallD m_rounded_down [] [0, 1] (Pd.mECons (Pd.mOp Pd.gMul (Pd.ret (.int (1099511627776))) (Pd.ret (.int (1099511627776)))) (Pd.mECons (Pd.mOp Pd.gIx (Pd.mVar 0) (Pd.ret (.int 1))) Pd.mENil)) Pd.mENil) (Pd.mECons (Pd.mCallD m_rounded_up [] [0, 1] (Pd.mECons (Pd.mOp Pd.gMul (Pd.ret (.int (1099511627776))) (Pd.ret (.int (1099511627776)))) (Pd.mECons (Pd.mOp Pd.gIx (Pd.mVar 0) (Pd.ret (.int 0))) Pd.mENil)) Pd.mENil) Pd.mENil)) Pd.mENil)))
def m_over_at : Mir := Pd.mFn 1 r_over_at
def r_over_of : M Out :=
 (Pd.mRet (Pd.mCallD m_over_at [] [0] (Pd.mECons (Pd.mCallD m_want_interval [] [0] (Pd.mECons (Pd.mVar 0) Pd.mENil) Pd.mENil) Pd.mENil) Pd.mENil))
def m_over_of : Mir := Pd.mFn 1 r_over_of
def r__law_over : M Out :=
 (Pd.mSeq (Pd.mSet 2 (Pd.mOp Pd.gPow (Pd.mOp Pd.gPow (Pd.ret (.int 2)) (Pd.ret (.int 40))) (Pd.ret (.int 2))))
 (Pd.mSeq (Pd.mSet 3 (Pd.mIte (Pd.mBool (Pd.mOp Pd.gGt (Pd.mVar 0) (Pd.ret (.int 0)))) (Pd.mLst (Pd.mCons (Pd.mTup (Pd.mCons (Pd.mVar 2) (Pd.mCons (Pd.mVar 0) Pd.mNil))) (Pd.mCons (Pd.mTup (Pd.mCons (Pd.mVar 2) (Pd.mCons (Pd.mVar 1) Pd.mNil))) Pd.mNil))) (Pd.mLst (Pd.mCons (Pd.mTup (Pd.mCons (Pd.mNeg (Pd.mVar 2)) (Pd.mCons (Pd.mNeg (Pd.mVar 0)) Pd.mNil))) (Pd.mCons (Pd.mTup (Pd.mCons (Pd.mNeg (Pd.mVar 2)) (Pd.mCons (Pd.mNeg (Pd.mVar 1)) Pd.mNil))) Pd.mNil)))))
 (Pd.mRet (Pd.mTup (Pd.mCons (Pd.mB Pd.gMin (Pd.mCons (Pd.mLst (Pd.mComp (.t [4, 5]) [4, 5] (Pd.mSeqI (Pd.mVar 3)) Pd.tt1 (Pd.mOp Pd.gDiv (Pd.mVar 4) (Pd.mVar 5)))) Pd.mNil)) (Pd.mCons (Pd.mB Pd.gMax (Pd.mCons (Pd.mLst (Pd.mComp (.t [4, 5]) [4, 5] (Pd.mSeqI (Pd.mVar 3)) Pd.tt1 (Pd.mNeg (Pd.mOp Pd.gDiv (Pd.mNeg (Pd.mVar 4)) (Pd.mVar 5))))) Pd.mNil)) Pd.mNil))))))
def m__law_over : Mir := Pd.mFn 6 r__law_over
def r__law_right : M Out :=
 (Pd.mSeq (Pd.mFor (.n 1) (Pd.mRng Pd.rng1 (Pd.mCons (Pd.ret (.int 6)) Pd.mNil))
  (Pd.mSeq (Pd.mAsg (.t [2, 3]) (Pd.mCallD m__law_interval [] [0] (Pd.mEPot 0 Pd.mENil) Pd.mENil))
 (Pd.mSeq (Pd.mSet 4 (Pd.mIte (Pd.mBool (Pd.mOp Pd.gGt (Pd.mVar 1) (Pd.ret (.int 0)))) (Pd.mCallD m_root_of [] [0] (Pd.mECons (Pd.mTup (Pd.mCons (Pd.mVar 2) (Pd.mCons (Pd.mVar 3) Pd.mNil))) Pd.mENil) Pd.mENil) (Pd.mCallD m_root_of [] [0] Pd.mENil (Pd.mECons (Pd.mTup (Pd.mCons (Pd.mVar 2) (Pd.mCons (Pd.mVar 3) Pd.mNil))) Pd.mENil))))
 (Pd.mSeq (Pd.mIf (Pd.mNot (Pd.mBool (Pd.mCallD m__law_root_right [] [0, 1, 2] (Pd.mECons (Pd.mVar 4) (Pd.mECons (Pd.mVar 2) (Pd.mECons (Pd.mVar 3) Pd.mENil))) Pd.mENil)))
  (Pd.mRet (Pd.ret (.bl false)))
  Pd.mNext)
 (Pd.mSeq (Pd.mSet 5 (Pd.mTup (Pd.mCons (Pd.mOp Pd.gAdd (Pd.mVar 2) (Pd.mOp Pd.gDiv (Pd.mOp Pd.gSub (Pd.mVar 3) (Pd.mVar 2)) (Pd.ret (.int 3)))) (Pd.mCons (Pd.mOp Pd.gSub (Pd.mVar 3) (Pd.mOp Pd.gDiv (Pd.mOp Pd.gSub (Pd.mVar 3) (Pd.mVar 2)) (Pd.ret (.int 3)))) Pd.mNil))))
 (Pd.mSeq (Pd.mSet 6 (Pd.mCallD m_root_of [] [0] (Pd.mECons (Pd.mVar 5) Pd.mENil) Pd.mENil))
 (Pd.mSeq (Pd.mIf (Pd.mNot (Pd.mBool (Pd.mChn (Pd.mOp Pd.gIx (Pd.mVar 4) (Pd.ret (.int 0))) (Pd.cLink Pd.gLe (Pd.mOp Pd.gIx (Pd.mVar 6) (Pd.ret (.int 0))) (Pd.cLink Pd.gLe (Pd.mOp Pd.gIx (Pd.mVar 6) (Pd.ret (.int 1))) (Pd.cLast Pd.gLe (Pd.mOp Pd.gIx (Pd.mVar 4) (Pd.ret (.int 1)))))))))
  (Pd.mRet (Pd.ret (.bl false)))
  Pd.mNext)
 (Pd.mSeq (Pd.mPar [2, 3] (Pd.mCons (Pd.mOp Pd.gAdd (Pd.mVar 2) (Pd.mOp Pd.gPow (Pd.ret (.int 2)) (Pd.ret (.int 10)))) (Pd.mCons (Pd.mOp Pd.gAdd (Pd.mVar 3) (Pd.mOp Pd.gPow (Pd.ret (.int 2)) (Pd.ret (.int 10)))) Pd.mNil)))
 (Pd.mSeq (Pd.mIf (Pd.mBool (Pd.mOp Pd.gEq (Pd.mCallD m__law_draw [] [0, 1] (Pd.mEPot 0 (Pd.mECons (Pd.ret (.int 2)) Pd.mENil)) Pd.mENil) (Pd.ret (.int 0))))
  (Pd.mPar [2, 3] (Pd.mCons (Pd.mNeg (Pd.mVar 3)) (Pd.mCons (Pd.mNeg (Pd.mVar 2)) Pd.mNil)))
  Pd.mNext)
 (Pd.mSeq (Pd.mSet 4 (Pd.mIte (Pd.mBool (Pd.mOp Pd.gGt (Pd.mVar 1) (Pd.ret (.int 0)))) (Pd.mCallD m_over_of [] [0] (Pd.mECons (Pd.mTup (Pd.mCons (Pd.mVar 2) (Pd.mCons (Pd.mVar 3) Pd.mNil))) Pd.mENil) Pd.mENil) (Pd.mCallD m_over_of [] [0] Pd.mENil (Pd.mECons (Pd.mTup (Pd.mCons (Pd.mVar 2) (Pd.mCons (Pd.mVar 3) Pd.mNil))) Pd.mENil))))
 (Pd.mSeq (Pd.mIf (Pd.mBool (Pd.mOp Pd.gNe (Pd.mB Pd.gRepr (Pd.mCons (Pd.mVar 4) Pd.mNil)) (Pd.mB Pd.gRepr (Pd.mCons (Pd.mCallD m__law_over [] [0, 1] (Pd.mECons (Pd.mVar 2) (Pd.mECons (Pd.mVar 3) Pd.mENil)) Pd.mENil) Pd.mNil))))
  (Pd.mRet (Pd.ret (.bl false)))
  Pd.mNext)
 (Pd.mIf (Pd.mOr (Pd.mAnd (Pd.mBool (Pd.mOp Pd.gLt (Pd.ret (.int 0)) (Pd.mOp Pd.gIx (Pd.mVar 4) (Pd.ret (.int 0))))) (Pd.mBool (Pd.mOp Pd.gLe (Pd.mOp Pd.gPow (Pd.ret (.int 2)) (Pd.ret (.int 10))) (Pd.mOp Pd.gIx (Pd.mVar 4) (Pd.ret (.int 0)))))) (Pd.mBool (Pd.mOp Pd.gLe (Pd.mOp Pd.gIx (Pd.mVar 4) (Pd.ret (.int 1))) (Pd.mNeg (Pd.mOp Pd.gPow (Pd.ret (.int 2)) (Pd.ret (.int 10)))))))
  (Pd.mSeq (Pd.mSet 7 (Pd.mCallD m_over_of [] [0] (Pd.mECons (Pd.mVar 4) Pd.mENil) Pd.mENil))
 (Pd.mIf (Pd.mNot (Pd.mBool (Pd.mChn (Pd.mOp Pd.gIx (Pd.mVar 7) (Pd.ret (.int 0))) (Pd.cLink Pd.gLe (Pd.mVar 2) (Pd.cLink Pd.gLe (Pd.mVar 3) (Pd.cLast Pd.gLe (Pd.mOp Pd.gIx (Pd.mVar 7) (Pd.ret (.int 1)))))))))
  (Pd.mRet (Pd.ret (.bl false)))
  Pd.mNext))
  Pd.mNext))))))))))))
 (Pd.mRet (Pd.ret (.bl true))))
def m__law_right : Mir := Pd.mFn 8 r__law_right
def r__law_pot : M Out :=
 (Pd.mSeq (Pd.mSet 2 (Pd.mIte (Pd.mBool (Pd.mOp Pd.gLt (Pd.mVar 1) (Pd.mB Pd.gLen (Pd.mCons (Pd.mVar 0) Pd.mNil)))) (Pd.mB Pd.gAbs (Pd.mCons (Pd.mOp Pd.gIx (Pd.mVar 0) (Pd.mVar 1)) Pd.mNil)) (Pd.mOp Pd.gAdd (Pd.mOp Pd.gMul (Pd.ret (.int 1187)) (Pd.mVar 1)) (Pd.ret (.int 1031)))))
 (Pd.mRetO (Pd.mCons (Pd.mB Pd.gMax (Pd.mCons (Pd.ret (.int 0)) (Pd.mCons (Pd.mOp Pd.gSub (Pd.mVar 2) (Pd.mOp Pd.gPow (Pd.ret (.int 10)) (Pd.ret (.int 18)))) Pd.mNil))) (Pd.mCons (Pd.mOp Pd.gAdd (Pd.mOp Pd.gMod (Pd.mB Pd.gInt (Pd.mCons (Pd.mOp Pd.gAdd (Pd.mOp Pd.gAdd (Pd.mOp Pd.gMul (Pd.mOp Pd.gMod (Pd.mB Pd.gInt (Pd.mCons (Pd.mVar 2) Pd.mNil)) (Pd.ret (.int 2147483549))) (Pd.ret (.int 48271))) (Pd.mOp Pd.gMul (Pd.ret (.int 27952)) (Pd.mVar 1))) (Pd.ret (.int 941))) Pd.mNil)) (Pd.ret (.int 2147483563))) (Pd.ret (.int 1))) Pd.mNil))))
def m__law_pot : Mir := Pd.mFn 3 r__law_pot
def r_law : M Out :=
 (Pd.mLawR m__law_right (Pd.mCallO m__law_pot [] [0, 1] (Pd.mECons (Pd.mVar 0) (Pd.mECons (Pd.ret (.int 0)) Pd.mENil)) Pd.mENil))
def m_law : Mir := Pd.mFn 1 r_law
end Tc


namespace Tc
open PySem PySem.Spec PyProof.Rows L2 Pd
def topS (i : Nat) : Stmt := PySem.Challenge.pw_truecourse_k34_whole_roots_and_quotients.main.body.getD i (.Pass ⟨0, 0, 0, 0⟩)
abbrev s__law_draw : Stmt := topS 25
abbrev s__law_number : Stmt := topS 28
abbrev s__law_interval : Stmt := topS 29
abbrev s_root_at : Stmt := topS 19
abbrev s_is_integer : Stmt := topS 9
abbrev s_is_interval : Stmt := topS 16
abbrev s_want_interval : Stmt := topS 17
abbrev s_root_of : Stmt := topS 21
abbrev s__law_root_right : Stmt := topS 26
abbrev s_checked_ends : Stmt := topS 13
abbrev s_rounded_down : Stmt := topS 14
abbrev s_rounded_up : Stmt := topS 15
abbrev s_over_at : Stmt := topS 20
abbrev s_over_of : Stmt := topS 22
abbrev s__law_over : Stmt := topS 27
abbrev s__law_right : Stmt := topS 30
abbrev s__law_pot : Stmt := topS 24
abbrev s_law : Stmt := topS 31
structure Tx (K : PySem.W.Frag) (mg : Str → Option Value) where
  a__law_draw : Addr
  d__law_draw : FuncData
  D__law_draw : FunD K "_law_draw" "_law_draw" (defArgs s__law_draw) (defBody s__law_draw) (defScope s__law_draw) [] [] a__law_draw d__law_draw
  g__law_draw : mg "_law_draw" = some (.ref a__law_draw)
  a__law_number : Addr
  d__law_number : FuncData
  D__law_number : FunD K "_law_number" "_law_number" (defArgs s__law_number) (defBody s__law_number) (defScope s__law_number) [] [] a__law_number d__law_number
  g__law_number : mg "_law_number" = some (.ref a__law_number)
  a__law_interval : Addr
  d__law_interval : FuncData
  D__law_interval : FunD K "_law_interval" "_law_interval" (defArgs s__law_interval) (defBody s__law_interval) (defScope s__law_interval) [] [] a__law_interval d__law_interval
  g__law_interval : mg "_law_interval" = some (.ref a__law_interval)
  a_root_at : Addr
  d_root_at : FuncData
  D_root_at : FunD K "root_at" "root_at" (defArgs s_root_at) (defBody s_root_at) (defScope s_root_at) [] [] a_root_at d_root_at
  g_root_at : mg "root_at" = some (.ref a_root_at)
  a_is_integer : Addr
  d_is_integer : FuncData
  D_is_integer : FunD K "is_integer" "is_integer" (defArgs s_is_integer) (defBody s_is_integer) (defScope s_is_integer) [] [] a_is_integer d_is_integer
  g_is_integer : mg "is_integer" = some (.ref a_is_integer)
  a_is_interval : Addr
  d_is_interval : FuncData
  D_is_interval : FunD K "is_interval" "is_interval" (defArgs s_is_interval) (defBody s_is_interval) (defScope s_is_interval) [] [] a_is_interval d_is_interval
  g_is_interval : mg "is_interval" = some (.ref a_is_interval)
  a_want_interval : Addr
  d_want_interval : FuncData
  D_want_interval : FunD K "want_interval" "want_interval" (defArgs s_want_interval) (defBody s_want_interval) (defScope s_want_interval) [] [] a_want_interval d_want_interval
  g_want_interval : mg "want_interval" = some (.ref a_want_interval)
  a_root_of : Addr
  d_root_of : FuncData
  D_root_of : FunD K "root_of" "root_of" (defArgs s_root_of) (defBody s_root_of) (defScope s_root_of) [] [] a_root_of d_root_of
  g_root_of : mg "root_of" = some (.ref a_root_of)
  a__law_root_right : Addr
  d__law_root_right : FuncData
  D__law_root_right : FunD K "_law_root_right" "_law_root_right" (defArgs s__law_root_right) (defBody s__law_root_right) (defScope s__law_root_right) [] [] a__law_root_right d__law_root_right
  g__law_root_right : mg "_law_root_right" = some (.ref a__law_root_right)
  a_checked_ends : Addr
  d_checked_ends : FuncData
  D_checked_ends : FunD K "checked_ends" "checked_ends" (defArgs s_checked_ends) (defBody s_checked_ends) (defScope s_checked_ends) [] [] a_checked_ends d_checked_ends
  g_checked_ends : mg "checked_ends" = some (.ref a_checked_ends)
  a_rounded_down : Addr
  d_rounded_down : FuncData
  D_rounded_down : FunD K "rounded_down" "rounded_down" (defArgs s_rounded_down) (defBody s_rounded_down) (defScope s_rounded_down) [] [] a_rounded_down d_rounded_down
  g_rounded_down : mg "rounded_down" = some (.ref a_rounded_down)
  a_rounded_up : Addr
  d_rounded_up : FuncData
  D_rounded_up : FunD K "rounded_up" "rounded_up" (defArgs s_rounded_up) (defBody s_rounded_up) (defScope s_rounded_up) [] [] a_rounded_up d_rounded_up
  g_rounded_up : mg "rounded_up" = some (.ref a_rounded_up)
  a_over_at : Addr
  d_over_at : FuncData
  D_over_at : FunD K "over_at" "over_at" (defArgs s_over_at) (defBody s_over_at) (defScope s_over_at) [] [] a_over_at d_over_at
  g_over_at : mg "over_at" = some (.ref a_over_at)
  a_over_of : Addr
  d_over_of : FuncData
  D_over_of : FunD K "over_of" "over_of" (defArgs s_over_of) (defBody s_over_of) (defScope s_over_of) [] [] a_over_of d_over_of
  g_over_of : mg "over_of" = some (.ref a_over_of)
  a__law_over : Addr
  d__law_over : FuncData
  D__law_over : FunD K "_law_over" "_law_over" (defArgs s__law_over) (defBody s__law_over) (defScope s__law_over) [] [] a__law_over d__law_over
  g__law_over : mg "_law_over" = some (.ref a__law_over)
  a__law_right : Addr
  d__law_right : FuncData
  D__law_right : FunD K "_law_right" "_law_right" (defArgs s__law_right) (defBody s__law_right) (defScope s__law_right) [] [] a__law_right d__law_right
  g__law_right : mg "_law_right" = some (.ref a__law_right)
  a__law_pot : Addr
  d__law_pot : FuncData
  D__law_pot : FunD K "_law_pot" "_law_pot" (defArgs s__law_pot) (defBody s__law_pot) (defScope s__law_pot) [] [] a__law_pot d__law_pot
  g__law_pot : mg "_law_pot" = some (.ref a__law_pot)
  a_law : Addr
  d_law : FuncData
  D_law : FunD K "law" "law" (defArgs s_law) (defBody s_law) (defScope s_law) [] [] a_law d_law
  g_law : mg "law" = some (.ref a_law)
  n_ArithmeticError : mg "ArithmeticError" = none
  n_RuntimeError : mg "RuntimeError" = none
  n_ValueError : mg "ValueError" = none
  n_abs : mg "abs" = none
  n_all : mg "all" = none
  n_bool : mg "bool" = none
  n_divmod : mg "divmod" = none
  n_int : mg "int" = none
  n_isinstance : mg "isinstance" = none
  n_len : mg "len" = none
  n_max : mg "max" = none
  n_min : mg "min" = none
  n_range : mg "range" = none
  n_repr : mg "repr" = none
  n_tuple : mg "tuple" = none
  c_ONE : ∃ t, mg "ONE" = some (.int (1099511627776) t)
  c_MOST_GRAINS : ∃ t, mg "MOST_GRAINS" = some (.int (1180591620717411303424) t)
  i_isqrt : mg "isqrt" = some (.builtin "math.isqrt")
theorem sc__law_draw : FnScope ["_law_pot_here", "_law_many", "_law_digit"] ["_law_pot_here", "_law_many"] (defScope s__law_draw) := ⟨rfl, rfl, rfl, by decide +kernel, rfl, by decide +kernel, by decide +kernel⟩
theorem sc__law_number : FnScope ["_law_pot_here", "_law_way", "_law_root", "_law_found", "_law_turn"] ["_law_pot_here"] (defScope s__law_number) := ⟨rfl, rfl, rfl, by decide +kernel, rfl, by decide +kernel, by decide +kernel⟩
theorem sc__law_interval : FnScope ["_law_pot_here", "_law_one", "_law_other"] ["_law_pot_here"] (defScope s__law_interval) := ⟨rfl, rfl, rfl, by decide +kernel, rfl, by decide +kernel, by decide +kernel⟩
theorem sc_root_at : FnScope ["interval", "low", "high"] ["interval"] (defScope s_root_at) := ⟨rfl, rfl, rfl, by decide +kernel, rfl, by decide +kernel, by decide +kernel⟩
theorem sc_is_integer : FnScope ["value"] ["value"] (defScope s_is_integer) := ⟨rfl, rfl, rfl, by decide +kernel, rfl, by decide +kernel, by decide +kernel⟩
theorem sc_is_interval : FnScope ["value"] ["value"] (defScope s_is_interval) := ⟨rfl, rfl, rfl, by decide +kernel, rfl, by decide +kernel, by decide +kernel⟩
theorem sc_want_interval : FnScope ["value"] ["value"] (defScope s_want_interval) := ⟨rfl, rfl, rfl, by decide +kernel, rfl, by decide +kernel, by decide +kernel⟩
theorem sc_root_of : FnScope ["interval"] ["interval"] (defScope s_root_of) := ⟨rfl, rfl, rfl, by decide +kernel, rfl, by decide +kernel, by decide +kernel⟩
theorem sc__law_root_right : FnScope ["_law_told", "_law_low", "_law_high", "_law_one", "_law_near", "_law_far"] ["_law_told", "_law_low", "_law_high"] (defScope s__law_root_right) := ⟨rfl, rfl, rfl, by decide +kernel, rfl, by decide +kernel, by decide +kernel⟩
theorem sc_checked_ends : FnScope ["low", "high"] ["low", "high"] (defScope s_checked_ends) := ⟨rfl, rfl, rfl, by decide +kernel, rfl, by decide +kernel, by decide +kernel⟩
theorem sc_rounded_down : FnScope ["number", "under"] ["number", "under"] (defScope s_rounded_down) := ⟨rfl, rfl, rfl, by decide +kernel, rfl, by decide +kernel, by decide +kernel⟩
theorem sc_rounded_up : FnScope ["number", "under"] ["number", "under"] (defScope s_rounded_up) := ⟨rfl, rfl, rfl, by decide +kernel, rfl, by decide +kernel, by decide +kernel⟩
theorem sc_over_at : FnScope ["interval"] ["interval"] (defScope s_over_at) := ⟨rfl, rfl, rfl, by decide +kernel, rfl, by decide +kernel, by decide +kernel⟩
theorem sc_over_of : FnScope ["interval"] ["interval"] (defScope s_over_of) := ⟨rfl, rfl, rfl, by decide +kernel, rfl, by decide +kernel, by decide +kernel⟩
theorem sc__law_over : FnScope ["_law_low", "_law_high", "_law_whole", "_law_some", "_law_number_here", "_law_under"] ["_law_low", "_law_high"] (defScope s__law_over) := ⟨rfl, rfl, rfl, by decide +kernel, rfl, by decide +kernel, by decide +kernel⟩
theorem sc__law_right : FnScope ["_law_pot_here", "_law_turn", "_law_low", "_law_high", "_law_told", "_law_inner", "_law_near", "_law_back"] ["_law_pot_here"] (defScope s__law_right) := ⟨rfl, rfl, rfl, by decide +kernel, rfl, by decide +kernel, by decide +kernel⟩
theorem sc__law_pot : FnScope ["_law_script", "_law_k", "_law_cell"] ["_law_script", "_law_k"] (defScope s__law_pot) := ⟨rfl, rfl, rfl, by decide +kernel, rfl, by decide +kernel, by decide +kernel⟩
theorem sc_law : FnScope ["_law_script"] ["_law_script"] (defScope s_law) := ⟨rfl, rfl, rfl, by decide +kernel, rfl, by decide +kernel, by decide +kernel⟩
theorem b__law_draw_0 {K : PySem.W.Frag} {f : Addr} {fd : FuncData} (D : FunD K "_law_draw" "_law_draw" (defArgs s__law_draw) (defBody s__law_draw) (defScope s__law_draw) [] [] f fd) : Pd.Bt K fd ["_law_pot_here", "_law_many"] 2 [] [] [0, 1] :=
  Pd.bt0 D fun _ _ _ _ _ _ us ws h1 h2 => match us, h1, ws, h2 with | [_, _], _, [], _ => rfl
theorem bl_b__law_draw_0 : ∀ l : List Nat, l.length = 2 + (([] : List PySem.Str).length + ([] : List Value).length) → (Pd.pick [0, 1] l).length = (["_law_pot_here", "_law_many"] : List PySem.Str).length := fun l h => match l, h with | [_, _], _ => rfl
theorem b__law_number_0 {K : PySem.W.Frag} {f : Addr} {fd : FuncData} (D : FunD K "_law_number" "_law_number" (defArgs s__law_number) (defBody s__law_number) (defScope s__law_number) [] [] f fd) : Pd.Bt K fd ["_law_pot_here"] 1 [] [] [0] :=
  Pd.bt0 D fun _ _ _ _ _ _ us ws h1 h2 => match us, h1, ws, h2 with | [_], _, [], _ => rfl
theorem bl_b__law_number_0 : ∀ l : List Nat, l.length = 1 + (([] : List PySem.Str).length + ([] : List Value).length) → (Pd.pick [0] l).length = (["_law_pot_here"] : List PySem.Str).length := fun l h => match l, h with | [_], _ => rfl
theorem b_is_integer_0 {K : PySem.W.Frag} {f : Addr} {fd : FuncData} (D : FunD K "is_integer" "is_integer" (defArgs s_is_integer) (defBody s_is_integer) (defScope s_is_integer) [] [] f fd) : Pd.Bt K fd ["value"] 1 [] [] [0] :=
  Pd.bt0 D fun _ _ _ _ _ _ us ws h1 h2 => match us, h1, ws, h2 with | [_], _, [], _ => rfl
theorem bl_b_is_integer_0 : ∀ l : List Nat, l.length = 1 + (([] : List PySem.Str).length + ([] : List Value).length) → (Pd.pick [0] l).length = (["value"] : List PySem.Str).length := fun l h => match l, h with | [_], _ => rfl
theorem b_is_interval_0 {K : PySem.W.Frag} {f : Addr} {fd : FuncData} (D : FunD K "is_interval" "is_interval" (defArgs s_is_interval) (defBody s_is_interval) (defScope s_is_interval) [] [] f fd) : Pd.Bt K fd ["value"] 1 [] [] [0] :=
  Pd.bt0 D fun _ _ _ _ _ _ us ws h1 h2 => match us, h1, ws, h2 with | [_], _, [], _ => rfl
theorem bl_b_is_interval_0 : ∀ l : List Nat, l.length = 1 + (([] : List PySem.Str).length + ([] : List Value).length) → (Pd.pick [0] l).length = (["value"] : List PySem.Str).length := fun l h => match l, h with | [_], _ => rfl
theorem b_root_at_0 {K : PySem.W.Frag} {f : Addr} {fd : FuncData} (D : FunD K "root_at" "root_at" (defArgs s_root_at) (defBody s_root_at) (defScope s_root_at) [] [] f fd) : Pd.Bt K fd ["interval"] 1 [] [] [0] :=
  Pd.bt0 D fun _ _ _ _ _ _ us ws h1 h2 => match us, h1, ws, h2 with | [_], _, [], _ => rfl
theorem bl_b_root_at_0 : ∀ l : List Nat, l.length = 1 + (([] : List PySem.Str).length + ([] : List Value).length) → (Pd.pick [0] l).length = (["interval"] : List PySem.Str).length := fun l h => match l, h with | [_], _ => rfl
theorem b_want_interval_0 {K : PySem.W.Frag} {f : Addr} {fd : FuncData} (D : FunD K "want_interval" "want_interval" (defArgs s_want_interval) (defBody s_want_interval) (defScope s_want_interval) [] [] f fd) : Pd.Bt K fd ["value"] 1 [] [] [0] :=
  Pd.bt0 D fun _ _ _ _ _ _ us ws h1 h2 => match us, h1, ws, h2 with | [_], _, [], _ => rfl
theorem bl_b_want_interval_0 : ∀ l : List Nat, l.length = 1 + (([] : List PySem.Str).length + ([] : List Value).length) → (Pd.pick [0] l).length = (["value"] : List PySem.Str).length := fun l h => match l, h with | [_], _ => rfl
theorem b_rounded_down_0 {K : PySem.W.Frag} {f : Addr} {fd : FuncData} (D : FunD K "rounded_down" "rounded_down" (defArgs s_rounded_down) (defBody s_rounded_down) (defScope s_rounded_down) [] [] f fd) : Pd.Bt K fd ["number", "under"] 2 [] [] [0, 1] :=
  Pd.bt0 D fun _ _ _ _ _ _ us ws h1 h2 => match us, h1, ws, h2 with | [_, _], _, [], _ => rfl
theorem bl_b_rounded_down_0 : ∀ l : List Nat, l.length = 2 + (([] : List PySem.Str).length + ([] : List Value).length) → (Pd.pick [0, 1] l).length = (["number", "under"] : List PySem.Str).length := fun l h => match l, h with | [_, _], _ => rfl
theorem b_checked_ends_0 {K : PySem.W.Frag} {f : Addr} {fd : FuncData} (D : FunD K "checked_ends" "checked_ends" (defArgs s_checked_ends) (defBody s_checked_ends) (defScope s_checked_ends) [] [] f fd) : Pd.Bt K fd ["low", "high"] 2 [] [] [0, 1] :=
  Pd.bt0 D fun _ _ _ _ _ _ us ws h1 h2 => match us, h1, ws, h2 with | [_, _], _, [], _ => rfl
theorem bl_b_checked_ends_0 : ∀ l : List Nat, l.length = 2 + (([] : List PySem.Str).length + ([] : List Value).length) → (Pd.pick [0, 1] l).length = (["low", "high"] : List PySem.Str).length := fun l h => match l, h with | [_, _], _ => rfl
theorem b_rounded_up_0 {K : PySem.W.Frag} {f : Addr} {fd : FuncData} (D : FunD K "rounded_up" "rounded_up" (defArgs s_rounded_up) (defBody s_rounded_up) (defScope s_rounded_up) [] [] f fd) : Pd.Bt K fd ["number", "under"] 2 [] [] [0, 1] :=
  Pd.bt0 D fun _ _ _ _ _ _ us ws h1 h2 => match us, h1, ws, h2 with | [_, _], _, [], _ => rfl
theorem bl_b_rounded_up_0 : ∀ l : List Nat, l.length = 2 + (([] : List PySem.Str).length + ([] : List Value).length) → (Pd.pick [0, 1] l).length = (["number", "under"] : List PySem.Str).length := fun l h => match l, h with | [_, _], _ => rfl
theorem b_over_at_0 {K : PySem.W.Frag} {f : Addr} {fd : FuncData} (D : FunD K "over_at" "over_at" (defArgs s_over_at) (defBody s_over_at) (defScope s_over_at) [] [] f fd) : Pd.Bt K fd ["interval"] 1 [] [] [0] :=
  Pd.bt0 D fun _ _ _ _ _ _ us ws h1 h2 => match us, h1, ws, h2 with | [_], _, [], _ => rfl
theorem bl_b_over_at_0 : ∀ l : List Nat, l.length = 1 + (([] : List PySem.Str).length + ([] : List Value).length) → (Pd.pick [0] l).length = (["interval"] : List PySem.Str).length := fun l h => match l, h with | [_], _ => rfl
theorem b__law_interval_0 {K : PySem.W.Frag} {f : Addr} {fd : FuncData} (D : FunD K "_law_interval" "_law_interval" (defArgs s__law_interval) (defBody s__law_interval) (defScope s__law_interval) [] [] f fd) : Pd.Bt K fd ["_law_pot_here"] 1 [] [] [0] :=
  Pd.bt0 D fun _ _ _ _ _ _ us ws h1 h2 => match us, h1, ws, h2 with | [_], _, [], _ => rfl
theorem bl_b__law_interval_0 : ∀ l : List Nat, l.length = 1 + (([] : List PySem.Str).length + ([] : List Value).length) → (Pd.pick [0] l).length = (["_law_pot_here"] : List PySem.Str).length := fun l h => match l, h with | [_], _ => rfl
theorem b_root_of_0 {K : PySem.W.Frag} {f : Addr} {fd : FuncData} (D : FunD K "root_of" "root_of" (defArgs s_root_of) (defBody s_root_of) (defScope s_root_of) [] [] f fd) : Pd.Bt K fd ["interval"] 1 [] [] [0] :=
  Pd.bt0 D fun _ _ _ _ _ _ us ws h1 h2 => match us, h1, ws, h2 with | [_], _, [], _ => rfl
theorem bl_b_root_of_0 : ∀ l : List Nat, l.length = 1 + (([] : List PySem.Str).length + ([] : List Value).length) → (Pd.pick [0] l).length = (["interval"] : List PySem.Str).length := fun l h => match l, h with | [_], _ => rfl
theorem b_root_of_1 {K : PySem.W.Frag} {f : Addr} {fd : FuncData} (D : FunD K "root_of" "root_of" (defArgs s_root_of) (defBody s_root_of) (defScope s_root_of) [] [] f fd) : Pd.Bt K fd ["interval"] 0 ["interval"] [] [0] :=
  Pd.bt0 D fun _ _ _ _ _ _ us ws h1 h2 => match us, h1, ws, h2 with | [], _, [_], _ => rfl
theorem bl_b_root_of_1 : ∀ l : List Nat, l.length = 0 + ((["interval"] : List PySem.Str).length + ([] : List Value).length) → (Pd.pick [0] l).length = (["interval"] : List PySem.Str).length := fun l h => match l, h with | [_], _ => rfl
theorem b__law_root_right_0 {K : PySem.W.Frag} {f : Addr} {fd : FuncData} (D : FunD K "_law_root_right" "_law_root_right" (defArgs s__law_root_right) (defBody s__law_root_right) (defScope s__law_root_right) [] [] f fd) : Pd.Bt K fd ["_law_told", "_law_low", "_law_high"] 3 [] [] [0, 1, 2] :=
  Pd.bt0 D fun _ _ _ _ _ _ us ws h1 h2 => match us, h1, ws, h2 with | [_, _, _], _, [], _ => rfl
theorem bl_b__law_root_right_0 : ∀ l : List Nat, l.length = 3 + (([] : List PySem.Str).length + ([] : List Value).length) → (Pd.pick [0, 1, 2] l).length = (["_law_told", "_law_low", "_law_high"] : List PySem.Str).length := fun l h => match l, h with | [_, _, _], _ => rfl
theorem b_over_of_0 {K : PySem.W.Frag} {f : Addr} {fd : FuncData} (D : FunD K "over_of" "over_of" (defArgs s_over_of) (defBody s_over_of) (defScope s_over_of) [] [] f fd) : Pd.Bt K fd ["interval"] 1 [] [] [0] :=
  Pd.bt0 D fun _ _ _ _ _ _ us ws h1 h2 => match us, h1, ws, h2 with | [_], _, [], _ => rfl
theorem bl_b_over_of_0 : ∀ l : List Nat, l.length = 1 + (([] : List PySem.Str).length + ([] : List Value).length) → (Pd.pick [0] l).length = (["interval"] : List PySem.Str).length := fun l h => match l, h with | [_], _ => rfl
theorem b_over_of_1 {K : PySem.W.Frag} {f : Addr} {fd : FuncData} (D : FunD K "over_of" "over_of" (defArgs s_over_of) (defBody s_over_of) (defScope s_over_of) [] [] f fd) : Pd.Bt K fd ["interval"] 0 ["interval"] [] [0] :=
  Pd.bt0 D fun _ _ _ _ _ _ us ws h1 h2 => match us, h1, ws, h2 with | [], _, [_], _ => rfl
theorem bl_b_over_of_1 : ∀ l : List Nat, l.length = 0 + ((["interval"] : List PySem.Str).length + ([] : List Value).length) → (Pd.pick [0] l).length = (["interval"] : List PySem.Str).length := fun l h => match l, h with | [_], _ => rfl
theorem b__law_over_0 {K : PySem.W.Frag} {f : Addr} {fd : FuncData} (D : FunD K "_law_over" "_law_over" (defArgs s__law_over) (defBody s__law_over) (defScope s__law_over) [] [] f fd) : Pd.Bt K fd ["_law_low", "_law_high"] 2 [] [] [0, 1] :=
  Pd.bt0 D fun _ _ _ _ _ _ us ws h1 h2 => match us, h1, ws, h2 with | [_, _], _, [], _ => rfl
theorem bl_b__law_over_0 : ∀ l : List Nat, l.length = 2 + (([] : List PySem.Str).length + ([] : List Value).length) → (Pd.pick [0, 1] l).length = (["_law_low", "_law_high"] : List PySem.Str).length := fun l h => match l, h with | [_, _], _ => rfl
theorem b__law_pot_0 {K : PySem.W.Frag} {f : Addr} {fd : FuncData} (D : FunD K "_law_pot" "_law_pot" (defArgs s__law_pot) (defBody s__law_pot) (defScope s__law_pot) [] [] f fd) : Pd.Bt K fd ["_law_script", "_law_k"] 2 [] [] [0, 1] :=
  Pd.bt0 D fun _ _ _ _ _ _ us ws h1 h2 => match us, h1, ws, h2 with | [_, _], _, [], _ => rfl
theorem bl_b__law_pot_0 : ∀ l : List Nat, l.length = 2 + (([] : List PySem.Str).length + ([] : List Value).length) → (Pd.pick [0, 1] l).length = (["_law_script", "_law_k"] : List PySem.Str).length := fun l h => match l, h with | [_, _], _ => rfl
theorem b__law_right_0 {K : PySem.W.Frag} {f : Addr} {fd : FuncData} (D : FunD K "_law_right" "_law_right" (defArgs s__law_right) (defBody s__law_right) (defScope s__law_right) [] [] f fd) : Pd.Bt K fd ["_law_pot_here"] 1 [] [] [0] :=
  Pd.bt0 D fun _ _ _ _ _ _ us ws h1 h2 => match us, h1, ws, h2 with | [_], _, [], _ => rfl
theorem bl_b__law_right_0 : ∀ l : List Nat, l.length = 1 + (([] : List PySem.Str).length + ([] : List Value).length) → (Pd.pick [0] l).length = (["_law_pot_here"] : List PySem.Str).length := fun l h => match l, h with | [_], _ => rfl
section
variable {P : Program} {w : World} {K : PySem.W.Frag} {mg : Str → Option Value} {base : Heap}
theorem ok__law_draw (T : Tx K mg) : Pd.FnP P w K mg base 1 T.a__law_draw T.d__law_draw ["_law_pot_here", "_law_many"] m__law_draw :=
  Pd.fnp T.D__law_draw sc__law_draw fun cdv A outer s H E F hr hg => (show PSDs _ F _ (defBody s__law_draw) r__law_draw from (psd_cons (psd_if (pt_cmp1 od_gt (pd_potI 0 0) pd_int) (psd_cons (psd_potD 0 2 rfl sc__law_draw.nd T.n_divmod (pd_var 1))
    (psd_one (psd_ret (pd_var 2)))) psd_nil)
    (psd_cons (psd_potS 0 (pd_op od_mod (pd_Ty (cs_int) T.n_int (pad_cons (pd_op od_add (pd_op od_mul (pd_potI 0 1) pd_int) pd_int) pad_nil)) pd_int))
    (psd_one (psd_ret (pd_op od_mod (pd_Ty (cs_int) T.n_int (pad_cons (pd_op od_div (pd_op od_mod (pd_Ty (cs_int) T.n_int (pad_cons (pd_op od_mul (pd_potI 0 1) (pd_potI 0 1)) pad_nil)) pd_int) pd_int) pad_nil)) (pd_var 1)))))))
theorem ok__law_number (T : Tx K mg) : Pd.FnP P w K mg base 2 T.a__law_number T.d__law_number ["_law_pot_here"] m__law_number :=
  Pd.fnp T.D__law_number sc__law_number fun cdv A outer s H E F hr hg => (show PSDs _ F _ (defBody s__law_number) r__law_number from (psd_cons (psd_set 1 sc__law_number.nd (pd_call (takes_of rfl rfl rfl rfl) (ok__law_draw T) (hr.mono (by decide)) hg T.g__law_draw T.D__law_draw.kp (b__law_draw_0 T.D__law_draw) .nil (fun _ _ => rfl) (pae_p 0 (pae_d pd_int pae_nil)) pke_nil (lenE_pot (lenE_cons lenE_nil)) lenE_nil (bl_b__law_draw_0)))
    (psd_cons (psd_if (pt_cmp1 (od_eq hr) (pd_var 1) pd_int) (psd_one (psd_ret (pd_call (takes_of rfl rfl rfl rfl) (ok__law_draw T) (hr.mono (by decide)) hg T.g__law_draw T.D__law_draw.kp (b__law_draw_0 T.D__law_draw) .nil (fun _ _ => rfl) (pae_p 0 (pae_d pd_int pae_nil)) pke_nil (lenE_pot (lenE_cons lenE_nil)) lenE_nil (bl_b__law_draw_0)))) psd_nil)
    (psd_cons (psd_if (pt_cmp1 (od_eq hr) (pd_var 1) pd_int) (psd_one (psd_ret (pd_op od_sub (pd_op od_sub (pd_op od_pow (pd_op od_pow pd_int pd_int) pd_int) (pd_op od_pow pd_int pd_int)) (pd_call (takes_of rfl rfl rfl rfl) (ok__law_draw T) (hr.mono (by decide)) hg T.g__law_draw T.D__law_draw.kp (b__law_draw_0 T.D__law_draw) .nil (fun _ _ => rfl) (pae_p 0 (pae_d pd_int pae_nil)) pke_nil (lenE_pot (lenE_cons lenE_nil)) lenE_nil (bl_b__law_draw_0))))) psd_nil)
    (psd_cons (psd_if (pt_cmp1 (od_eq hr) (pd_var 1) pd_int) (psd_cons (psd_set 2 sc__law_number.nd (pd_op od_add pd_int (pd_call (takes_of rfl rfl rfl rfl) (ok__law_draw T) (hr.mono (by decide)) hg T.g__law_draw T.D__law_draw.kp (b__law_draw_0 T.D__law_draw) .nil (fun _ _ => rfl) (pae_p 0 (pae_d (pd_op od_pow pd_int pd_int) pae_nil)) pke_nil (lenE_pot (lenE_cons lenE_nil)) lenE_nil (bl_b__law_draw_0))))
    (psd_one (psd_ret (pd_B (cs_max rfl) T.n_max (pad_cons pd_int (pad_cons (pd_op od_sub (pd_op od_add (pd_op od_div (pd_op od_mul (pd_op od_mul (pd_var 2) (pd_var 2)) (pd_op od_pow pd_int pd_int)) (pd_op od_pow pd_int pd_int)) (pd_call (takes_of rfl rfl rfl rfl) (ok__law_draw T) (hr.mono (by decide)) hg T.g__law_draw T.D__law_draw.kp (b__law_draw_0 T.D__law_draw) .nil (fun _ _ => rfl) (pae_p 0 (pae_d pd_int pae_nil)) pke_nil (lenE_pot (lenE_cons lenE_nil)) lenE_nil (bl_b__law_draw_0))) pd_int) pad_nil)))))) psd_nil)
    (psd_cons (psd_if (pt_cmp1 (od_eq hr) (pd_var 1) pd_int) (psd_one (psd_ret (pd_op od_mul (pd_op od_pow (pd_call (takes_of rfl rfl rfl rfl) (ok__law_draw T) (hr.mono (by decide)) hg T.g__law_draw T.D__law_draw.kp (b__law_draw_0 T.D__law_draw) .nil (fun _ _ => rfl) (pae_p 0 (pae_d (pd_op od_pow pd_int pd_int) pae_nil)) pke_nil (lenE_pot (lenE_cons lenE_nil)) lenE_nil (bl_b__law_draw_0)) pd_int) (pd_op od_pow pd_int pd_int)))) psd_nil)
    (psd_cons (psd_set 3 sc__law_number.nd (pd_call (takes_of rfl rfl rfl rfl) (ok__law_draw T) (hr.mono (by decide)) hg T.g__law_draw T.D__law_draw.kp (b__law_draw_0 T.D__law_draw) .nil (fun _ _ => rfl) (pae_p 0 (pae_d (pd_op od_pow pd_int pd_int) pae_nil)) pke_nil (lenE_pot (lenE_cons lenE_nil)) lenE_nil (bl_b__law_draw_0)))
    (psd_cons (psd_for (passes_of rfl) rfl (pid_rng1 T.n_range (pad_cons (pd_call (takes_of rfl rfl rfl rfl) (ok__law_draw T) (hr.mono (by decide)) hg T.g__law_draw T.D__law_draw.kp (b__law_draw_0 T.D__law_draw) .nil (fun _ _ => rfl) (pae_p 0 (pae_d pd_int pae_nil)) pke_nil (lenE_pot (lenE_cons lenE_nil)) lenE_nil (bl_b__law_draw_0)) pad_nil)) (pgt_name sc__law_number.nd (i := 4)) (psd_one (psd_set 3 sc__law_number.nd (pd_op od_mul pd_int (pd_var 3)))))
    (psd_one (psd_ret (pd_var 3)))))))))))
theorem ok__law_interval (T : Tx K mg) : Pd.FnP P w K mg base 3 T.a__law_interval T.d__law_interval ["_law_pot_here"] m__law_interval :=
  Pd.fnp T.D__law_interval sc__law_interval fun cdv A outer s H E F hr hg => (show PSDs _ F _ (defBody s__law_interval) r__law_interval from (psd_cons (psd_par (i := 1) (j := 2) rfl sc__law_interval.nd (pad_cons (pd_call (takes_of rfl rfl rfl rfl) (ok__law_number T) (hr.mono (by decide)) hg T.g__law_number T.D__law_number.kp (b__law_number_0 T.D__law_number) .nil (fun _ _ => rfl) (pae_p 0 pae_nil) pke_nil (lenE_pot lenE_nil) lenE_nil (bl_b__law_number_0)) (pad_cons (pd_call (takes_of rfl rfl rfl rfl) (ok__law_number T) (hr.mono (by decide)) hg T.g__law_number T.D__law_number.kp (b__law_number_0 T.D__law_number) .nil (fun _ _ => rfl) (pae_p 0 pae_nil) pke_nil (lenE_pot lenE_nil) lenE_nil (bl_b__law_number_0)) pad_nil)))
    (psd_one (psd_ret (pd_ife (pt_cmp1 (od_eq hr) (pd_call (takes_of rfl rfl rfl rfl) (ok__law_draw T) (hr.mono (by decide)) hg T.g__law_draw T.D__law_draw.kp (b__law_draw_0 T.D__law_draw) .nil (fun _ _ => rfl) (pae_p 0 (pae_d pd_int pae_nil)) pke_nil (lenE_pot (lenE_cons lenE_nil)) lenE_nil (bl_b__law_draw_0)) pd_int) (pd_tup (pad_cons (pd_var 1) (pad_cons (pd_var 1) pad_nil)) (len_cons (len_cons len_nil))) (pd_tup (pad_cons (pd_B (cs_min rfl) T.n_min (pad_cons (pd_var 1) (pad_cons (pd_var 2) pad_nil))) (pad_cons (pd_B (cs_max rfl) T.n_max (pad_cons (pd_var 1) (pad_cons (pd_var 2) pad_nil))) pad_nil)) (len_cons (len_cons len_nil))))))))
theorem ok_root_at (T : Tx K mg) : Pd.FnP P w K mg base 1 T.a_root_at T.d_root_at ["interval"] m_root_at :=
  Pd.fnp T.D_root_at sc_root_at fun cdv A outer s H E F hr hg => (show PSDs _ F _ (defBody s_root_at) r_root_at from (psd_cons (psd_if (pt_cmp1 od_lt (pd_ix (pd_var 0) pd_int) pd_int) (psd_one psd_never) psd_nil)
    (psd_cons (psd_par (i := 1) (j := 2) rfl sc_root_at.nd (pad_cons (pd_Bm (cs_isqrt) T.i_isqrt (pad_cons (pd_op od_mul (pd_ix (pd_var 0) pd_int) (pd_gint T.c_ONE)) pad_nil)) (pad_cons (pd_Bm (cs_isqrt) T.i_isqrt (pad_cons (pd_op od_mul (pd_ix (pd_var 0) pd_int) (pd_gint T.c_ONE)) pad_nil)) pad_nil)))
    (psd_one (psd_ret (pd_tup (pad_cons (pd_var 1) (pad_cons (pd_ife (pt_cmp1 (od_eq hr) (pd_op od_mul (pd_var 2) (pd_var 2)) (pd_op od_mul (pd_ix (pd_var 0) pd_int) (pd_gint T.c_ONE))) (pd_var 2) (pd_op od_add (pd_var 2) pd_int)) pad_nil)) (len_cons (len_cons len_nil))))))))
theorem ok_is_integer (T : Tx K mg) : Pd.FnP P w K mg base 1 T.a_is_integer T.d_is_integer ["value"] m_is_integer :=
  Pd.fnp T.D_is_integer sc_is_integer fun cdv A outer s H E F hr hg => (show PSDs _ F _ (defBody s_is_integer) r_is_integer from (psd_one (psd_ret (pd_and (pd_isi T.n_isinstance T.n_int (pd_var 0)) (pd_one (pd_not (pd_isi T.n_isinstance T.n_bool (pd_var 0))))))))
theorem ok_is_interval (T : Tx K mg) : Pd.FnP P w K mg base 2 T.a_is_interval T.d_is_interval ["value"] m_is_interval :=
  Pd.fnp T.D_is_interval sc_is_interval fun cdv A outer s H E F hr hg => (show PSDs _ F _ (defBody s_is_interval) r_is_interval from (psd_cons (psd_if (PWD.pt (pw_o (ptd_not (pt_bool (pd_isi T.n_isinstance T.n_tuple (pd_var 0)))) (pw_o (pt_cmp1 (od_ne hr) (pd_B (cs_len) T.n_len (pad_cons (pd_var 0) pad_nil)) pd_int) (pw_o (ptd_not (pt_bool (pd_call (takes_of rfl rfl rfl rfl) (ok_is_integer T) (hr.mono (by decide)) hg T.g_is_integer T.D_is_integer.kp (b_is_integer_0 T.D_is_integer) .nil (fun _ _ => rfl) (pae_d (pd_ix (pd_var 0) pd_int) pae_nil) pke_nil (lenE_cons lenE_nil) lenE_nil (bl_b_is_integer_0)))) (pw_o1 (ptd_not (pt_bool (pd_call (takes_of rfl rfl rfl rfl) (ok_is_integer T) (hr.mono (by decide)) hg T.g_is_integer T.D_is_integer.kp (b_is_integer_0 T.D_is_integer) .nil (fun _ _ => rfl) (pae_d (pd_ix (pd_var 0) pd_int) pae_nil) pke_nil (lenE_cons lenE_nil) lenE_nil (bl_b_is_integer_0))))))))) (psd_one (psd_ret pd_bl)) psd_nil)
    (psd_one (psd_ret (pd_chn (pd_op od_sub pd_int (pd_gint T.c_MOST_GRAINS)) (pcd_link od_le (pd_ix (pd_var 0) pd_int) (pcd_link od_le (pd_ix (pd_var 0) pd_int) (pcd_last od_le (pd_gint T.c_MOST_GRAINS)))))))))
theorem ok_want_interval (T : Tx K mg) : Pd.FnP P w K mg base 3 T.a_want_interval T.d_want_interval ["value"] m_want_interval :=
  Pd.fnp T.D_want_interval sc_want_interval fun cdv A outer s H E F hr hg => (show PSDs _ F _ (defBody s_want_interval) r_want_interval from (psd_cons (psd_if (ptd_not (pt_bool (pd_call (takes_of rfl rfl rfl rfl) (ok_is_interval T) (hr.mono (by decide)) hg T.g_is_interval T.D_is_interval.kp (b_is_interval_0 T.D_is_interval) .nil (fun _ _ => rfl) (pae_d (pd_var 0) pae_nil) pke_nil (lenE_cons lenE_nil) lenE_nil (bl_b_is_interval_0)))) (psd_one psd_never) psd_nil)
    (psd_one (psd_ret (pd_var 0)))))
theorem ok_root_of (T : Tx K mg) : Pd.FnP P w K mg base 4 T.a_root_of T.d_root_of ["interval"] m_root_of :=
  Pd.fnp T.D_root_of sc_root_of fun cdv A outer s H E F hr hg => (show PSDs _ F _ (defBody s_root_of) r_root_of from (psd_one (psd_ret (pd_call (takes_of rfl rfl rfl rfl) (ok_root_at T) (hr.mono (by decide)) hg T.g_root_at T.D_root_at.kp (b_root_at_0 T.D_root_at) .nil (fun _ _ => rfl) (pae_d (pd_call (takes_of rfl rfl rfl rfl) (ok_want_interval T) (hr.mono (by decide)) hg T.g_want_interval T.D_want_interval.kp (b_want_interval_0 T.D_want_interval) .nil (fun _ _ => rfl) (pae_d (pd_var 0) pae_nil) pke_nil (lenE_cons lenE_nil) lenE_nil (bl_b_want_interval_0)) pae_nil) pke_nil (lenE_cons lenE_nil) lenE_nil (bl_b_root_at_0)))))
theorem ok__law_root_right (T : Tx K mg) : Pd.FnP P w K mg base 1 T.a__law_root_right T.d__law_root_right ["_law_told", "_law_low", "_law_high"] m__law_root_right :=
  Pd.fnp T.D__law_root_right sc__law_root_right fun cdv A outer s H E F hr hg => (show PSDs _ F _ (defBody s__law_root_right) r__law_root_right from (psd_cons (psd_if (PWD.pt (pw_o (ptd_not (pt_bool (pd_isi T.n_isinstance T.n_tuple (pd_var 0)))) (pw_o (pt_cmp1 (od_ne hr) (pd_B (cs_len) T.n_len (pad_cons (pd_var 0) pad_nil)) pd_int) (pw_o1 (ptd_not (pt_chn pd_int (pcd_link od_le (pd_ix (pd_var 0) pd_int) (pcd_last od_le (pd_ix (pd_var 0) pd_int))))))))) (psd_one (psd_ret pd_bl)) psd_nil)
    (psd_cons (psd_if (ptd_not (pt_bool (pd_B (cs_all rfl) T.n_all (pad_cons (pd_frz (po_comp [("_law_one", 3)] (.n 3) rfl sc__law_root_right.nd (pid_seq (pd_var 0)) (show BlkOk ["_law_told", "_law_low", "_law_high", "_law_one", "_law_near", "_law_far"] (defScope s__law_root_right) _ _ from ⟨rfl, by decide +kernel, by decide +kernel, by decide +kernel, by decide +kernel⟩) (by simp [Pd.TgtIn]) (fun s_ H_ C_ cl_ fp_ => (pg_name sc__law_root_right.nd (i := 3) rfl (by first | exact Or.inl rfl | exact Or.inr rfl))) (fun F_ s_ H_ C_ cl_ fp_ => ptsd_nil) (fun F_ s_ H_ C_ cl_ fp_ => (pd_and (pd_isi T.n_isinstance T.n_int (pd_var 3)) (pd_one (pd_not (pd_isi T.n_isinstance T.n_bool (pd_var 3)))))))) pad_nil)))) (psd_one (psd_ret pd_bl)) psd_nil)
    (psd_cons (psd_par3 (i := 4) (j := 5) (k := 3) rfl sc__law_root_right.nd (pad_cons (pd_ix (pd_var 0) pd_int) (pad_cons (pd_ix (pd_var 0) pd_int) (pad_cons (pd_op od_pow pd_int pd_int) pad_nil))))
    (psd_cons (psd_if (ptd_not (pt_chn (pd_op od_mul (pd_var 4) (pd_var 4)) (pcd_link od_le (pd_op od_mul (pd_var 1) (pd_var 3)) (pcd_last od_lt (pd_op od_mul (pd_op od_add (pd_var 4) pd_int) (pd_op od_add (pd_var 4) pd_int)))))) (psd_one (psd_ret pd_bl)) psd_nil)
    (psd_one (psd_ret (pd_and (pd_cmp od_ge (pd_op od_mul (pd_var 5) (pd_var 5)) (pd_op od_mul (pd_var 2) (pd_var 3))) (pd_one (pd_or (pd_cmp (od_eq hr) (pd_var 5) pd_int) (pd_one (pd_cmp od_lt (pd_op od_mul (pd_op od_sub (pd_var 5) pd_int) (pd_op od_sub (pd_var 5) pd_int)) (pd_op od_mul (pd_var 2) (pd_var 3))))))))))))))
theorem ok_checked_ends (T : Tx K mg) : Pd.FnP P w K mg base 1 T.a_checked_ends T.d_checked_ends ["low", "high"] m_checked_ends :=
  Pd.fnp T.D_checked_ends sc_checked_ends fun cdv A outer s H E F hr hg => (show PSDs _ F _ (defBody s_checked_ends) r_checked_ends from (psd_cons (psd_if (PWD.pt (pw_o (pt_cmp1 od_lt (pd_var 0) (pd_op od_sub pd_int (pd_gint T.c_MOST_GRAINS))) (pw_o1 (pt_cmp1 od_gt (pd_var 1) (pd_gint T.c_MOST_GRAINS))))) (psd_one psd_never) psd_nil)
    (psd_one (psd_ret (pd_tup (pad_cons (pd_var 0) (pad_cons (pd_var 1) pad_nil)) (len_cons (len_cons len_nil)))))))
theorem ok_rounded_down (T : Tx K mg) : Pd.FnP P w K mg base 1 T.a_rounded_down T.d_rounded_down ["number", "under"] m_rounded_down :=
  Pd.fnp T.D_rounded_down sc_rounded_down fun cdv A outer s H E F hr hg => (show PSDs _ F _ (defBody s_rounded_down) r_rounded_down from (psd_cons (psd_if (pt_cmp1 od_lt (pd_var 1) pd_int) (psd_one (psd_ret (pd_op od_div (pd_op od_sub pd_int (pd_var 0)) (pd_op od_sub pd_int (pd_var 1))))) psd_nil)
    (psd_one (psd_ret (pd_op od_div (pd_var 0) (pd_var 1))))))
theorem ok_rounded_up (T : Tx K mg) : Pd.FnP P w K mg base 2 T.a_rounded_up T.d_rounded_up ["number", "under"] m_rounded_up :=
  Pd.fnp T.D_rounded_up sc_rounded_up fun cdv A outer s H E F hr hg => (show PSDs _ F _ (defBody s_rounded_up) r_rounded_up from (psd_one (psd_ret (pd_op od_sub pd_int (pd_call (takes_of rfl rfl rfl rfl) (ok_rounded_down T) (hr.mono (by decide)) hg T.g_rounded_down T.D_rounded_down.kp (b_rounded_down_0 T.D_rounded_down) .nil (fun _ _ => rfl) (pae_d (pd_op od_sub pd_int (pd_var 0)) (pae_d (pd_var 1) pae_nil)) pke_nil (lenE_cons (lenE_cons lenE_nil)) lenE_nil (bl_b_rounded_down_0))))))
theorem ok_over_at (T : Tx K mg) : Pd.FnP P w K mg base 3 T.a_over_at T.d_over_at ["interval"] m_over_at :=
  Pd.fnp T.D_over_at sc_over_at fun cdv A outer s H E F hr hg => (show PSDs _ F _ (defBody s_over_at) r_over_at from (psd_cons (psd_if (pt_chn (pd_ix (pd_var 0) pd_int) (pcd_link od_le pd_int (pcd_last od_le (pd_ix (pd_var 0) pd_int)))) (psd_one psd_never) psd_nil)
    (psd_one (psd_ret (pd_call (takes_of rfl rfl rfl rfl) (ok_checked_ends T) (hr.mono (by decide)) hg T.g_checked_ends T.D_checked_ends.kp (b_checked_ends_0 T.D_checked_ends) .nil (fun _ _ => rfl) (pae_d (pd_call (takes_of rfl rfl rfl rfl) (ok_rounded_down T) (hr.mono (by decide)) hg T.g_rounded_down T.D_rounded_down.kp (b_rounded_down_0 T.D_rounded_down) .nil (fun _ _ => rfl) (pae_d (pd_op od_mul (pd_gint T.c_ONE) (pd_gint T.c_ONE)) (pae_d (pd_ix (pd_var 0) pd_int) pae_nil)) pke_nil (lenE_cons (lenE_cons lenE_nil)) lenE_nil (bl_b_rounded_down_0)) (pae_d (pd_call (takes_of rfl rfl rfl rfl) (ok_rounded_up T) (hr.mono (by decide)) hg T.g_rounded_up T.D_rounded_up.kp (b_rounded_up_0 T.D_rounded_up) .nil (fun _ _ => rfl) (pae_d (pd_op od_mul (pd_gint T.c_ONE) (pd_gint T.c_ONE)) (pae_d (pd_ix (pd_var 0) pd_int) pae_nil)) pke_nil (lenE_cons (lenE_cons lenE_nil)) lenE_nil (bl_b_rounded_up_0)) pae_nil)) pke_nil (lenE_cons (lenE_cons lenE_nil)) lenE_nil (bl_b_checked_ends_0))))))
theorem ok_over_of (T : Tx K mg) : Pd.FnP P w K mg base 4 T.a_over_of T.d_over_of ["interval"] m_over_of :=
  Pd.fnp T.D_over_of sc_over_of fun cdv A outer s H E F hr hg => (show PSDs _ F _ (defBody s_over_of) r_over_of from (psd_one (psd_ret (pd_call (takes_of rfl rfl rfl rfl) (ok_over_at T) (hr.mono (by decide)) hg T.g_over_at T.D_over_at.kp (b_over_at_0 T.D_over_at) .nil (fun _ _ => rfl) (pae_d (pd_call (takes_of rfl rfl rfl rfl) (ok_want_interval T) (hr.mono (by decide)) hg T.g_want_interval T.D_want_interval.kp (b_want_interval_0 T.D_want_interval) .nil (fun _ _ => rfl) (pae_d (pd_var 0) pae_nil) pke_nil (lenE_cons lenE_nil) lenE_nil (bl_b_want_interval_0)) pae_nil) pke_nil (lenE_cons lenE_nil) lenE_nil (bl_b_over_at_0)))))
theorem ok__law_over (T : Tx K mg) : Pd.FnP P w K mg base 1 T.a__law_over T.d__law_over ["_law_low", "_law_high"] m__law_over :=
  Pd.fnp T.D__law_over sc__law_over fun cdv A outer s H E F hr hg => (show PSDs _ F _ (defBody s__law_over) r__law_over from (psd_cons (psd_set 2 sc__law_over.nd (pd_op od_pow (pd_op od_pow pd_int pd_int) pd_int))
    (psd_cons (psd_set 3 sc__law_over.nd (pd_ife (pt_cmp1 od_gt (pd_var 0) pd_int) (pd_frz (po_lst (pad_cons (pd_tup (pad_cons (pd_var 2) (pad_cons (pd_var 0) pad_nil)) (len_cons (len_cons len_nil))) (pad_cons (pd_tup (pad_cons (pd_var 2) (pad_cons (pd_var 1) pad_nil)) (len_cons (len_cons len_nil))) pad_nil)) (len_cons (len_cons len_nil)))) (pd_frz (po_lst (pad_cons (pd_tup (pad_cons (pd_neg (pd_var 2)) (pad_cons (pd_neg (pd_var 0)) pad_nil)) (len_cons (len_cons len_nil))) (pad_cons (pd_tup (pad_cons (pd_neg (pd_var 2)) (pad_cons (pd_neg (pd_var 1)) pad_nil)) (len_cons (len_cons len_nil))) pad_nil)) (len_cons (len_cons len_nil))))))
    (psd_one (psd_ret (pd_tup (pad_cons (pd_B (cs_min rfl) T.n_min (pad_cons (pd_frz (po_comp [("_law_number_here", 4), ("_law_under", 5)] (.t [4, 5]) rfl sc__law_over.nd (pid_seq (pd_var 3)) (show BlkOk ["_law_low", "_law_high", "_law_whole", "_law_some", "_law_number_here", "_law_under"] (defScope s__law_over) _ _ from ⟨rfl, by decide +kernel, by decide +kernel, by decide +kernel, by decide +kernel⟩) (by simp [Pd.TgtIn]) (fun s_ H_ C_ cl_ fp_ => (pg_tup rfl (pgts_cons (i := 4) sc__law_over.nd (pgts_cons (i := 5) sc__law_over.nd pgts_nil)))) (fun F_ s_ H_ C_ cl_ fp_ => ptsd_nil) (fun F_ s_ H_ C_ cl_ fp_ => (pd_op od_div (pd_var 4) (pd_var 5))))) pad_nil)) (pad_cons (pd_B (cs_max rfl) T.n_max (pad_cons (pd_frz (po_comp [("_law_number_here", 4), ("_law_under", 5)] (.t [4, 5]) rfl sc__law_over.nd (pid_seq (pd_var 3)) (show BlkOk ["_law_low", "_law_high", "_law_whole", "_law_some", "_law_number_here", "_law_under"] (defScope s__law_over) _ _ from ⟨rfl, by decide +kernel, by decide +kernel, by decide +kernel, by decide +kernel⟩) (by simp [Pd.TgtIn]) (fun s_ H_ C_ cl_ fp_ => (pg_tup rfl (pgts_cons (i := 4) sc__law_over.nd (pgts_cons (i := 5) sc__law_over.nd pgts_nil)))) (fun F_ s_ H_ C_ cl_ fp_ => ptsd_nil) (fun F_ s_ H_ C_ cl_ fp_ => (pd_neg (pd_op od_div (pd_neg (pd_var 4)) (pd_var 5)))))) pad_nil)) pad_nil)) (len_cons (len_cons len_nil))))))))
theorem ok__law_right (T : Tx K mg) : Pd.FnP P w K mg base 5 T.a__law_right T.d__law_right ["_law_pot_here"] m__law_right :=
  Pd.fnp T.D__law_right sc__law_right fun cdv A outer s H E F hr hg => (show PSDs _ F _ (defBody s__law_right) r__law_right from (psd_cons (psd_for (passes_of rfl) rfl (pid_rng1 T.n_range (pad_cons pd_int pad_nil)) (pgt_name sc__law_right.nd (i := 1)) (psd_cons (psd_asg (pd_call (takes_of rfl rfl rfl rfl) (ok__law_interval T) (hr.mono (by decide)) hg T.g__law_interval T.D__law_interval.kp (b__law_interval_0 T.D__law_interval) .nil (fun _ _ => rfl) (pae_p 0 pae_nil) pke_nil (lenE_pot lenE_nil) lenE_nil (bl_b__law_interval_0)) (pgt_tup rfl (pgts_cons (i := 2) sc__law_right.nd (pgts_cons (i := 3) sc__law_right.nd pgts_nil))))
    (psd_cons (psd_set 4 sc__law_right.nd (pd_ife (pt_cmp1 od_gt (pd_var 1) pd_int) (pd_call (takes_of rfl rfl rfl rfl) (ok_root_of T) (hr.mono (by decide)) hg T.g_root_of T.D_root_of.kp (b_root_of_0 T.D_root_of) .nil (fun _ _ => rfl) (pae_d (pd_tup (pad_cons (pd_var 2) (pad_cons (pd_var 3) pad_nil)) (len_cons (len_cons len_nil))) pae_nil) pke_nil (lenE_cons lenE_nil) lenE_nil (bl_b_root_of_0)) (pd_call0 (takes_of rfl rfl rfl rfl) (ok_root_of T) (hr.mono (by decide)) hg T.g_root_of T.D_root_of.kp (b_root_of_1 T.D_root_of) .nil (fun _ _ => rfl) (pke_d (pd_tup (pad_cons (pd_var 2) (pad_cons (pd_var 3) pad_nil)) (len_cons (len_cons len_nil))) pke_nil) (lenE_cons lenE_nil) (bl_b_root_of_1))))
    (psd_cons (psd_if (ptd_not (pt_bool (pd_call (takes_of rfl rfl rfl rfl) (ok__law_root_right T) (hr.mono (by decide)) hg T.g__law_root_right T.D__law_root_right.kp (b__law_root_right_0 T.D__law_root_right) .nil (fun _ _ => rfl) (pae_d (pd_var 4) (pae_d (pd_var 2) (pae_d (pd_var 3) pae_nil))) pke_nil (lenE_cons (lenE_cons (lenE_cons lenE_nil))) lenE_nil (bl_b__law_root_right_0)))) (psd_one (psd_ret pd_bl)) psd_nil)
    (psd_cons (psd_set 5 sc__law_right.nd (pd_tup (pad_cons (pd_op od_add (pd_var 2) (pd_op od_div (pd_op od_sub (pd_var 3) (pd_var 2)) pd_int)) (pad_cons (pd_op od_sub (pd_var 3) (pd_op od_div (pd_op od_sub (pd_var 3) (pd_var 2)) pd_int)) pad_nil)) (len_cons (len_cons len_nil))))
    (psd_cons (psd_set 6 sc__law_right.nd (pd_call (takes_of rfl rfl rfl rfl) (ok_root_of T) (hr.mono (by decide)) hg T.g_root_of T.D_root_of.kp (b_root_of_0 T.D_root_of) .nil (fun _ _ => rfl) (pae_d (pd_var 5) pae_nil) pke_nil (lenE_cons lenE_nil) lenE_nil (bl_b_root_of_0)))
    (psd_cons (psd_if (ptd_not (pt_chn (pd_ix (pd_var 4) pd_int) (pcd_link od_le (pd_ix (pd_var 6) pd_int) (pcd_link od_le (pd_ix (pd_var 6) pd_int) (pcd_last od_le (pd_ix (pd_var 4) pd_int)))))) (psd_one (psd_ret pd_bl)) psd_nil)
    (psd_cons (psd_par (i := 2) (j := 3) rfl sc__law_right.nd (pad_cons (pd_op od_add (pd_var 2) (pd_op od_pow pd_int pd_int)) (pad_cons (pd_op od_add (pd_var 3) (pd_op od_pow pd_int pd_int)) pad_nil)))
    (psd_cons (psd_if (pt_cmp1 (od_eq hr) (pd_call (takes_of rfl rfl rfl rfl) (ok__law_draw T) (hr.mono (by decide)) hg T.g__law_draw T.D__law_draw.kp (b__law_draw_0 T.D__law_draw) .nil (fun _ _ => rfl) (pae_p 0 (pae_d pd_int pae_nil)) pke_nil (lenE_pot (lenE_cons lenE_nil)) lenE_nil (bl_b__law_draw_0)) pd_int) (psd_one (psd_par (i := 2) (j := 3) rfl sc__law_right.nd (pad_cons (pd_neg (pd_var 3)) (pad_cons (pd_neg (pd_var 2)) pad_nil)))) psd_nil)
    (psd_cons (psd_set 4 sc__law_right.nd (pd_ife (pt_cmp1 od_gt (pd_var 1) pd_int) (pd_call (takes_of rfl rfl rfl rfl) (ok_over_of T) (hr.mono (by decide)) hg T.g_over_of T.D_over_of.kp (b_over_of_0 T.D_over_of) .nil (fun _ _ => rfl) (pae_d (pd_tup (pad_cons (pd_var 2) (pad_cons (pd_var 3) pad_nil)) (len_cons (len_cons len_nil))) pae_nil) pke_nil (lenE_cons lenE_nil) lenE_nil (bl_b_over_of_0)) (pd_call0 (takes_of rfl rfl rfl rfl) (ok_over_of T) (hr.mono (by decide)) hg T.g_over_of T.D_over_of.kp (b_over_of_1 T.D_over_of) .nil (fun _ _ => rfl) (pke_d (pd_tup (pad_cons (pd_var 2) (pad_cons (pd_var 3) pad_nil)) (len_cons (len_cons len_nil))) pke_nil) (lenE_cons lenE_nil) (bl_b_over_of_1))))
    (psd_cons (psd_if (pt_cmp1 (od_ne hr) (pd_B (cs_repr hr hg) T.n_repr (pad_cons (pd_var 4) pad_nil)) (pd_B (cs_repr hr hg) T.n_repr (pad_cons (pd_call (takes_of rfl rfl rfl rfl) (ok__law_over T) (hr.mono (by decide)) hg T.g__law_over T.D__law_over.kp (b__law_over_0 T.D__law_over) .nil (fun _ _ => rfl) (pae_d (pd_var 2) (pae_d (pd_var 3) pae_nil)) pke_nil (lenE_cons (lenE_cons lenE_nil)) lenE_nil (bl_b__law_over_0)) pad_nil))) (psd_one (psd_ret pd_bl)) psd_nil)
    (psd_one (psd_if (PWD.pt (pw_o (PWD.pt (pw_a (pt_cmp1 od_lt pd_int (pd_ix (pd_var 4) pd_int)) (pw_a1 (pt_cmp1 od_le (pd_op od_pow pd_int pd_int) (pd_ix (pd_var 4) pd_int))))) (pw_o1 (pt_cmp1 od_le (pd_ix (pd_var 4) pd_int) (pd_neg (pd_op od_pow pd_int pd_int)))))) (psd_cons (psd_set 7 sc__law_right.nd (pd_call (takes_of rfl rfl rfl rfl) (ok_over_of T) (hr.mono (by decide)) hg T.g_over_of T.D_over_of.kp (b_over_of_0 T.D_over_of) .nil (fun _ _ => rfl) (pae_d (pd_var 4) pae_nil) pke_nil (lenE_cons lenE_nil) lenE_nil (bl_b_over_of_0)))
    (psd_one (psd_if (ptd_not (pt_chn (pd_ix (pd_var 7) pd_int) (pcd_link od_le (pd_var 2) (pcd_link od_le (pd_var 3) (pcd_last od_le (pd_ix (pd_var 7) pd_int)))))) (psd_one (psd_ret pd_bl)) psd_nil))) psd_nil)))))))))))))
    (psd_one (psd_ret pd_bl))))
theorem ok__law_pot (T : Tx K mg) : Pd.FnP P w K mg base 1 T.a__law_pot T.d__law_pot ["_law_script", "_law_k"] m__law_pot :=
  Pd.fnp T.D__law_pot sc__law_pot fun cdv A outer s H E F hr hg => (show PSDs _ F _ (defBody s__law_pot) r__law_pot from (psd_cons (psd_set 2 sc__law_pot.nd (pd_ife (pt_cmp1 od_lt (pd_var 1) (pd_B (cs_len) T.n_len (pad_cons (pd_var 0) pad_nil))) (pd_B (cs_abs) T.n_abs (pad_cons (pd_ix (pd_var 0) (pd_var 1)) pad_nil)) (pd_op od_add (pd_op od_mul pd_int (pd_var 1)) pd_int)))
    (psd_one (psd_retO (po_lst (pad_cons (pd_B (cs_max rfl) T.n_max (pad_cons pd_int (pad_cons (pd_op od_sub (pd_var 2) (pd_op od_pow pd_int pd_int)) pad_nil))) (pad_cons (pd_op od_add (pd_op od_mod (pd_Ty (cs_int) T.n_int (pad_cons (pd_op od_add (pd_op od_add (pd_op od_mul (pd_op od_mod (pd_Ty (cs_int) T.n_int (pad_cons (pd_var 2) pad_nil)) pd_int) pd_int) (pd_op od_mul pd_int (pd_var 1))) pd_int) pad_nil)) pd_int) pd_int) pad_nil)) (len_cons (len_cons len_nil)))))))
theorem ok_law (T : Tx K mg) : Pd.FnP P w K mg base 6 T.a_law T.d_law ["_law_script"] m_law :=
  Pd.fnp T.D_law sc_law fun cdv A outer s H E F hr hg => (show PSDs _ F _ (defBody s_law) r_law from (psd_one (psd_lawR (takes_of rfl rfl rfl rfl) (ok__law_right T) (hr.mono (by decide)) hg T.g__law_right T.D__law_right.kp (b__law_right_0 T.D__law_right) (po_call (takes_of rfl rfl rfl rfl) (ok__law_pot T) (hr.mono (by decide)) hg T.g__law_pot T.D__law_pot.kp (b__law_pot_0 T.D__law_pot) .nil (fun _ _ => rfl) (pae_d (pd_var 0) (pae_d pd_int pae_nil)) pke_nil (lenE_cons (lenE_cons lenE_nil)) lenE_nil (bl_b__law_pot_0)))))
end
end Tc


namespace Tc
open PySem PySem.Spec Pd
theorem draw_spec {θ : Pot} {n : Int} (h : PotOk θ) (hn : 0 < n) (hn2 : n < 1000000000000000000000000000000000000000000000000) : Gv (m__law_draw [.pot, .dat (.int n)] θ) fun r θ' => ∃ i, r = .d (.int i) ∧ 0 ≤ i ∧ i < n ∧ PotOk θ' := by
  unfold m__law_draw r__law_draw
  obtain ⟨h1, h2, h3⟩ := h
  have e1 : ∀ i : Int, i.fmod n = i % n := fun i => fm_pos hn
  have e2 : ∀ i : Int, i.fmod 2147483587 = i % 2147483587 := fun i => fm_pos (by decide)
  have e3 : ∀ i : Int, i.fmod 2147483563 = i % 2147483563 := fun i => fm_pos (by decide)
  have e4 : ∀ i : Int, i.fdiv 17 = i / 17 := fun i => fd_pos (by decide)
  have k1 : ∀ i : Int, 0 ≤ i % n ∧ i % n < n := fun i => ⟨Int.emod_nonneg i (by omega), Int.emod_lt_of_pos i hn⟩
  simp only [gv_var, varK_d, potK_p, gv_op, opK1_a, opK2_a, gv_I, gv_eqI, gv_neI, gv_neg, negK_a, gv_bool, boolK_a, gv_not, notK_a, brK_t, brK_f, brK_d, brK_n, runP_a, ansP_a, gv_and, gv_or, gv_andV, gv_orV, blK_a, gv_notV, gv_ite, gv_if, gv_nil, gv_cons, consK1_a, consK2_a, mapK_a, gv_tup, gv_lst, optK_a, gv_B, gv_chn, chnK_a, gv_last, gv_link, linkK_a, gv_isi, isi_ii, isi_bi, isi_tt, isi_ll, isi_ss, isi_ti, isi_li, isi_si, isi_tl, isi_lt, isi_it, isi_il, isi_is, isi_bs, isi_ib, isi_bb, isi_st, isi_sl, gv_seq, sqK_n, sqK_r, sqK_b, sqK_c, gv_next, gv_brk, gv_cnt, gv_retN, gv_set, setK_a, gv_par, parK_2, parK_3, gv_asg, asgK_a, asgR_s, bindT_n, bindT_2, bindT_3, gv_retS, retK_a, gv_retO, retOK_a, gv_fn, fnK_n, fnK_r, gv_enil, gv_econs, ecK1_a, ecK2_a, gv_epot, epK_a, rdK_d, rdK_o, roK_o, gv_call, cK1_a, cK2_a, gv_callO, coK1_a, coK2_a, gv_potI, potI_0, potI_1, gv_potS, potSK_a, gv_potD, potDK_a, gv_rng, gv_seqI, seqOf_l, seqOf_t, gv_for, forK_a, gv_comp, compK_a, gv_comp0, cmpR_s, cmpK2_a, cmpK1_a, gv_comp1, gv_tt1, hide_nil, hide_0, hide_d, hide_p, hide_o, wipeD_nil, wipeD_cons, gv_ok, gv_bad, gv_ret, gv_opt, gv_max2, gv_min2, gv_int, gv_ix0, gv_ix1, gv_ix2, gv_abs, pick_nil, pick_0, pick_1, pick_2, pick_3, pick_4, pick_5, gv_lenT0, gv_lenT1, gv_lenT2, gv_lenT3, gv_lenT4, gv_lenL0, gv_lenL1, gv_lenL2, gv_lenL3, gv_lenL4, gv_neS, gv_eqS, gv_rng1, gv_rng2, bnd62_of, rngL_len, big_of, gv_all2, gv_maxL2, gv_minL2, List.map_cons, List.map_nil, List.length_cons, List.length_nil, List.replicate, List.cons_append, List.nil_append, List.append_nil, List.getElem?_cons_zero, List.getElem?_cons_succ, List.set_cons_zero, List.set_cons_succ, Nat.reduceSub, Nat.reduceAdd, Nat.reduceMul, Nat.zero_add, Nat.add_zero, true_and, and_true, Int.reducePow, Int.reduceToNat, Int.reduceMul, Int.reduceAdd, Int.reduceSub, Int.reduceMod, Int.reduceNeg, Int.reduceLE, Int.reduceLT, Int.reduceEq, Nat.reduceLT, Nat.reduceLeDiff, Nat.reducePow, Int.reduceAbs, ne_eq, not_false_eq_true, not_true_eq_false, small_of, decide_true, decide_false, Bool.and_self, Bool.true_and, Bool.and_true, Bool.not_false, Bool.not_true, brK_t, brK_f, true_implies, false_implies, forall_const, implies_true, not_false_iff, e1, e2, e3, e4]
  have nz : n ≠ 0 := by omega
  refine ⟨fun h => ⟨⟨hn, small_of (by omega) (by omega)⟩, _, rfl, (k1 _).1, (k1 _).2, Int.ediv_nonneg h1 (by omega), h2, h3⟩, fun h => ⟨small_of (by omega) (by omega), small_of (by omega) (by omega), by simp [nz], _, rfl, (k1 _).1, (k1 _).2, h1, ?_, ?_⟩⟩
  · show 0 ≤ (θ.2 * 39373 + 941) % 2147483587
    omega
  · show (θ.2 * 39373 + 941) % 2147483587 < 4294967296
    omega
theorem number_spec {θ : Pot} (h : PotOk θ) : Gv (m__law_number [.pot] θ) fun r θ' => ∃ i, r = .d (.int i) ∧ 0 ≤ i ∧ i ≤ 1180591620717411302400 ∧ PotOk θ' := by
  unfold m__law_number r__law_number
  simp only [gv_var, varK_d, potK_p, gv_op, opK1_a, opK2_a, gv_I, gv_eqI, gv_neI, gv_neg, negK_a, gv_bool, boolK_a, gv_not, notK_a, brK_t, brK_f, brK_d, brK_n, runP_a, ansP_a, gv_and, gv_or, gv_andV, gv_orV, blK_a, gv_notV, gv_ite, gv_if, gv_nil, gv_cons, consK1_a, consK2_a, mapK_a, gv_tup, gv_lst, optK_a, gv_B, gv_chn, chnK_a, gv_last, gv_link, linkK_a, gv_isi, isi_ii, isi_bi, isi_tt, isi_ll, isi_ss, isi_ti, isi_li, isi_si, isi_tl, isi_lt, isi_it, isi_il, isi_is, isi_bs, isi_ib, isi_bb, isi_st, isi_sl, gv_seq, sqK_n, sqK_r, sqK_b, sqK_c, gv_next, gv_brk, gv_cnt, gv_retN, gv_set, setK_a, gv_par, parK_2, parK_3, gv_asg, asgK_a, asgR_s, bindT_n, bindT_2, bindT_3, gv_retS, retK_a, gv_retO, retOK_a, gv_fn, fnK_n, fnK_r, gv_enil, gv_econs, ecK1_a, ecK2_a, gv_epot, epK_a, rdK_d, rdK_o, roK_o, gv_call, cK1_a, cK2_a, gv_callO, coK1_a, coK2_a, gv_potI, potI_0, potI_1, gv_potS, potSK_a, gv_potD, potDK_a, gv_rng, gv_seqI, seqOf_l, seqOf_t, gv_for, forK_a, gv_comp, compK_a, gv_comp0, cmpR_s, cmpK2_a, cmpK1_a, gv_comp1, gv_tt1, hide_nil, hide_0, hide_d, hide_p, hide_o, wipeD_nil, wipeD_cons, gv_ok, gv_bad, gv_ret, gv_opt, gv_max2, gv_min2, gv_int, gv_ix0, gv_ix1, gv_ix2, gv_abs, pick_nil, pick_0, pick_1, pick_2, pick_3, pick_4, pick_5, gv_lenT0, gv_lenT1, gv_lenT2, gv_lenT3, gv_lenT4, gv_lenL0, gv_lenL1, gv_lenL2, gv_lenL3, gv_lenL4, gv_neS, gv_eqS, gv_rng1, gv_rng2, bnd62_of, rngL_len, big_of, gv_all2, gv_maxL2, gv_minL2, List.map_cons, List.map_nil, List.length_cons, List.length_nil, List.replicate, List.cons_append, List.nil_append, List.append_nil, List.getElem?_cons_zero, List.getElem?_cons_succ, List.set_cons_zero, List.set_cons_succ, Nat.reduceSub, Nat.reduceAdd, Nat.reduceMul, Nat.zero_add, Nat.add_zero, true_and, and_true, Int.reducePow, Int.reduceToNat, Int.reduceMul, Int.reduceAdd, Int.reduceSub, Int.reduceMod, Int.reduceNeg, Int.reduceLE, Int.reduceLT, Int.reduceEq, Nat.reduceLT, Nat.reduceLeDiff, Nat.reducePow, Int.reduceAbs, ne_eq, not_false_eq_true, not_true_eq_false, small_of, decide_true, decide_false, Bool.and_self, Bool.true_and, Bool.and_true, Bool.not_false, Bool.not_true, brK_t, brK_f, true_implies, false_implies, forall_const, implies_true, not_false_iff]
  refine (draw_spec h (by decide) (by decide)).imp ?_
  rintro _ θ1 ⟨w, rfl, w0, w1, h1⟩
  simp only [gv_var, varK_d, potK_p, gv_op, opK1_a, opK2_a, gv_I, gv_eqI, gv_neI, gv_neg, negK_a, gv_bool, boolK_a, gv_not, notK_a, brK_t, brK_f, brK_d, brK_n, runP_a, ansP_a, gv_and, gv_or, gv_andV, gv_orV, blK_a, gv_notV, gv_ite, gv_if, gv_nil, gv_cons, consK1_a, consK2_a, mapK_a, gv_tup, gv_lst, optK_a, gv_B, gv_chn, chnK_a, gv_last, gv_link, linkK_a, gv_isi, isi_ii, isi_bi, isi_tt, isi_ll, isi_ss, isi_ti, isi_li, isi_si, isi_tl, isi_lt, isi_it, isi_il, isi_is, isi_bs, isi_ib, isi_bb, isi_st, isi_sl, gv_seq, sqK_n, sqK_r, sqK_b, sqK_c, gv_next, gv_brk, gv_cnt, gv_retN, gv_set, setK_a, gv_par, parK_2, parK_3, gv_asg, asgK_a, asgR_s, bindT_n, bindT_2, bindT_3, gv_retS, retK_a, gv_retO, retOK_a, gv_fn, fnK_n, fnK_r, gv_enil, gv_econs, ecK1_a, ecK2_a, gv_epot, epK_a, rdK_d, rdK_o, roK_o, gv_call, cK1_a, cK2_a, gv_callO, coK1_a, coK2_a, gv_potI, potI_0, potI_1, gv_potS, potSK_a, gv_potD, potDK_a, gv_rng, gv_seqI, seqOf_l, seqOf_t, gv_for, forK_a, gv_comp, compK_a, gv_comp0, cmpR_s, cmpK2_a, cmpK1_a, gv_comp1, gv_tt1, hide_nil, hide_0, hide_d, hide_p, hide_o, wipeD_nil, wipeD_cons, gv_ok, gv_bad, gv_ret, gv_opt, gv_max2, gv_min2, gv_int, gv_ix0, gv_ix1, gv_ix2, gv_abs, pick_nil, pick_0, pick_1, pick_2, pick_3, pick_4, pick_5, gv_lenT0, gv_lenT1, gv_lenT2, gv_lenT3, gv_lenT4, gv_lenL0, gv_lenL1, gv_lenL2, gv_lenL3, gv_lenL4, gv_neS, gv_eqS, gv_rng1, gv_rng2, bnd62_of, rngL_len, big_of, gv_all2, gv_maxL2, gv_minL2, List.map_cons, List.map_nil, List.length_cons, List.length_nil, List.replicate, List.cons_append, List.nil_append, List.append_nil, List.getElem?_cons_zero, List.getElem?_cons_succ, List.set_cons_zero, List.set_cons_succ, Nat.reduceSub, Nat.reduceAdd, Nat.reduceMul, Nat.zero_add, Nat.add_zero, true_and, and_true, Int.reducePow, Int.reduceToNat, Int.reduceMul, Int.reduceAdd, Int.reduceSub, Int.reduceMod, Int.reduceNeg, Int.reduceLE, Int.reduceLT, Int.reduceEq, Nat.reduceLT, Nat.reduceLeDiff, Nat.reducePow, Int.reduceAbs, ne_eq, not_false_eq_true, not_true_eq_false, small_of, decide_true, decide_false, Bool.and_self, Bool.true_and, Bool.and_true, Bool.not_false, Bool.not_true, brK_t, brK_f, true_implies, false_implies, forall_const, implies_true, not_false_iff]
  refine ⟨fun _ => ?_, fun _ => ⟨fun _ => ?_, fun _ => ⟨fun _ => ?_, fun _ => ⟨fun _ => ?_, fun _ => ?_⟩⟩⟩⟩
  · refine (draw_spec h1 (by decide) (by decide)).imp ?_
    rintro _ θ2 ⟨i, rfl, i0, i1, h2⟩
    simp only [gv_var, varK_d, potK_p, gv_op, opK1_a, opK2_a, gv_I, gv_eqI, gv_neI, gv_neg, negK_a, gv_bool, boolK_a, gv_not, notK_a, brK_t, brK_f, brK_d, brK_n, runP_a, ansP_a, gv_and, gv_or, gv_andV, gv_orV, blK_a, gv_notV, gv_ite, gv_if, gv_nil, gv_cons, consK1_a, consK2_a, mapK_a, gv_tup, gv_lst, optK_a, gv_B, gv_chn, chnK_a, gv_last, gv_link, linkK_a, gv_isi, isi_ii, isi_bi, isi_tt, isi_ll, isi_ss, isi_ti, isi_li, isi_si, isi_tl, isi_lt, isi_it, isi_il, isi_is, isi_bs, isi_ib, isi_bb, isi_st, isi_sl, gv_seq, sqK_n, sqK_r, sqK_b, sqK_c, gv_next, gv_brk, gv_cnt, gv_retN, gv_set, setK_a, gv_par, parK_2, parK_3, gv_asg, asgK_a, asgR_s, bindT_n, bindT_2, bindT_3, gv_retS, retK_a, gv_retO, retOK_a, gv_fn, fnK_n, fnK_r, gv_enil, gv_econs, ecK1_a, ecK2_a, gv_epot, epK_a, rdK_d, rdK_o, roK_o, gv_call, cK1_a, cK2_a, gv_callO, coK1_a, coK2_a, gv_potI, potI_0, potI_1, gv_potS, potSK_a, gv_potD, potDK_a, gv_rng, gv_seqI, seqOf_l, seqOf_t, gv_for, forK_a, gv_comp, compK_a, gv_comp0, cmpR_s, cmpK2_a, cmpK1_a, gv_comp1, gv_tt1, hide_nil, hide_0, hide_d, hide_p, hide_o, wipeD_nil, wipeD_cons, gv_ok, gv_bad, gv_ret, gv_opt, gv_max2, gv_min2, gv_int, gv_ix0, gv_ix1, gv_ix2, gv_abs, pick_nil, pick_0, pick_1, pick_2, pick_3, pick_4, pick_5, gv_lenT0, gv_lenT1, gv_lenT2, gv_lenT3, gv_lenT4, gv_lenL0, gv_lenL1, gv_lenL2, gv_lenL3, gv_lenL4, gv_neS, gv_eqS, gv_rng1, gv_rng2, bnd62_of, rngL_len, big_of, gv_all2, gv_maxL2, gv_minL2, List.map_cons, List.map_nil, List.length_cons, List.length_nil, List.replicate, List.cons_append, List.nil_append, List.append_nil, List.getElem?_cons_zero, List.getElem?_cons_succ, List.set_cons_zero, List.set_cons_succ, Nat.reduceSub, Nat.reduceAdd, Nat.reduceMul, Nat.zero_add, Nat.add_zero, true_and, and_true, Int.reducePow, Int.reduceToNat, Int.reduceMul, Int.reduceAdd, Int.reduceSub, Int.reduceMod, Int.reduceNeg, Int.reduceLE, Int.reduceLT, Int.reduceEq, Nat.reduceLT, Nat.reduceLeDiff, Nat.reducePow, Int.reduceAbs, ne_eq, not_false_eq_true, not_true_eq_false, small_of, decide_true, decide_false, Bool.and_self, Bool.true_and, Bool.and_true, Bool.not_false, Bool.not_true, brK_t, brK_f, true_implies, false_implies, forall_const, implies_true, not_false_iff]
    exact ⟨i, rfl, i0, by omega, h2⟩
  · refine (draw_spec h1 (by decide) (by decide)).imp ?_
    rintro _ θ2 ⟨i, rfl, i0, i1, h2⟩
    simp only [gv_var, varK_d, potK_p, gv_op, opK1_a, opK2_a, gv_I, gv_eqI, gv_neI, gv_neg, negK_a, gv_bool, boolK_a, gv_not, notK_a, brK_t, brK_f, brK_d, brK_n, runP_a, ansP_a, gv_and, gv_or, gv_andV, gv_orV, blK_a, gv_notV, gv_ite, gv_if, gv_nil, gv_cons, consK1_a, consK2_a, mapK_a, gv_tup, gv_lst, optK_a, gv_B, gv_chn, chnK_a, gv_last, gv_link, linkK_a, gv_isi, isi_ii, isi_bi, isi_tt, isi_ll, isi_ss, isi_ti, isi_li, isi_si, isi_tl, isi_lt, isi_it, isi_il, isi_is, isi_bs, isi_ib, isi_bb, isi_st, isi_sl, gv_seq, sqK_n, sqK_r, sqK_b, sqK_c, gv_next, gv_brk, gv_cnt, gv_retN, gv_set, setK_a, gv_par, parK_2, parK_3, gv_asg, asgK_a, asgR_s, bindT_n, bindT_2, bindT_3, gv_retS, retK_a, gv_retO, retOK_a, gv_fn, fnK_n, fnK_r, gv_enil, gv_econs, ecK1_a, ecK2_a, gv_epot, epK_a, rdK_d, rdK_o, roK_o, gv_call, cK1_a, cK2_a, gv_callO, coK1_a, coK2_a, gv_potI, potI_0, potI_1, gv_potS, potSK_a, gv_potD, potDK_a, gv_rng, gv_seqI, seqOf_l, seqOf_t, gv_for, forK_a, gv_comp, compK_a, gv_comp0, cmpR_s, cmpK2_a, cmpK1_a, gv_comp1, gv_tt1, hide_nil, hide_0, hide_d, hide_p, hide_o, wipeD_nil, wipeD_cons, gv_ok, gv_bad, gv_ret, gv_opt, gv_max2, gv_min2, gv_int, gv_ix0, gv_ix1, gv_ix2, gv_abs, pick_nil, pick_0, pick_1, pick_2, pick_3, pick_4, pick_5, gv_lenT0, gv_lenT1, gv_lenT2, gv_lenT3, gv_lenT4, gv_lenL0, gv_lenL1, gv_lenL2, gv_lenL3, gv_lenL4, gv_neS, gv_eqS, gv_rng1, gv_rng2, bnd62_of, rngL_len, big_of, gv_all2, gv_maxL2, gv_minL2, List.map_cons, List.map_nil, List.length_cons, List.length_nil, List.replicate, List.cons_append, List.nil_append, List.append_nil, List.getElem?_cons_zero, List.getElem?_cons_succ, List.set_cons_zero, List.set_cons_succ, Nat.reduceSub, Nat.reduceAdd, Nat.reduceMul, Nat.zero_add, Nat.add_zero, true_and, and_true, Int.reducePow, Int.reduceToNat, Int.reduceMul, Int.reduceAdd, Int.reduceSub, Int.reduceMod, Int.reduceNeg, Int.reduceLE, Int.reduceLT, Int.reduceEq, Nat.reduceLT, Nat.reduceLeDiff, Nat.reducePow, Int.reduceAbs, ne_eq, not_false_eq_true, not_true_eq_false, small_of, decide_true, decide_false, Bool.and_self, Bool.true_and, Bool.and_true, Bool.not_false, Bool.not_true, brK_t, brK_f, true_implies, false_implies, forall_const, implies_true, not_false_iff]
    exact ⟨_, rfl, by omega, by omega, h2⟩
  · refine (draw_spec h1 (by decide) (by decide)).imp ?_
    rintro _ θ2 ⟨i, rfl, i0, i1, h2⟩
    simp only [gv_var, varK_d, potK_p, gv_op, opK1_a, opK2_a, gv_I, gv_eqI, gv_neI, gv_neg, negK_a, gv_bool, boolK_a, gv_not, notK_a, brK_t, brK_f, brK_d, brK_n, runP_a, ansP_a, gv_and, gv_or, gv_andV, gv_orV, blK_a, gv_notV, gv_ite, gv_if, gv_nil, gv_cons, consK1_a, consK2_a, mapK_a, gv_tup, gv_lst, optK_a, gv_B, gv_chn, chnK_a, gv_last, gv_link, linkK_a, gv_isi, isi_ii, isi_bi, isi_tt, isi_ll, isi_ss, isi_ti, isi_li, isi_si, isi_tl, isi_lt, isi_it, isi_il, isi_is, isi_bs, isi_ib, isi_bb, isi_st, isi_sl, gv_seq, sqK_n, sqK_r, sqK_b, sqK_c, gv_next, gv_brk, gv_cnt, gv_retN, gv_set, setK_a, gv_par, parK_2, parK_3, gv_asg, asgK_a, asgR_s, bindT_n, bindT_2, bindT_3, gv_retS, retK_a, gv_retO, retOK_a, gv_fn, fnK_n, fnK_r, gv_enil, gv_econs, ecK1_a, ecK2_a, gv_epot, epK_a, rdK_d, rdK_o, roK_o, gv_call, cK1_a, cK2_a, gv_callO, coK1_a, coK2_a, gv_potI, potI_0, potI_1, gv_potS, potSK_a, gv_potD, potDK_a, gv_rng, gv_seqI, seqOf_l, seqOf_t, gv_for, forK_a, gv_comp, compK_a, gv_comp0, cmpR_s, cmpK2_a, cmpK1_a, gv_comp1, gv_tt1, hide_nil, hide_0, hide_d, hide_p, hide_o, wipeD_nil, wipeD_cons, gv_ok, gv_bad, gv_ret, gv_opt, gv_max2, gv_min2, gv_int, gv_ix0, gv_ix1, gv_ix2, gv_abs, pick_nil, pick_0, pick_1, pick_2, pick_3, pick_4, pick_5, gv_lenT0, gv_lenT1, gv_lenT2, gv_lenT3, gv_lenT4, gv_lenL0, gv_lenL1, gv_lenL2, gv_lenL3, gv_lenL4, gv_neS, gv_eqS, gv_rng1, gv_rng2, bnd62_of, rngL_len, big_of, gv_all2, gv_maxL2, gv_minL2, List.map_cons, List.map_nil, List.length_cons, List.length_nil, List.replicate, List.cons_append, List.nil_append, List.append_nil, List.getElem?_cons_zero, List.getElem?_cons_succ, List.set_cons_zero, List.set_cons_succ, Nat.reduceSub, Nat.reduceAdd, Nat.reduceMul, Nat.zero_add, Nat.add_zero, true_and, and_true, Int.reducePow, Int.reduceToNat, Int.reduceMul, Int.reduceAdd, Int.reduceSub, Int.reduceMod, Int.reduceNeg, Int.reduceLE, Int.reduceLT, Int.reduceEq, Nat.reduceLT, Nat.reduceLeDiff, Nat.reducePow, Int.reduceAbs, ne_eq, not_false_eq_true, not_true_eq_false, small_of, decide_true, decide_false, Bool.and_self, Bool.true_and, Bool.and_true, Bool.not_false, Bool.not_true, brK_t, brK_f, true_implies, false_implies, forall_const, implies_true, not_false_iff]
    have b1 := mul_lt (a := 1 + i) (b := 1 + i) (A := 1073741824) (B := 1073741824) (by omega) (by omega) (by omega) (by omega)
    refine ⟨small_of (by omega) (by omega), small_of (by omega) (by omega), ?_⟩
    refine (draw_spec h2 (by decide) (by decide)).imp ?_
    rintro _ θ3 ⟨j, rfl, j0, j1, h3⟩
    simp only [gv_var, varK_d, potK_p, gv_op, opK1_a, opK2_a, gv_I, gv_eqI, gv_neI, gv_neg, negK_a, gv_bool, boolK_a, gv_not, notK_a, brK_t, brK_f, brK_d, brK_n, runP_a, ansP_a, gv_and, gv_or, gv_andV, gv_orV, blK_a, gv_notV, gv_ite, gv_if, gv_nil, gv_cons, consK1_a, consK2_a, mapK_a, gv_tup, gv_lst, optK_a, gv_B, gv_chn, chnK_a, gv_last, gv_link, linkK_a, gv_isi, isi_ii, isi_bi, isi_tt, isi_ll, isi_ss, isi_ti, isi_li, isi_si, isi_tl, isi_lt, isi_it, isi_il, isi_is, isi_bs, isi_ib, isi_bb, isi_st, isi_sl, gv_seq, sqK_n, sqK_r, sqK_b, sqK_c, gv_next, gv_brk, gv_cnt, gv_retN, gv_set, setK_a, gv_par, parK_2, parK_3, gv_asg, asgK_a, asgR_s, bindT_n, bindT_2, bindT_3, gv_retS, retK_a, gv_retO, retOK_a, gv_fn, fnK_n, fnK_r, gv_enil, gv_econs, ecK1_a, ecK2_a, gv_epot, epK_a, rdK_d, rdK_o, roK_o, gv_call, cK1_a, cK2_a, gv_callO, coK1_a, coK2_a, gv_potI, potI_0, potI_1, gv_potS, potSK_a, gv_potD, potDK_a, gv_rng, gv_seqI, seqOf_l, seqOf_t, gv_for, forK_a, gv_comp, compK_a, gv_comp0, cmpR_s, cmpK2_a, cmpK1_a, gv_comp1, gv_tt1, hide_nil, hide_0, hide_d, hide_p, hide_o, wipeD_nil, wipeD_cons, gv_ok, gv_bad, gv_ret, gv_opt, gv_max2, gv_min2, gv_int, gv_ix0, gv_ix1, gv_ix2, gv_abs, pick_nil, pick_0, pick_1, pick_2, pick_3, pick_4, pick_5, gv_lenT0, gv_lenT1, gv_lenT2, gv_lenT3, gv_lenT4, gv_lenL0, gv_lenL1, gv_lenL2, gv_lenL3, gv_lenL4, gv_neS, gv_eqS, gv_rng1, gv_rng2, bnd62_of, rngL_len, big_of, gv_all2, gv_maxL2, gv_minL2, List.map_cons, List.map_nil, List.length_cons, List.length_nil, List.replicate, List.cons_append, List.nil_append, List.append_nil, List.getElem?_cons_zero, List.getElem?_cons_succ, List.set_cons_zero, List.set_cons_succ, Nat.reduceSub, Nat.reduceAdd, Nat.reduceMul, Nat.zero_add, Nat.add_zero, true_and, and_true, Int.reducePow, Int.reduceToNat, Int.reduceMul, Int.reduceAdd, Int.reduceSub, Int.reduceMod, Int.reduceNeg, Int.reduceLE, Int.reduceLT, Int.reduceEq, Nat.reduceLT, Nat.reduceLeDiff, Nat.reducePow, Int.reduceAbs, ne_eq, not_false_eq_true, not_true_eq_false, small_of, decide_true, decide_false, Bool.and_self, Bool.true_and, Bool.and_true, Bool.not_false, Bool.not_true, brK_t, brK_f, true_implies, false_implies, forall_const, implies_true, not_false_iff]
    rw [fd_pos (by decide)]
    refine ⟨_, rfl, ?_, ?_, h3⟩
    · split <;> omega
    · split <;> omega
  · refine (draw_spec h1 (by decide) (by decide)).imp ?_
    rintro _ θ2 ⟨i, rfl, i0, i1, h2⟩
    simp only [gv_var, varK_d, potK_p, gv_op, opK1_a, opK2_a, gv_I, gv_eqI, gv_neI, gv_neg, negK_a, gv_bool, boolK_a, gv_not, notK_a, brK_t, brK_f, brK_d, brK_n, runP_a, ansP_a, gv_and, gv_or, gv_andV, gv_orV, blK_a, gv_notV, gv_ite, gv_if, gv_nil, gv_cons, consK1_a, consK2_a, mapK_a, gv_tup, gv_lst, optK_a, gv_B, gv_chn, chnK_a, gv_last, gv_link, linkK_a, gv_isi, isi_ii, isi_bi, isi_tt, isi_ll, isi_ss, isi_ti, isi_li, isi_si, isi_tl, isi_lt, isi_it, isi_il, isi_is, isi_bs, isi_ib, isi_bb, isi_st, isi_sl, gv_seq, sqK_n, sqK_r, sqK_b, sqK_c, gv_next, gv_brk, gv_cnt, gv_retN, gv_set, setK_a, gv_par, parK_2, parK_3, gv_asg, asgK_a, asgR_s, bindT_n, bindT_2, bindT_3, gv_retS, retK_a, gv_retO, retOK_a, gv_fn, fnK_n, fnK_r, gv_enil, gv_econs, ecK1_a, ecK2_a, gv_epot, epK_a, rdK_d, rdK_o, roK_o, gv_call, cK1_a, cK2_a, gv_callO, coK1_a, coK2_a, gv_potI, potI_0, potI_1, gv_potS, potSK_a, gv_potD, potDK_a, gv_rng, gv_seqI, seqOf_l, seqOf_t, gv_for, forK_a, gv_comp, compK_a, gv_comp0, cmpR_s, cmpK2_a, cmpK1_a, gv_comp1, gv_tt1, hide_nil, hide_0, hide_d, hide_p, hide_o, wipeD_nil, wipeD_cons, gv_ok, gv_bad, gv_ret, gv_opt, gv_max2, gv_min2, gv_int, gv_ix0, gv_ix1, gv_ix2, gv_abs, pick_nil, pick_0, pick_1, pick_2, pick_3, pick_4, pick_5, gv_lenT0, gv_lenT1, gv_lenT2, gv_lenT3, gv_lenT4, gv_lenL0, gv_lenL1, gv_lenL2, gv_lenL3, gv_lenL4, gv_neS, gv_eqS, gv_rng1, gv_rng2, bnd62_of, rngL_len, big_of, gv_all2, gv_maxL2, gv_minL2, List.map_cons, List.map_nil, List.length_cons, List.length_nil, List.replicate, List.cons_append, List.nil_append, List.append_nil, List.getElem?_cons_zero, List.getElem?_cons_succ, List.set_cons_zero, List.set_cons_succ, Nat.reduceSub, Nat.reduceAdd, Nat.reduceMul, Nat.zero_add, Nat.add_zero, true_and, and_true, Int.reducePow, Int.reduceToNat, Int.reduceMul, Int.reduceAdd, Int.reduceSub, Int.reduceMod, Int.reduceNeg, Int.reduceLE, Int.reduceLT, Int.reduceEq, Nat.reduceLT, Nat.reduceLeDiff, Nat.reducePow, Int.reduceAbs, ne_eq, not_false_eq_true, not_true_eq_false, small_of, decide_true, decide_false, Bool.and_self, Bool.true_and, Bool.and_true, Bool.not_false, Bool.not_true, brK_t, brK_f, true_implies, false_implies, forall_const, implies_true, not_false_iff]
    have b1 := mul_lt (a := i) (b := i) (A := 1048576) (B := 1048576) (by omega) (by omega) (by omega) (by omega)
    have b2 : i ^ 2 = i * i := by rw [Int.pow_succ, Int.pow_succ, Int.pow_zero, Int.one_mul]
    rw [b2]
    exact ⟨decide_eq_true (by omega), small_of (by omega) (by omega), _, rfl, by omega, by omega, h2⟩
  · refine (draw_spec h1 (by decide) (by decide)).imp ?_
    rintro _ θ2 ⟨i, rfl, i0, i1, h2⟩
    simp only [gv_var, varK_d, potK_p, gv_op, opK1_a, opK2_a, gv_I, gv_eqI, gv_neI, gv_neg, negK_a, gv_bool, boolK_a, gv_not, notK_a, brK_t, brK_f, brK_d, brK_n, runP_a, ansP_a, gv_and, gv_or, gv_andV, gv_orV, blK_a, gv_notV, gv_ite, gv_if, gv_nil, gv_cons, consK1_a, consK2_a, mapK_a, gv_tup, gv_lst, optK_a, gv_B, gv_chn, chnK_a, gv_last, gv_link, linkK_a, gv_isi, isi_ii, isi_bi, isi_tt, isi_ll, isi_ss, isi_ti, isi_li, isi_si, isi_tl, isi_lt, isi_it, isi_il, isi_is, isi_bs, isi_ib, isi_bb, isi_st, isi_sl, gv_seq, sqK_n, sqK_r, sqK_b, sqK_c, gv_next, gv_brk, gv_cnt, gv_retN, gv_set, setK_a, gv_par, parK_2, parK_3, gv_asg, asgK_a, asgR_s, bindT_n, bindT_2, bindT_3, gv_retS, retK_a, gv_retO, retOK_a, gv_fn, fnK_n, fnK_r, gv_enil, gv_econs, ecK1_a, ecK2_a, gv_epot, epK_a, rdK_d, rdK_o, roK_o, gv_call, cK1_a, cK2_a, gv_callO, coK1_a, coK2_a, gv_potI, potI_0, potI_1, gv_potS, potSK_a, gv_potD, potDK_a, gv_rng, gv_seqI, seqOf_l, seqOf_t, gv_for, forK_a, gv_comp, compK_a, gv_comp0, cmpR_s, cmpK2_a, cmpK1_a, gv_comp1, gv_tt1, hide_nil, hide_0, hide_d, hide_p, hide_o, wipeD_nil, wipeD_cons, gv_ok, gv_bad, gv_ret, gv_opt, gv_max2, gv_min2, gv_int, gv_ix0, gv_ix1, gv_ix2, gv_abs, pick_nil, pick_0, pick_1, pick_2, pick_3, pick_4, pick_5, gv_lenT0, gv_lenT1, gv_lenT2, gv_lenT3, gv_lenT4, gv_lenL0, gv_lenL1, gv_lenL2, gv_lenL3, gv_lenL4, gv_neS, gv_eqS, gv_rng1, gv_rng2, bnd62_of, rngL_len, big_of, gv_all2, gv_maxL2, gv_minL2, List.map_cons, List.map_nil, List.length_cons, List.length_nil, List.replicate, List.cons_append, List.nil_append, List.append_nil, List.getElem?_cons_zero, List.getElem?_cons_succ, List.set_cons_zero, List.set_cons_succ, Nat.reduceSub, Nat.reduceAdd, Nat.reduceMul, Nat.zero_add, Nat.add_zero, true_and, and_true, Int.reducePow, Int.reduceToNat, Int.reduceMul, Int.reduceAdd, Int.reduceSub, Int.reduceMod, Int.reduceNeg, Int.reduceLE, Int.reduceLT, Int.reduceEq, Nat.reduceLT, Nat.reduceLeDiff, Nat.reducePow, Int.reduceAbs, ne_eq, not_false_eq_true, not_true_eq_false, small_of, decide_true, decide_false, Bool.and_self, Bool.true_and, Bool.and_true, Bool.not_false, Bool.not_true, brK_t, brK_f, true_implies, false_implies, forall_const, implies_true, not_false_iff]
    refine (draw_spec h2 (by decide) (by decide)).imp ?_
    rintro _ θ3 ⟨j, rfl, j0, j1, h3⟩
    simp only [gv_var, varK_d, potK_p, gv_op, opK1_a, opK2_a, gv_I, gv_eqI, gv_neI, gv_neg, negK_a, gv_bool, boolK_a, gv_not, notK_a, brK_t, brK_f, brK_d, brK_n, runP_a, ansP_a, gv_and, gv_or, gv_andV, gv_orV, blK_a, gv_notV, gv_ite, gv_if, gv_nil, gv_cons, consK1_a, consK2_a, mapK_a, gv_tup, gv_lst, optK_a, gv_B, gv_chn, chnK_a, gv_last, gv_link, linkK_a, gv_isi, isi_ii, isi_bi, isi_tt, isi_ll, isi_ss, isi_ti, isi_li, isi_si, isi_tl, isi_lt, isi_it, isi_il, isi_is, isi_bs, isi_ib, isi_bb, isi_st, isi_sl, gv_seq, sqK_n, sqK_r, sqK_b, sqK_c, gv_next, gv_brk, gv_cnt, gv_retN, gv_set, setK_a, gv_par, parK_2, parK_3, gv_asg, asgK_a, asgR_s, bindT_n, bindT_2, bindT_3, gv_retS, retK_a, gv_retO, retOK_a, gv_fn, fnK_n, fnK_r, gv_enil, gv_econs, ecK1_a, ecK2_a, gv_epot, epK_a, rdK_d, rdK_o, roK_o, gv_call, cK1_a, cK2_a, gv_callO, coK1_a, coK2_a, gv_potI, potI_0, potI_1, gv_potS, potSK_a, gv_potD, potDK_a, gv_rng, gv_seqI, seqOf_l, seqOf_t, gv_for, forK_a, gv_comp, compK_a, gv_comp0, cmpR_s, cmpK2_a, cmpK1_a, gv_comp1, gv_tt1, hide_nil, hide_0, hide_d, hide_p, hide_o, wipeD_nil, wipeD_cons, gv_ok, gv_bad, gv_ret, gv_opt, gv_max2, gv_min2, gv_int, gv_ix0, gv_ix1, gv_ix2, gv_abs, pick_nil, pick_0, pick_1, pick_2, pick_3, pick_4, pick_5, gv_lenT0, gv_lenT1, gv_lenT2, gv_lenT3, gv_lenT4, gv_lenL0, gv_lenL1, gv_lenL2, gv_lenL3, gv_lenL4, gv_neS, gv_eqS, gv_rng1, gv_rng2, bnd62_of, rngL_len, big_of, gv_all2, gv_maxL2, gv_minL2, List.map_cons, List.map_nil, List.length_cons, List.length_nil, List.replicate, List.cons_append, List.nil_append, List.append_nil, List.getElem?_cons_zero, List.getElem?_cons_succ, List.set_cons_zero, List.set_cons_succ, Nat.reduceSub, Nat.reduceAdd, Nat.reduceMul, Nat.zero_add, Nat.add_zero, true_and, and_true, Int.reducePow, Int.reduceToNat, Int.reduceMul, Int.reduceAdd, Int.reduceSub, Int.reduceMod, Int.reduceNeg, Int.reduceLE, Int.reduceLT, Int.reduceEq, Nat.reduceLT, Nat.reduceLeDiff, Nat.reducePow, Int.reduceAbs, ne_eq, not_false_eq_true, not_true_eq_false, small_of, decide_true, decide_false, Bool.and_self, Bool.true_and, Bool.and_true, Bool.not_false, Bool.not_true, brK_t, brK_f, true_implies, false_implies, forall_const, implies_true, not_false_iff]
    refine ⟨bnd62_of (by omega) (by omega), ?_⟩
    refine gv_for_inv (fun l ρ θ => ∃ v t, ρ = [some .pot, some (.dat (.int w)), none, some (.dat (.int v)), t] ∧ 0 ≤ v ∧ v * 2 ^ l.length ≤ 1152921504606846976 ∧ PotOk θ) ?_ ?_ _ _ _ ⟨i, none, rfl, i0, ?_, h3⟩
    · rintro ρ θ4 ⟨v, t, rfl, v0, v1, h4⟩
      simp only [gv_var, varK_d, potK_p, gv_op, opK1_a, opK2_a, gv_I, gv_eqI, gv_neI, gv_neg, negK_a, gv_bool, boolK_a, gv_not, notK_a, brK_t, brK_f, brK_d, brK_n, runP_a, ansP_a, gv_and, gv_or, gv_andV, gv_orV, blK_a, gv_notV, gv_ite, gv_if, gv_nil, gv_cons, consK1_a, consK2_a, mapK_a, gv_tup, gv_lst, optK_a, gv_B, gv_chn, chnK_a, gv_last, gv_link, linkK_a, gv_isi, isi_ii, isi_bi, isi_tt, isi_ll, isi_ss, isi_ti, isi_li, isi_si, isi_tl, isi_lt, isi_it, isi_il, isi_is, isi_bs, isi_ib, isi_bb, isi_st, isi_sl, gv_seq, sqK_n, sqK_r, sqK_b, sqK_c, gv_next, gv_brk, gv_cnt, gv_retN, gv_set, setK_a, gv_par, parK_2, parK_3, gv_asg, asgK_a, asgR_s, bindT_n, bindT_2, bindT_3, gv_retS, retK_a, gv_retO, retOK_a, gv_fn, fnK_n, fnK_r, gv_enil, gv_econs, ecK1_a, ecK2_a, gv_epot, epK_a, rdK_d, rdK_o, roK_o, gv_call, cK1_a, cK2_a, gv_callO, coK1_a, coK2_a, gv_potI, potI_0, potI_1, gv_potS, potSK_a, gv_potD, potDK_a, gv_rng, gv_seqI, seqOf_l, seqOf_t, gv_for, forK_a, gv_comp, compK_a, gv_comp0, cmpR_s, cmpK2_a, cmpK1_a, gv_comp1, gv_tt1, hide_nil, hide_0, hide_d, hide_p, hide_o, wipeD_nil, wipeD_cons, gv_ok, gv_bad, gv_ret, gv_opt, gv_max2, gv_min2, gv_int, gv_ix0, gv_ix1, gv_ix2, gv_abs, pick_nil, pick_0, pick_1, pick_2, pick_3, pick_4, pick_5, gv_lenT0, gv_lenT1, gv_lenT2, gv_lenT3, gv_lenT4, gv_lenL0, gv_lenL1, gv_lenL2, gv_lenL3, gv_lenL4, gv_neS, gv_eqS, gv_rng1, gv_rng2, bnd62_of, rngL_len, big_of, gv_all2, gv_maxL2, gv_minL2, List.map_cons, List.map_nil, List.length_cons, List.length_nil, List.replicate, List.cons_append, List.nil_append, List.append_nil, List.getElem?_cons_zero, List.getElem?_cons_succ, List.set_cons_zero, List.set_cons_succ, Nat.reduceSub, Nat.reduceAdd, Nat.reduceMul, Nat.zero_add, Nat.add_zero, true_and, and_true, Int.reducePow, Int.reduceToNat, Int.reduceMul, Int.reduceAdd, Int.reduceSub, Int.reduceMod, Int.reduceNeg, Int.reduceLE, Int.reduceLT, Int.reduceEq, Nat.reduceLT, Nat.reduceLeDiff, Nat.reducePow, Int.reduceAbs, ne_eq, not_false_eq_true, not_true_eq_false, small_of, decide_true, decide_false, Bool.and_self, Bool.true_and, Bool.and_true, Bool.not_false, Bool.not_true, brK_t, brK_f, true_implies, false_implies, forall_const, implies_true, not_false_iff]
      rw [List.length_nil, Int.pow_zero, Int.mul_one] at v1
      exact ⟨_, rfl, v0, by omega, h4⟩
    · rintro d ds ρ θ4 ⟨v, t, rfl, v0, v1, h4⟩
      have p0 : 0 < (2 : Int) ^ ds.length := Int.pow_pos (by decide)
      rw [List.length_cons, Int.pow_succ] at v1
      have v2 : 2 * v * 2 ^ ds.length ≤ 1152921504606846976 := by
        have e : 2 * v * 2 ^ ds.length = v * (2 ^ ds.length * 2) := by rw [Int.mul_comm 2 v, Int.mul_assoc, Int.mul_comm 2 (2 ^ ds.length)]
        rw [e]
        exact v1
      have v3 : 2 * v ≤ 2 * v * 2 ^ ds.length := by
        have := Int.mul_le_mul_of_nonneg_left (show (1 : Int) ≤ 2 ^ ds.length by omega) (show 0 ≤ 2 * v by omega)
        rw [Int.mul_one] at this
        exact this
      refine ⟨_, rfl, ?_⟩
      simp only [gv_var, varK_d, potK_p, gv_op, opK1_a, opK2_a, gv_I, gv_eqI, gv_neI, gv_neg, negK_a, gv_bool, boolK_a, gv_not, notK_a, brK_t, brK_f, brK_d, brK_n, runP_a, ansP_a, gv_and, gv_or, gv_andV, gv_orV, blK_a, gv_notV, gv_ite, gv_if, gv_nil, gv_cons, consK1_a, consK2_a, mapK_a, gv_tup, gv_lst, optK_a, gv_B, gv_chn, chnK_a, gv_last, gv_link, linkK_a, gv_isi, isi_ii, isi_bi, isi_tt, isi_ll, isi_ss, isi_ti, isi_li, isi_si, isi_tl, isi_lt, isi_it, isi_il, isi_is, isi_bs, isi_ib, isi_bb, isi_st, isi_sl, gv_seq, sqK_n, sqK_r, sqK_b, sqK_c, gv_next, gv_brk, gv_cnt, gv_retN, gv_set, setK_a, gv_par, parK_2, parK_3, gv_asg, asgK_a, asgR_s, bindT_n, bindT_2, bindT_3, gv_retS, retK_a, gv_retO, retOK_a, gv_fn, fnK_n, fnK_r, gv_enil, gv_econs, ecK1_a, ecK2_a, gv_epot, epK_a, rdK_d, rdK_o, roK_o, gv_call, cK1_a, cK2_a, gv_callO, coK1_a, coK2_a, gv_potI, potI_0, potI_1, gv_potS, potSK_a, gv_potD, potDK_a, gv_rng, gv_seqI, seqOf_l, seqOf_t, gv_for, forK_a, gv_comp, compK_a, gv_comp0, cmpR_s, cmpK2_a, cmpK1_a, gv_comp1, gv_tt1, hide_nil, hide_0, hide_d, hide_p, hide_o, wipeD_nil, wipeD_cons, gv_ok, gv_bad, gv_ret, gv_opt, gv_max2, gv_min2, gv_int, gv_ix0, gv_ix1, gv_ix2, gv_abs, pick_nil, pick_0, pick_1, pick_2, pick_3, pick_4, pick_5, gv_lenT0, gv_lenT1, gv_lenT2, gv_lenT3, gv_lenT4, gv_lenL0, gv_lenL1, gv_lenL2, gv_lenL3, gv_lenL4, gv_neS, gv_eqS, gv_rng1, gv_rng2, bnd62_of, rngL_len, big_of, gv_all2, gv_maxL2, gv_minL2, List.map_cons, List.map_nil, List.length_cons, List.length_nil, List.replicate, List.cons_append, List.nil_append, List.append_nil, List.getElem?_cons_zero, List.getElem?_cons_succ, List.set_cons_zero, List.set_cons_succ, Nat.reduceSub, Nat.reduceAdd, Nat.reduceMul, Nat.zero_add, Nat.add_zero, true_and, and_true, Int.reducePow, Int.reduceToNat, Int.reduceMul, Int.reduceAdd, Int.reduceSub, Int.reduceMod, Int.reduceNeg, Int.reduceLE, Int.reduceLT, Int.reduceEq, Nat.reduceLT, Nat.reduceLeDiff, Nat.reducePow, Int.reduceAbs, ne_eq, not_false_eq_true, not_true_eq_false, small_of, decide_true, decide_false, Bool.and_self, Bool.true_and, Bool.and_true, Bool.not_false, Bool.not_true, brK_t, brK_f, true_implies, false_implies, forall_const, implies_true, not_false_iff]
      exact ⟨small_of (by omega) (by omega), 2 * v, some (.dat d), rfl, by omega, v2, h4⟩
    · rw [rngL_len]
      have e1 : (2 : Int) ^ j.toNat ≤ 2 ^ 30 := by
        have := Nat.pow_le_pow_right (show 0 < 2 by decide) (show j.toNat ≤ 30 by omega)
        exact_mod_cast this
      have e2 : (2 : Int) ^ 30 = 1073741824 := by decide
      have e3 : 0 < (2 : Int) ^ j.toNat := Int.pow_pos (by decide)
      rw [e2] at e1
      have := mul_lt (a := i) (b := 2 ^ j.toNat) (A := 1073741824) (B := 1073741824) i0 (by omega) (by omega) e1
      omega
theorem interval_spec {θ : Pot} (h : PotOk θ) : Gv (m__law_interval [.pot] θ) fun r θ' => ∃ a b, r = .d (.tup [.int a, .int b]) ∧ 0 ≤ a ∧ a ≤ b ∧ b ≤ 1180591620717411302400 ∧ PotOk θ' := by
  unfold m__law_interval r__law_interval
  simp only [gv_var, varK_d, potK_p, gv_op, opK1_a, opK2_a, gv_I, gv_eqI, gv_neI, gv_neg, negK_a, gv_bool, boolK_a, gv_not, notK_a, brK_t, brK_f, brK_d, brK_n, runP_a, ansP_a, gv_and, gv_or, gv_andV, gv_orV, blK_a, gv_notV, gv_ite, gv_if, gv_nil, gv_cons, consK1_a, consK2_a, mapK_a, gv_tup, gv_lst, optK_a, gv_B, gv_chn, chnK_a, gv_last, gv_link, linkK_a, gv_isi, isi_ii, isi_bi, isi_tt, isi_ll, isi_ss, isi_ti, isi_li, isi_si, isi_tl, isi_lt, isi_it, isi_il, isi_is, isi_bs, isi_ib, isi_bb, isi_st, isi_sl, gv_seq, sqK_n, sqK_r, sqK_b, sqK_c, gv_next, gv_brk, gv_cnt, gv_retN, gv_set, setK_a, gv_par, parK_2, parK_3, gv_asg, asgK_a, asgR_s, bindT_n, bindT_2, bindT_3, gv_retS, retK_a, gv_retO, retOK_a, gv_fn, fnK_n, fnK_r, gv_enil, gv_econs, ecK1_a, ecK2_a, gv_epot, epK_a, rdK_d, rdK_o, roK_o, gv_call, cK1_a, cK2_a, gv_callO, coK1_a, coK2_a, gv_potI, potI_0, potI_1, gv_potS, potSK_a, gv_potD, potDK_a, gv_rng, gv_seqI, seqOf_l, seqOf_t, gv_for, forK_a, gv_comp, compK_a, gv_comp0, cmpR_s, cmpK2_a, cmpK1_a, gv_comp1, gv_tt1, hide_nil, hide_0, hide_d, hide_p, hide_o, wipeD_nil, wipeD_cons, gv_ok, gv_bad, gv_ret, gv_opt, gv_max2, gv_min2, gv_int, gv_ix0, gv_ix1, gv_ix2, gv_abs, pick_nil, pick_0, pick_1, pick_2, pick_3, pick_4, pick_5, gv_lenT0, gv_lenT1, gv_lenT2, gv_lenT3, gv_lenT4, gv_lenL0, gv_lenL1, gv_lenL2, gv_lenL3, gv_lenL4, gv_neS, gv_eqS, gv_rng1, gv_rng2, bnd62_of, rngL_len, big_of, gv_all2, gv_maxL2, gv_minL2, List.map_cons, List.map_nil, List.length_cons, List.length_nil, List.replicate, List.cons_append, List.nil_append, List.append_nil, List.getElem?_cons_zero, List.getElem?_cons_succ, List.set_cons_zero, List.set_cons_succ, Nat.reduceSub, Nat.reduceAdd, Nat.reduceMul, Nat.zero_add, Nat.add_zero, true_and, and_true, Int.reducePow, Int.reduceToNat, Int.reduceMul, Int.reduceAdd, Int.reduceSub, Int.reduceMod, Int.reduceNeg, Int.reduceLE, Int.reduceLT, Int.reduceEq, Nat.reduceLT, Nat.reduceLeDiff, Nat.reducePow, Int.reduceAbs, ne_eq, not_false_eq_true, not_true_eq_false, small_of, decide_true, decide_false, Bool.and_self, Bool.true_and, Bool.and_true, Bool.not_false, Bool.not_true, brK_t, brK_f, true_implies, false_implies, forall_const, implies_true, not_false_iff]
  refine (number_spec h).imp ?_
  rintro _ θ1 ⟨x, rfl, x0, x1, h1⟩
  simp only [gv_var, varK_d, potK_p, gv_op, opK1_a, opK2_a, gv_I, gv_eqI, gv_neI, gv_neg, negK_a, gv_bool, boolK_a, gv_not, notK_a, brK_t, brK_f, brK_d, brK_n, runP_a, ansP_a, gv_and, gv_or, gv_andV, gv_orV, blK_a, gv_notV, gv_ite, gv_if, gv_nil, gv_cons, consK1_a, consK2_a, mapK_a, gv_tup, gv_lst, optK_a, gv_B, gv_chn, chnK_a, gv_last, gv_link, linkK_a, gv_isi, isi_ii, isi_bi, isi_tt, isi_ll, isi_ss, isi_ti, isi_li, isi_si, isi_tl, isi_lt, isi_it, isi_il, isi_is, isi_bs, isi_ib, isi_bb, isi_st, isi_sl, gv_seq, sqK_n, sqK_r, sqK_b, sqK_c, gv_next, gv_brk, gv_cnt, gv_retN, gv_set, setK_a, gv_par, parK_2, parK_3, gv_asg, asgK_a, asgR_s, bindT_n, bindT_2, bindT_3, gv_retS, retK_a, gv_retO, retOK_a, gv_fn, fnK_n, fnK_r, gv_enil, gv_econs, ecK1_a, ecK2_a, gv_epot, epK_a, rdK_d, rdK_o, roK_o, gv_call, cK1_a, cK2_a, gv_callO, coK1_a, coK2_a, gv_potI, potI_0, potI_1, gv_potS, potSK_a, gv_potD, potDK_a, gv_rng, gv_seqI, seqOf_l, seqOf_t, gv_for, forK_a, gv_comp, compK_a, gv_comp0, cmpR_s, cmpK2_a, cmpK1_a, gv_comp1, gv_tt1, hide_nil, hide_0, hide_d, hide_p, hide_o, wipeD_nil, wipeD_cons, gv_ok, gv_bad, gv_ret, gv_opt, gv_max2, gv_min2, gv_int, gv_ix0, gv_ix1, gv_ix2, gv_abs, pick_nil, pick_0, pick_1, pick_2, pick_3, pick_4, pick_5, gv_lenT0, gv_lenT1, gv_lenT2, gv_lenT3, gv_lenT4, gv_lenL0, gv_lenL1, gv_lenL2, gv_lenL3, gv_lenL4, gv_neS, gv_eqS, gv_rng1, gv_rng2, bnd62_of, rngL_len, big_of, gv_all2, gv_maxL2, gv_minL2, List.map_cons, List.map_nil, List.length_cons, List.length_nil, List.replicate, List.cons_append, List.nil_append, List.append_nil, List.getElem?_cons_zero, List.getElem?_cons_succ, List.set_cons_zero, List.set_cons_succ, Nat.reduceSub, Nat.reduceAdd, Nat.reduceMul, Nat.zero_add, Nat.add_zero, true_and, and_true, Int.reducePow, Int.reduceToNat, Int.reduceMul, Int.reduceAdd, Int.reduceSub, Int.reduceMod, Int.reduceNeg, Int.reduceLE, Int.reduceLT, Int.reduceEq, Nat.reduceLT, Nat.reduceLeDiff, Nat.reducePow, Int.reduceAbs, ne_eq, not_false_eq_true, not_true_eq_false, small_of, decide_true, decide_false, Bool.and_self, Bool.true_and, Bool.and_true, Bool.not_false, Bool.not_true, brK_t, brK_f, true_implies, false_implies, forall_const, implies_true, not_false_iff]
  refine (number_spec h1).imp ?_
  rintro _ θ2 ⟨y, rfl, y0, y1, h2⟩
  simp only [gv_var, varK_d, potK_p, gv_op, opK1_a, opK2_a, gv_I, gv_eqI, gv_neI, gv_neg, negK_a, gv_bool, boolK_a, gv_not, notK_a, brK_t, brK_f, brK_d, brK_n, runP_a, ansP_a, gv_and, gv_or, gv_andV, gv_orV, blK_a, gv_notV, gv_ite, gv_if, gv_nil, gv_cons, consK1_a, consK2_a, mapK_a, gv_tup, gv_lst, optK_a, gv_B, gv_chn, chnK_a, gv_last, gv_link, linkK_a, gv_isi, isi_ii, isi_bi, isi_tt, isi_ll, isi_ss, isi_ti, isi_li, isi_si, isi_tl, isi_lt, isi_it, isi_il, isi_is, isi_bs, isi_ib, isi_bb, isi_st, isi_sl, gv_seq, sqK_n, sqK_r, sqK_b, sqK_c, gv_next, gv_brk, gv_cnt, gv_retN, gv_set, setK_a, gv_par, parK_2, parK_3, gv_asg, asgK_a, asgR_s, bindT_n, bindT_2, bindT_3, gv_retS, retK_a, gv_retO, retOK_a, gv_fn, fnK_n, fnK_r, gv_enil, gv_econs, ecK1_a, ecK2_a, gv_epot, epK_a, rdK_d, rdK_o, roK_o, gv_call, cK1_a, cK2_a, gv_callO, coK1_a, coK2_a, gv_potI, potI_0, potI_1, gv_potS, potSK_a, gv_potD, potDK_a, gv_rng, gv_seqI, seqOf_l, seqOf_t, gv_for, forK_a, gv_comp, compK_a, gv_comp0, cmpR_s, cmpK2_a, cmpK1_a, gv_comp1, gv_tt1, hide_nil, hide_0, hide_d, hide_p, hide_o, wipeD_nil, wipeD_cons, gv_ok, gv_bad, gv_ret, gv_opt, gv_max2, gv_min2, gv_int, gv_ix0, gv_ix1, gv_ix2, gv_abs, pick_nil, pick_0, pick_1, pick_2, pick_3, pick_4, pick_5, gv_lenT0, gv_lenT1, gv_lenT2, gv_lenT3, gv_lenT4, gv_lenL0, gv_lenL1, gv_lenL2, gv_lenL3, gv_lenL4, gv_neS, gv_eqS, gv_rng1, gv_rng2, bnd62_of, rngL_len, big_of, gv_all2, gv_maxL2, gv_minL2, List.map_cons, List.map_nil, List.length_cons, List.length_nil, List.replicate, List.cons_append, List.nil_append, List.append_nil, List.getElem?_cons_zero, List.getElem?_cons_succ, List.set_cons_zero, List.set_cons_succ, Nat.reduceSub, Nat.reduceAdd, Nat.reduceMul, Nat.zero_add, Nat.add_zero, true_and, and_true, Int.reducePow, Int.reduceToNat, Int.reduceMul, Int.reduceAdd, Int.reduceSub, Int.reduceMod, Int.reduceNeg, Int.reduceLE, Int.reduceLT, Int.reduceEq, Nat.reduceLT, Nat.reduceLeDiff, Nat.reducePow, Int.reduceAbs, ne_eq, not_false_eq_true, not_true_eq_false, small_of, decide_true, decide_false, Bool.and_self, Bool.true_and, Bool.and_true, Bool.not_false, Bool.not_true, brK_t, brK_f, true_implies, false_implies, forall_const, implies_true, not_false_iff]
  refine (draw_spec h2 (by decide) (by decide)).imp ?_
  rintro _ θ3 ⟨i, rfl, i0, i1, h3⟩
  simp only [gv_var, varK_d, potK_p, gv_op, opK1_a, opK2_a, gv_I, gv_eqI, gv_neI, gv_neg, negK_a, gv_bool, boolK_a, gv_not, notK_a, brK_t, brK_f, brK_d, brK_n, runP_a, ansP_a, gv_and, gv_or, gv_andV, gv_orV, blK_a, gv_notV, gv_ite, gv_if, gv_nil, gv_cons, consK1_a, consK2_a, mapK_a, gv_tup, gv_lst, optK_a, gv_B, gv_chn, chnK_a, gv_last, gv_link, linkK_a, gv_isi, isi_ii, isi_bi, isi_tt, isi_ll, isi_ss, isi_ti, isi_li, isi_si, isi_tl, isi_lt, isi_it, isi_il, isi_is, isi_bs, isi_ib, isi_bb, isi_st, isi_sl, gv_seq, sqK_n, sqK_r, sqK_b, sqK_c, gv_next, gv_brk, gv_cnt, gv_retN, gv_set, setK_a, gv_par, parK_2, parK_3, gv_asg, asgK_a, asgR_s, bindT_n, bindT_2, bindT_3, gv_retS, retK_a, gv_retO, retOK_a, gv_fn, fnK_n, fnK_r, gv_enil, gv_econs, ecK1_a, ecK2_a, gv_epot, epK_a, rdK_d, rdK_o, roK_o, gv_call, cK1_a, cK2_a, gv_callO, coK1_a, coK2_a, gv_potI, potI_0, potI_1, gv_potS, potSK_a, gv_potD, potDK_a, gv_rng, gv_seqI, seqOf_l, seqOf_t, gv_for, forK_a, gv_comp, compK_a, gv_comp0, cmpR_s, cmpK2_a, cmpK1_a, gv_comp1, gv_tt1, hide_nil, hide_0, hide_d, hide_p, hide_o, wipeD_nil, wipeD_cons, gv_ok, gv_bad, gv_ret, gv_opt, gv_max2, gv_min2, gv_int, gv_ix0, gv_ix1, gv_ix2, gv_abs, pick_nil, pick_0, pick_1, pick_2, pick_3, pick_4, pick_5, gv_lenT0, gv_lenT1, gv_lenT2, gv_lenT3, gv_lenT4, gv_lenL0, gv_lenL1, gv_lenL2, gv_lenL3, gv_lenL4, gv_neS, gv_eqS, gv_rng1, gv_rng2, bnd62_of, rngL_len, big_of, gv_all2, gv_maxL2, gv_minL2, List.map_cons, List.map_nil, List.length_cons, List.length_nil, List.replicate, List.cons_append, List.nil_append, List.append_nil, List.getElem?_cons_zero, List.getElem?_cons_succ, List.set_cons_zero, List.set_cons_succ, Nat.reduceSub, Nat.reduceAdd, Nat.reduceMul, Nat.zero_add, Nat.add_zero, true_and, and_true, Int.reducePow, Int.reduceToNat, Int.reduceMul, Int.reduceAdd, Int.reduceSub, Int.reduceMod, Int.reduceNeg, Int.reduceLE, Int.reduceLT, Int.reduceEq, Nat.reduceLT, Nat.reduceLeDiff, Nat.reducePow, Int.reduceAbs, ne_eq, not_false_eq_true, not_true_eq_false, small_of, decide_true, decide_false, Bool.and_self, Bool.true_and, Bool.and_true, Bool.not_false, Bool.not_true, brK_t, brK_f, true_implies, false_implies, forall_const, implies_true, not_false_iff]
  refine ⟨fun _ => ⟨_, _, rfl, x0, by omega, x1, h3⟩, fun _ => ⟨_, _, rfl, ?_, ?_, ?_, h3⟩⟩
  · split <;> omega
  · split <;> split <;> omega
  · split <;> omega
theorem is_integer_eq {θ : Pot} {i : Int} {Q : Ret → Pot → Prop} : Gv (m_is_integer [.dat (.int i)] θ) Q = Q (.d (.bl true)) θ := by
  unfold m_is_integer r_is_integer
  simp only [gv_var, varK_d, potK_p, gv_op, opK1_a, opK2_a, gv_I, gv_eqI, gv_neI, gv_neg, negK_a, gv_bool, boolK_a, gv_not, notK_a, brK_t, brK_f, brK_d, brK_n, runP_a, ansP_a, gv_and, gv_or, gv_andV, gv_orV, blK_a, gv_notV, gv_ite, gv_if, gv_nil, gv_cons, consK1_a, consK2_a, mapK_a, gv_tup, gv_lst, optK_a, gv_B, gv_chn, chnK_a, gv_last, gv_link, linkK_a, gv_isi, isi_ii, isi_bi, isi_tt, isi_ll, isi_ss, isi_ti, isi_li, isi_si, isi_tl, isi_lt, isi_it, isi_il, isi_is, isi_bs, isi_ib, isi_bb, isi_st, isi_sl, gv_seq, sqK_n, sqK_r, sqK_b, sqK_c, gv_next, gv_brk, gv_cnt, gv_retN, gv_set, setK_a, gv_par, parK_2, parK_3, gv_asg, asgK_a, asgR_s, bindT_n, bindT_2, bindT_3, gv_retS, retK_a, gv_retO, retOK_a, gv_fn, fnK_n, fnK_r, gv_enil, gv_econs, ecK1_a, ecK2_a, gv_epot, epK_a, rdK_d, rdK_o, roK_o, gv_call, cK1_a, cK2_a, gv_callO, coK1_a, coK2_a, gv_potI, potI_0, potI_1, gv_potS, potSK_a, gv_potD, potDK_a, gv_rng, gv_seqI, seqOf_l, seqOf_t, gv_for, forK_a, gv_comp, compK_a, gv_comp0, cmpR_s, cmpK2_a, cmpK1_a, gv_comp1, gv_tt1, hide_nil, hide_0, hide_d, hide_p, hide_o, wipeD_nil, wipeD_cons, gv_ok, gv_bad, gv_ret, gv_opt, gv_max2, gv_min2, gv_int, gv_ix0, gv_ix1, gv_ix2, gv_abs, pick_nil, pick_0, pick_1, pick_2, pick_3, pick_4, pick_5, gv_lenT0, gv_lenT1, gv_lenT2, gv_lenT3, gv_lenT4, gv_lenL0, gv_lenL1, gv_lenL2, gv_lenL3, gv_lenL4, gv_neS, gv_eqS, gv_rng1, gv_rng2, bnd62_of, rngL_len, big_of, gv_all2, gv_maxL2, gv_minL2, List.map_cons, List.map_nil, List.length_cons, List.length_nil, List.replicate, List.cons_append, List.nil_append, List.append_nil, List.getElem?_cons_zero, List.getElem?_cons_succ, List.set_cons_zero, List.set_cons_succ, Nat.reduceSub, Nat.reduceAdd, Nat.reduceMul, Nat.zero_add, Nat.add_zero, true_and, and_true, Int.reducePow, Int.reduceToNat, Int.reduceMul, Int.reduceAdd, Int.reduceSub, Int.reduceMod, Int.reduceNeg, Int.reduceLE, Int.reduceLT, Int.reduceEq, Nat.reduceLT, Nat.reduceLeDiff, Nat.reducePow, Int.reduceAbs, ne_eq, not_false_eq_true, not_true_eq_false, small_of, decide_true, decide_false, Bool.and_self, Bool.true_and, Bool.and_true, Bool.not_false, Bool.not_true, brK_t, brK_f, true_implies, false_implies, forall_const, implies_true, not_false_iff]
theorem is_interval_ok {θ : Pot} {a b : Int} {Q : Ret → Pot → Prop} (h1 : -1180591620717411303424 ≤ a) (h2 : a ≤ b) (h3 : b ≤ 1180591620717411303424) (q : Q (.d (.bl true)) θ) : Gv (m_is_interval [.dat (.tup [.int a, .int b])] θ) Q := by
  unfold m_is_interval r_is_interval
  simp only [gv_var, varK_d, potK_p, gv_op, opK1_a, opK2_a, gv_I, gv_eqI, gv_neI, gv_neg, negK_a, gv_bool, boolK_a, gv_not, notK_a, brK_t, brK_f, brK_d, brK_n, runP_a, ansP_a, gv_and, gv_or, gv_andV, gv_orV, blK_a, gv_notV, gv_ite, gv_if, gv_nil, gv_cons, consK1_a, consK2_a, mapK_a, gv_tup, gv_lst, optK_a, gv_B, gv_chn, chnK_a, gv_last, gv_link, linkK_a, gv_isi, isi_ii, isi_bi, isi_tt, isi_ll, isi_ss, isi_ti, isi_li, isi_si, isi_tl, isi_lt, isi_it, isi_il, isi_is, isi_bs, isi_ib, isi_bb, isi_st, isi_sl, gv_seq, sqK_n, sqK_r, sqK_b, sqK_c, gv_next, gv_brk, gv_cnt, gv_retN, gv_set, setK_a, gv_par, parK_2, parK_3, gv_asg, asgK_a, asgR_s, bindT_n, bindT_2, bindT_3, gv_retS, retK_a, gv_retO, retOK_a, gv_fn, fnK_n, fnK_r, gv_enil, gv_econs, ecK1_a, ecK2_a, gv_epot, epK_a, rdK_d, rdK_o, roK_o, gv_call, cK1_a, cK2_a, gv_callO, coK1_a, coK2_a, gv_potI, potI_0, potI_1, gv_potS, potSK_a, gv_potD, potDK_a, gv_rng, gv_seqI, seqOf_l, seqOf_t, gv_for, forK_a, gv_comp, compK_a, gv_comp0, cmpR_s, cmpK2_a, cmpK1_a, gv_comp1, gv_tt1, hide_nil, hide_0, hide_d, hide_p, hide_o, wipeD_nil, wipeD_cons, gv_ok, gv_bad, gv_ret, gv_opt, gv_max2, gv_min2, gv_int, gv_ix0, gv_ix1, gv_ix2, gv_abs, pick_nil, pick_0, pick_1, pick_2, pick_3, pick_4, pick_5, gv_lenT0, gv_lenT1, gv_lenT2, gv_lenT3, gv_lenT4, gv_lenL0, gv_lenL1, gv_lenL2, gv_lenL3, gv_lenL4, gv_neS, gv_eqS, gv_rng1, gv_rng2, bnd62_of, rngL_len, big_of, gv_all2, gv_maxL2, gv_minL2, List.map_cons, List.map_nil, List.length_cons, List.length_nil, List.replicate, List.cons_append, List.nil_append, List.append_nil, List.getElem?_cons_zero, List.getElem?_cons_succ, List.set_cons_zero, List.set_cons_succ, Nat.reduceSub, Nat.reduceAdd, Nat.reduceMul, Nat.zero_add, Nat.add_zero, true_and, and_true, Int.reducePow, Int.reduceToNat, Int.reduceMul, Int.reduceAdd, Int.reduceSub, Int.reduceMod, Int.reduceNeg, Int.reduceLE, Int.reduceLT, Int.reduceEq, Nat.reduceLT, Nat.reduceLeDiff, Nat.reducePow, Int.reduceAbs, ne_eq, not_false_eq_true, not_true_eq_false, small_of, decide_true, decide_false, Bool.and_self, Bool.true_and, Bool.and_true, Bool.not_false, Bool.not_true, brK_t, brK_f, true_implies, false_implies, forall_const, implies_true, not_false_iff, is_integer_eq, h1, h2, h3]
  exact q
theorem want_ok {θ : Pot} {a b : Int} {Q : Ret → Pot → Prop} (h1 : -1180591620717411303424 ≤ a) (h2 : a ≤ b) (h3 : b ≤ 1180591620717411303424) (q : Q (.d (.tup [.int a, .int b])) θ) : Gv (m_want_interval [.dat (.tup [.int a, .int b])] θ) Q := by
  unfold m_want_interval r_want_interval
  simp only [gv_var, varK_d, potK_p, gv_op, opK1_a, opK2_a, gv_I, gv_eqI, gv_neI, gv_neg, negK_a, gv_bool, boolK_a, gv_not, notK_a, brK_t, brK_f, brK_d, brK_n, runP_a, ansP_a, gv_and, gv_or, gv_andV, gv_orV, blK_a, gv_notV, gv_ite, gv_if, gv_nil, gv_cons, consK1_a, consK2_a, mapK_a, gv_tup, gv_lst, optK_a, gv_B, gv_chn, chnK_a, gv_last, gv_link, linkK_a, gv_isi, isi_ii, isi_bi, isi_tt, isi_ll, isi_ss, isi_ti, isi_li, isi_si, isi_tl, isi_lt, isi_it, isi_il, isi_is, isi_bs, isi_ib, isi_bb, isi_st, isi_sl, gv_seq, sqK_n, sqK_r, sqK_b, sqK_c, gv_next, gv_brk, gv_cnt, gv_retN, gv_set, setK_a, gv_par, parK_2, parK_3, gv_asg, asgK_a, asgR_s, bindT_n, bindT_2, bindT_3, gv_retS, retK_a, gv_retO, retOK_a, gv_fn, fnK_n, fnK_r, gv_enil, gv_econs, ecK1_a, ecK2_a, gv_epot, epK_a, rdK_d, rdK_o, roK_o, gv_call, cK1_a, cK2_a, gv_callO, coK1_a, coK2_a, gv_potI, potI_0, potI_1, gv_potS, potSK_a, gv_potD, potDK_a, gv_rng, gv_seqI, seqOf_l, seqOf_t, gv_for, forK_a, gv_comp, compK_a, gv_comp0, cmpR_s, cmpK2_a, cmpK1_a, gv_comp1, gv_tt1, hide_nil, hide_0, hide_d, hide_p, hide_o, wipeD_nil, wipeD_cons, gv_ok, gv_bad, gv_ret, gv_opt, gv_max2, gv_min2, gv_int, gv_ix0, gv_ix1, gv_ix2, gv_abs, pick_nil, pick_0, pick_1, pick_2, pick_3, pick_4, pick_5, gv_lenT0, gv_lenT1, gv_lenT2, gv_lenT3, gv_lenT4, gv_lenL0, gv_lenL1, gv_lenL2, gv_lenL3, gv_lenL4, gv_neS, gv_eqS, gv_rng1, gv_rng2, bnd62_of, rngL_len, big_of, gv_all2, gv_maxL2, gv_minL2, List.map_cons, List.map_nil, List.length_cons, List.length_nil, List.replicate, List.cons_append, List.nil_append, List.append_nil, List.getElem?_cons_zero, List.getElem?_cons_succ, List.set_cons_zero, List.set_cons_succ, Nat.reduceSub, Nat.reduceAdd, Nat.reduceMul, Nat.zero_add, Nat.add_zero, true_and, and_true, Int.reducePow, Int.reduceToNat, Int.reduceMul, Int.reduceAdd, Int.reduceSub, Int.reduceMod, Int.reduceNeg, Int.reduceLE, Int.reduceLT, Int.reduceEq, Nat.reduceLT, Nat.reduceLeDiff, Nat.reducePow, Int.reduceAbs, ne_eq, not_false_eq_true, not_true_eq_false, small_of, decide_true, decide_false, Bool.and_self, Bool.true_and, Bool.and_true, Bool.not_false, Bool.not_true, brK_t, brK_f, true_implies, false_implies, forall_const, implies_true, not_false_iff]
  refine is_interval_ok h1 h2 h3 ?_
  simp only [gv_var, varK_d, potK_p, gv_op, opK1_a, opK2_a, gv_I, gv_eqI, gv_neI, gv_neg, negK_a, gv_bool, boolK_a, gv_not, notK_a, brK_t, brK_f, brK_d, brK_n, runP_a, ansP_a, gv_and, gv_or, gv_andV, gv_orV, blK_a, gv_notV, gv_ite, gv_if, gv_nil, gv_cons, consK1_a, consK2_a, mapK_a, gv_tup, gv_lst, optK_a, gv_B, gv_chn, chnK_a, gv_last, gv_link, linkK_a, gv_isi, isi_ii, isi_bi, isi_tt, isi_ll, isi_ss, isi_ti, isi_li, isi_si, isi_tl, isi_lt, isi_it, isi_il, isi_is, isi_bs, isi_ib, isi_bb, isi_st, isi_sl, gv_seq, sqK_n, sqK_r, sqK_b, sqK_c, gv_next, gv_brk, gv_cnt, gv_retN, gv_set, setK_a, gv_par, parK_2, parK_3, gv_asg, asgK_a, asgR_s, bindT_n, bindT_2, bindT_3, gv_retS, retK_a, gv_retO, retOK_a, gv_fn, fnK_n, fnK_r, gv_enil, gv_econs, ecK1_a, ecK2_a, gv_epot, epK_a, rdK_d, rdK_o, roK_o, gv_call, cK1_a, cK2_a, gv_callO, coK1_a, coK2_a, gv_potI, potI_0, potI_1, gv_potS, potSK_a, gv_potD, potDK_a, gv_rng, gv_seqI, seqOf_l, seqOf_t, gv_for, forK_a, gv_comp, compK_a, gv_comp0, cmpR_s, cmpK2_a, cmpK1_a, gv_comp1, gv_tt1, hide_nil, hide_0, hide_d, hide_p, hide_o, wipeD_nil, wipeD_cons, gv_ok, gv_bad, gv_ret, gv_opt, gv_max2, gv_min2, gv_int, gv_ix0, gv_ix1, gv_ix2, gv_abs, pick_nil, pick_0, pick_1, pick_2, pick_3, pick_4, pick_5, gv_lenT0, gv_lenT1, gv_lenT2, gv_lenT3, gv_lenT4, gv_lenL0, gv_lenL1, gv_lenL2, gv_lenL3, gv_lenL4, gv_neS, gv_eqS, gv_rng1, gv_rng2, bnd62_of, rngL_len, big_of, gv_all2, gv_maxL2, gv_minL2, List.map_cons, List.map_nil, List.length_cons, List.length_nil, List.replicate, List.cons_append, List.nil_append, List.append_nil, List.getElem?_cons_zero, List.getElem?_cons_succ, List.set_cons_zero, List.set_cons_succ, Nat.reduceSub, Nat.reduceAdd, Nat.reduceMul, Nat.zero_add, Nat.add_zero, true_and, and_true, Int.reducePow, Int.reduceToNat, Int.reduceMul, Int.reduceAdd, Int.reduceSub, Int.reduceMod, Int.reduceNeg, Int.reduceLE, Int.reduceLT, Int.reduceEq, Nat.reduceLT, Nat.reduceLeDiff, Nat.reducePow, Int.reduceAbs, ne_eq, not_false_eq_true, not_true_eq_false, small_of, decide_true, decide_false, Bool.and_self, Bool.true_and, Bool.and_true, Bool.not_false, Bool.not_true, brK_t, brK_f, true_implies, false_implies, forall_const, implies_true, not_false_iff]
  exact q
def lo (a : Int) : Int := (Float64.isqrt (a * 1099511627776).toNat : Nat)
def hi (b : Int) : Int := if lo b * lo b = b * 1099511627776 then lo b else lo b + 1
theorem lo_spec {a : Int} (h : 0 ≤ a) : 0 ≤ lo a ∧ lo a * lo a ≤ a * 1099511627776 ∧ a * 1099511627776 < (lo a + 1) * (lo a + 1) := isq_spec (by omega) (lo a) rfl
theorem hi_spec {b : Int} (h : 0 ≤ b) : 0 ≤ hi b ∧ b * 1099511627776 ≤ hi b * hi b ∧ (hi b = 0 ∨ (hi b - 1) * (hi b - 1) < b * 1099511627776) := by
  obtain ⟨h1, h2, h3⟩ := lo_spec h
  unfold hi
  by_cases e : lo b * lo b = b * 1099511627776
  · rw [if_pos e]
    refine ⟨h1, by omega, ?_⟩
    by_cases z : lo b = 0
    · exact Or.inl z
    · refine Or.inr ?_
      rw [← e]
      exact Int.mul_self_lt_mul_self (by omega) (by omega)
  · rw [if_neg e]
    refine ⟨by omega, by omega, Or.inr ?_⟩
    have e2 : lo b + 1 - 1 = lo b := by omega
    rw [e2]
    omega
theorem lo_hi {a b : Int} (h : 0 ≤ a) (h2 : a ≤ b) : lo a ≤ hi b := by
  obtain ⟨l1, l2, l3⟩ := lo_spec h
  obtain ⟨k1, k2, k3⟩ := hi_spec (b := b) (by omega)
  exact sq_le k1 (by omega)
theorem lo_mono {a b : Int} (h : 0 ≤ a) (h2 : a ≤ b) : lo a ≤ lo b := by
  obtain ⟨l1, l2, l3⟩ := lo_spec h
  obtain ⟨k1, k2, k3⟩ := lo_spec (a := b) (by omega)
  have := sq_lt (x := lo a) (y := lo b + 1) (by omega) (by omega)
  omega
theorem hi_mono {a b : Int} (h : 0 ≤ a) (h2 : a ≤ b) : hi a ≤ hi b := by
  obtain ⟨l1, l2, l3⟩ := hi_spec h
  obtain ⟨k1, k2, k3⟩ := hi_spec (b := b) (by omega)
  rcases l3 with z | z
  · omega
  · have := sq_lt (x := hi a - 1) (y := hi b) k1 (by omega)
    omega
theorem lo_le {a : Int} (h : 0 ≤ a) (h2 : a ≤ 1180591620717411303424) : lo a ≤ 1267650600228229401496703205376 := by
  obtain ⟨l1, l2, l3⟩ := lo_spec h
  by_cases z : lo a ≤ 1267650600228229401496703205376
  · exact z
  · have := Int.mul_self_lt_mul_self (show (0 : Int) ≤ 1267650600228229401496703205376 by decide) (show 1267650600228229401496703205376 < lo a by omega)
    have e : (1267650600228229401496703205376 : Int) * 1267650600228229401496703205376 = 1606938044258990275541962092341162602522202993782792835301376 := by decide
    omega
theorem root_at_ok {θ : Pot} {a b : Int} {Q : Ret → Pot → Prop} (h0 : 0 ≤ a) (h1 : a ≤ b) (h2 : b ≤ 1180591620717411303424) (q : Q (.d (.tup [.int (lo a), .int (hi b)])) θ) : Gv (m_root_at [.dat (.tup [.int a, .int b])] θ) Q := by
  unfold m_root_at r_root_at
  have n0 : ¬ a < 0 := by omega
  have s1 : small a = true := small_of (by omega) (by omega)
  have s2 : small b = true := small_of (by omega) (by omega)
  have l1 := lo_le h0 (by omega)
  have l2 := lo_le (a := b) (by omega) h2
  obtain ⟨l3, _, _⟩ := lo_spec h0
  obtain ⟨l4, _, _⟩ := lo_spec (a := b) (by omega)
  simp only [gv_var, varK_d, potK_p, gv_op, opK1_a, opK2_a, gv_I, gv_eqI, gv_neI, gv_neg, negK_a, gv_bool, boolK_a, gv_not, notK_a, brK_t, brK_f, brK_d, brK_n, runP_a, ansP_a, gv_and, gv_or, gv_andV, gv_orV, blK_a, gv_notV, gv_ite, gv_if, gv_nil, gv_cons, consK1_a, consK2_a, mapK_a, gv_tup, gv_lst, optK_a, gv_B, gv_chn, chnK_a, gv_last, gv_link, linkK_a, gv_isi, isi_ii, isi_bi, isi_tt, isi_ll, isi_ss, isi_ti, isi_li, isi_si, isi_tl, isi_lt, isi_it, isi_il, isi_is, isi_bs, isi_ib, isi_bb, isi_st, isi_sl, gv_seq, sqK_n, sqK_r, sqK_b, sqK_c, gv_next, gv_brk, gv_cnt, gv_retN, gv_set, setK_a, gv_par, parK_2, parK_3, gv_asg, asgK_a, asgR_s, bindT_n, bindT_2, bindT_3, gv_retS, retK_a, gv_retO, retOK_a, gv_fn, fnK_n, fnK_r, gv_enil, gv_econs, ecK1_a, ecK2_a, gv_epot, epK_a, rdK_d, rdK_o, roK_o, gv_call, cK1_a, cK2_a, gv_callO, coK1_a, coK2_a, gv_potI, potI_0, potI_1, gv_potS, potSK_a, gv_potD, potDK_a, gv_rng, gv_seqI, seqOf_l, seqOf_t, gv_for, forK_a, gv_comp, compK_a, gv_comp0, cmpR_s, cmpK2_a, cmpK1_a, gv_comp1, gv_tt1, hide_nil, hide_0, hide_d, hide_p, hide_o, wipeD_nil, wipeD_cons, gv_ok, gv_bad, gv_ret, gv_opt, gv_max2, gv_min2, gv_int, gv_ix0, gv_ix1, gv_ix2, gv_abs, pick_nil, pick_0, pick_1, pick_2, pick_3, pick_4, pick_5, gv_lenT0, gv_lenT1, gv_lenT2, gv_lenT3, gv_lenT4, gv_lenL0, gv_lenL1, gv_lenL2, gv_lenL3, gv_lenL4, gv_neS, gv_eqS, gv_rng1, gv_rng2, bnd62_of, rngL_len, big_of, gv_all2, gv_maxL2, gv_minL2, List.map_cons, List.map_nil, List.length_cons, List.length_nil, List.replicate, List.cons_append, List.nil_append, List.append_nil, List.getElem?_cons_zero, List.getElem?_cons_succ, List.set_cons_zero, List.set_cons_succ, Nat.reduceSub, Nat.reduceAdd, Nat.reduceMul, Nat.zero_add, Nat.add_zero, true_and, and_true, Int.reducePow, Int.reduceToNat, Int.reduceMul, Int.reduceAdd, Int.reduceSub, Int.reduceMod, Int.reduceNeg, Int.reduceLE, Int.reduceLT, Int.reduceEq, Nat.reduceLT, Nat.reduceLeDiff, Nat.reducePow, Int.reduceAbs, ne_eq, not_false_eq_true, not_true_eq_false, small_of, decide_true, decide_false, Bool.and_self, Bool.true_and, Bool.and_true, Bool.not_false, Bool.not_true, brK_t, brK_f, true_implies, false_implies, forall_const, implies_true, not_false_iff, n0, s1, s2]
  rw [gv_isq (by omega) (by omega)]
  simp only [gv_var, varK_d, potK_p, gv_op, opK1_a, opK2_a, gv_I, gv_eqI, gv_neI, gv_neg, negK_a, gv_bool, boolK_a, gv_not, notK_a, brK_t, brK_f, brK_d, brK_n, runP_a, ansP_a, gv_and, gv_or, gv_andV, gv_orV, blK_a, gv_notV, gv_ite, gv_if, gv_nil, gv_cons, consK1_a, consK2_a, mapK_a, gv_tup, gv_lst, optK_a, gv_B, gv_chn, chnK_a, gv_last, gv_link, linkK_a, gv_isi, isi_ii, isi_bi, isi_tt, isi_ll, isi_ss, isi_ti, isi_li, isi_si, isi_tl, isi_lt, isi_it, isi_il, isi_is, isi_bs, isi_ib, isi_bb, isi_st, isi_sl, gv_seq, sqK_n, sqK_r, sqK_b, sqK_c, gv_next, gv_brk, gv_cnt, gv_retN, gv_set, setK_a, gv_par, parK_2, parK_3, gv_asg, asgK_a, asgR_s, bindT_n, bindT_2, bindT_3, gv_retS, retK_a, gv_retO, retOK_a, gv_fn, fnK_n, fnK_r, gv_enil, gv_econs, ecK1_a, ecK2_a, gv_epot, epK_a, rdK_d, rdK_o, roK_o, gv_call, cK1_a, cK2_a, gv_callO, coK1_a, coK2_a, gv_potI, potI_0, potI_1, gv_potS, potSK_a, gv_potD, potDK_a, gv_rng, gv_seqI, seqOf_l, seqOf_t, gv_for, forK_a, gv_comp, compK_a, gv_comp0, cmpR_s, cmpK2_a, cmpK1_a, gv_comp1, gv_tt1, hide_nil, hide_0, hide_d, hide_p, hide_o, wipeD_nil, wipeD_cons, gv_ok, gv_bad, gv_ret, gv_opt, gv_max2, gv_min2, gv_int, gv_ix0, gv_ix1, gv_ix2, gv_abs, pick_nil, pick_0, pick_1, pick_2, pick_3, pick_4, pick_5, gv_lenT0, gv_lenT1, gv_lenT2, gv_lenT3, gv_lenT4, gv_lenL0, gv_lenL1, gv_lenL2, gv_lenL3, gv_lenL4, gv_neS, gv_eqS, gv_rng1, gv_rng2, bnd62_of, rngL_len, big_of, gv_all2, gv_maxL2, gv_minL2, List.map_cons, List.map_nil, List.length_cons, List.length_nil, List.replicate, List.cons_append, List.nil_append, List.append_nil, List.getElem?_cons_zero, List.getElem?_cons_succ, List.set_cons_zero, List.set_cons_succ, Nat.reduceSub, Nat.reduceAdd, Nat.reduceMul, Nat.zero_add, Nat.add_zero, true_and, and_true, Int.reducePow, Int.reduceToNat, Int.reduceMul, Int.reduceAdd, Int.reduceSub, Int.reduceMod, Int.reduceNeg, Int.reduceLE, Int.reduceLT, Int.reduceEq, Nat.reduceLT, Nat.reduceLeDiff, Nat.reducePow, Int.reduceAbs, ne_eq, not_false_eq_true, not_true_eq_false, small_of, decide_true, decide_false, Bool.and_self, Bool.true_and, Bool.and_true, Bool.not_false, Bool.not_true, brK_t, brK_f, true_implies, false_implies, forall_const, implies_true, not_false_iff, s1, s2]
  rw [gv_isq (by omega) (by omega)]
  rw [show ((Float64.isqrt (a * 1099511627776).toNat : Nat) : Int) = lo a from rfl, show ((Float64.isqrt (b * 1099511627776).toNat : Nat) : Int) = lo b from rfl]
  have s3 : small (lo b) = true := small_of (by omega) (by omega)
  simp only [gv_var, varK_d, potK_p, gv_op, opK1_a, opK2_a, gv_I, gv_eqI, gv_neI, gv_neg, negK_a, gv_bool, boolK_a, gv_not, notK_a, brK_t, brK_f, brK_d, brK_n, runP_a, ansP_a, gv_and, gv_or, gv_andV, gv_orV, blK_a, gv_notV, gv_ite, gv_if, gv_nil, gv_cons, consK1_a, consK2_a, mapK_a, gv_tup, gv_lst, optK_a, gv_B, gv_chn, chnK_a, gv_last, gv_link, linkK_a, gv_isi, isi_ii, isi_bi, isi_tt, isi_ll, isi_ss, isi_ti, isi_li, isi_si, isi_tl, isi_lt, isi_it, isi_il, isi_is, isi_bs, isi_ib, isi_bb, isi_st, isi_sl, gv_seq, sqK_n, sqK_r, sqK_b, sqK_c, gv_next, gv_brk, gv_cnt, gv_retN, gv_set, setK_a, gv_par, parK_2, parK_3, gv_asg, asgK_a, asgR_s, bindT_n, bindT_2, bindT_3, gv_retS, retK_a, gv_retO, retOK_a, gv_fn, fnK_n, fnK_r, gv_enil, gv_econs, ecK1_a, ecK2_a, gv_epot, epK_a, rdK_d, rdK_o, roK_o, gv_call, cK1_a, cK2_a, gv_callO, coK1_a, coK2_a, gv_potI, potI_0, potI_1, gv_potS, potSK_a, gv_potD, potDK_a, gv_rng, gv_seqI, seqOf_l, seqOf_t, gv_for, forK_a, gv_comp, compK_a, gv_comp0, cmpR_s, cmpK2_a, cmpK1_a, gv_comp1, gv_tt1, hide_nil, hide_0, hide_d, hide_p, hide_o, wipeD_nil, wipeD_cons, gv_ok, gv_bad, gv_ret, gv_opt, gv_max2, gv_min2, gv_int, gv_ix0, gv_ix1, gv_ix2, gv_abs, pick_nil, pick_0, pick_1, pick_2, pick_3, pick_4, pick_5, gv_lenT0, gv_lenT1, gv_lenT2, gv_lenT3, gv_lenT4, gv_lenL0, gv_lenL1, gv_lenL2, gv_lenL3, gv_lenL4, gv_neS, gv_eqS, gv_rng1, gv_rng2, bnd62_of, rngL_len, big_of, gv_all2, gv_maxL2, gv_minL2, List.map_cons, List.map_nil, List.length_cons, List.length_nil, List.replicate, List.cons_append, List.nil_append, List.append_nil, List.getElem?_cons_zero, List.getElem?_cons_succ, List.set_cons_zero, List.set_cons_succ, Nat.reduceSub, Nat.reduceAdd, Nat.reduceMul, Nat.zero_add, Nat.add_zero, true_and, and_true, Int.reducePow, Int.reduceToNat, Int.reduceMul, Int.reduceAdd, Int.reduceSub, Int.reduceMod, Int.reduceNeg, Int.reduceLE, Int.reduceLT, Int.reduceEq, Nat.reduceLT, Nat.reduceLeDiff, Nat.reducePow, Int.reduceAbs, ne_eq, not_false_eq_true, not_true_eq_false, small_of, decide_true, decide_false, Bool.and_self, Bool.true_and, Bool.and_true, Bool.not_false, Bool.not_true, brK_t, brK_f, true_implies, false_implies, forall_const, implies_true, not_false_iff, s1, s2, s3]
  refine ⟨fun e => ?_, fun e => ?_⟩
  · unfold hi at q
    rw [if_pos e] at q
    exact q
  · unfold hi at q
    rw [if_neg e] at q
    exact q
theorem root_of_ok {θ : Pot} {a b : Int} {Q : Ret → Pot → Prop} (h0 : 0 ≤ a) (h1 : a ≤ b) (h2 : b ≤ 1180591620717411303424) (q : Q (.d (.tup [.int (lo a), .int (hi b)])) θ) : Gv (m_root_of [.dat (.tup [.int a, .int b])] θ) Q := by
  unfold m_root_of r_root_of
  simp only [gv_var, varK_d, potK_p, gv_op, opK1_a, opK2_a, gv_I, gv_eqI, gv_neI, gv_neg, negK_a, gv_bool, boolK_a, gv_not, notK_a, brK_t, brK_f, brK_d, brK_n, runP_a, ansP_a, gv_and, gv_or, gv_andV, gv_orV, blK_a, gv_notV, gv_ite, gv_if, gv_nil, gv_cons, consK1_a, consK2_a, mapK_a, gv_tup, gv_lst, optK_a, gv_B, gv_chn, chnK_a, gv_last, gv_link, linkK_a, gv_isi, isi_ii, isi_bi, isi_tt, isi_ll, isi_ss, isi_ti, isi_li, isi_si, isi_tl, isi_lt, isi_it, isi_il, isi_is, isi_bs, isi_ib, isi_bb, isi_st, isi_sl, gv_seq, sqK_n, sqK_r, sqK_b, sqK_c, gv_next, gv_brk, gv_cnt, gv_retN, gv_set, setK_a, gv_par, parK_2, parK_3, gv_asg, asgK_a, asgR_s, bindT_n, bindT_2, bindT_3, gv_retS, retK_a, gv_retO, retOK_a, gv_fn, fnK_n, fnK_r, gv_enil, gv_econs, ecK1_a, ecK2_a, gv_epot, epK_a, rdK_d, rdK_o, roK_o, gv_call, cK1_a, cK2_a, gv_callO, coK1_a, coK2_a, gv_potI, potI_0, potI_1, gv_potS, potSK_a, gv_potD, potDK_a, gv_rng, gv_seqI, seqOf_l, seqOf_t, gv_for, forK_a, gv_comp, compK_a, gv_comp0, cmpR_s, cmpK2_a, cmpK1_a, gv_comp1, gv_tt1, hide_nil, hide_0, hide_d, hide_p, hide_o, wipeD_nil, wipeD_cons, gv_ok, gv_bad, gv_ret, gv_opt, gv_max2, gv_min2, gv_int, gv_ix0, gv_ix1, gv_ix2, gv_abs, pick_nil, pick_0, pick_1, pick_2, pick_3, pick_4, pick_5, gv_lenT0, gv_lenT1, gv_lenT2, gv_lenT3, gv_lenT4, gv_lenL0, gv_lenL1, gv_lenL2, gv_lenL3, gv_lenL4, gv_neS, gv_eqS, gv_rng1, gv_rng2, bnd62_of, rngL_len, big_of, gv_all2, gv_maxL2, gv_minL2, List.map_cons, List.map_nil, List.length_cons, List.length_nil, List.replicate, List.cons_append, List.nil_append, List.append_nil, List.getElem?_cons_zero, List.getElem?_cons_succ, List.set_cons_zero, List.set_cons_succ, Nat.reduceSub, Nat.reduceAdd, Nat.reduceMul, Nat.zero_add, Nat.add_zero, true_and, and_true, Int.reducePow, Int.reduceToNat, Int.reduceMul, Int.reduceAdd, Int.reduceSub, Int.reduceMod, Int.reduceNeg, Int.reduceLE, Int.reduceLT, Int.reduceEq, Nat.reduceLT, Nat.reduceLeDiff, Nat.reducePow, Int.reduceAbs, ne_eq, not_false_eq_true, not_true_eq_false, small_of, decide_true, decide_false, Bool.and_self, Bool.true_and, Bool.and_true, Bool.not_false, Bool.not_true, brK_t, brK_f, true_implies, false_implies, forall_const, implies_true, not_false_iff]
  refine want_ok (by omega) h1 h2 ?_
  simp only [gv_var, varK_d, potK_p, gv_op, opK1_a, opK2_a, gv_I, gv_eqI, gv_neI, gv_neg, negK_a, gv_bool, boolK_a, gv_not, notK_a, brK_t, brK_f, brK_d, brK_n, runP_a, ansP_a, gv_and, gv_or, gv_andV, gv_orV, blK_a, gv_notV, gv_ite, gv_if, gv_nil, gv_cons, consK1_a, consK2_a, mapK_a, gv_tup, gv_lst, optK_a, gv_B, gv_chn, chnK_a, gv_last, gv_link, linkK_a, gv_isi, isi_ii, isi_bi, isi_tt, isi_ll, isi_ss, isi_ti, isi_li, isi_si, isi_tl, isi_lt, isi_it, isi_il, isi_is, isi_bs, isi_ib, isi_bb, isi_st, isi_sl, gv_seq, sqK_n, sqK_r, sqK_b, sqK_c, gv_next, gv_brk, gv_cnt, gv_retN, gv_set, setK_a, gv_par, parK_2, parK_3, gv_asg, asgK_a, asgR_s, bindT_n, bindT_2, bindT_3, gv_retS, retK_a, gv_retO, retOK_a, gv_fn, fnK_n, fnK_r, gv_enil, gv_econs, ecK1_a, ecK2_a, gv_epot, epK_a, rdK_d, rdK_o, roK_o, gv_call, cK1_a, cK2_a, gv_callO, coK1_a, coK2_a, gv_potI, potI_0, potI_1, gv_potS, potSK_a, gv_potD, potDK_a, gv_rng, gv_seqI, seqOf_l, seqOf_t, gv_for, forK_a, gv_comp, compK_a, gv_comp0, cmpR_s, cmpK2_a, cmpK1_a, gv_comp1, gv_tt1, hide_nil, hide_0, hide_d, hide_p, hide_o, wipeD_nil, wipeD_cons, gv_ok, gv_bad, gv_ret, gv_opt, gv_max2, gv_min2, gv_int, gv_ix0, gv_ix1, gv_ix2, gv_abs, pick_nil, pick_0, pick_1, pick_2, pick_3, pick_4, pick_5, gv_lenT0, gv_lenT1, gv_lenT2, gv_lenT3, gv_lenT4, gv_lenL0, gv_lenL1, gv_lenL2, gv_lenL3, gv_lenL4, gv_neS, gv_eqS, gv_rng1, gv_rng2, bnd62_of, rngL_len, big_of, gv_all2, gv_maxL2, gv_minL2, List.map_cons, List.map_nil, List.length_cons, List.length_nil, List.replicate, List.cons_append, List.nil_append, List.append_nil, List.getElem?_cons_zero, List.getElem?_cons_succ, List.set_cons_zero, List.set_cons_succ, Nat.reduceSub, Nat.reduceAdd, Nat.reduceMul, Nat.zero_add, Nat.add_zero, true_and, and_true, Int.reducePow, Int.reduceToNat, Int.reduceMul, Int.reduceAdd, Int.reduceSub, Int.reduceMod, Int.reduceNeg, Int.reduceLE, Int.reduceLT, Int.reduceEq, Nat.reduceLT, Nat.reduceLeDiff, Nat.reducePow, Int.reduceAbs, ne_eq, not_false_eq_true, not_true_eq_false, small_of, decide_true, decide_false, Bool.and_self, Bool.true_and, Bool.and_true, Bool.not_false, Bool.not_true, brK_t, brK_f, true_implies, false_implies, forall_const, implies_true, not_false_iff]
  refine root_at_ok h0 h1 h2 ?_
  simp only [gv_var, varK_d, potK_p, gv_op, opK1_a, opK2_a, gv_I, gv_eqI, gv_neI, gv_neg, negK_a, gv_bool, boolK_a, gv_not, notK_a, brK_t, brK_f, brK_d, brK_n, runP_a, ansP_a, gv_and, gv_or, gv_andV, gv_orV, blK_a, gv_notV, gv_ite, gv_if, gv_nil, gv_cons, consK1_a, consK2_a, mapK_a, gv_tup, gv_lst, optK_a, gv_B, gv_chn, chnK_a, gv_last, gv_link, linkK_a, gv_isi, isi_ii, isi_bi, isi_tt, isi_ll, isi_ss, isi_ti, isi_li, isi_si, isi_tl, isi_lt, isi_it, isi_il, isi_is, isi_bs, isi_ib, isi_bb, isi_st, isi_sl, gv_seq, sqK_n, sqK_r, sqK_b, sqK_c, gv_next, gv_brk, gv_cnt, gv_retN, gv_set, setK_a, gv_par, parK_2, parK_3, gv_asg, asgK_a, asgR_s, bindT_n, bindT_2, bindT_3, gv_retS, retK_a, gv_retO, retOK_a, gv_fn, fnK_n, fnK_r, gv_enil, gv_econs, ecK1_a, ecK2_a, gv_epot, epK_a, rdK_d, rdK_o, roK_o, gv_call, cK1_a, cK2_a, gv_callO, coK1_a, coK2_a, gv_potI, potI_0, potI_1, gv_potS, potSK_a, gv_potD, potDK_a, gv_rng, gv_seqI, seqOf_l, seqOf_t, gv_for, forK_a, gv_comp, compK_a, gv_comp0, cmpR_s, cmpK2_a, cmpK1_a, gv_comp1, gv_tt1, hide_nil, hide_0, hide_d, hide_p, hide_o, wipeD_nil, wipeD_cons, gv_ok, gv_bad, gv_ret, gv_opt, gv_max2, gv_min2, gv_int, gv_ix0, gv_ix1, gv_ix2, gv_abs, pick_nil, pick_0, pick_1, pick_2, pick_3, pick_4, pick_5, gv_lenT0, gv_lenT1, gv_lenT2, gv_lenT3, gv_lenT4, gv_lenL0, gv_lenL1, gv_lenL2, gv_lenL3, gv_lenL4, gv_neS, gv_eqS, gv_rng1, gv_rng2, bnd62_of, rngL_len, big_of, gv_all2, gv_maxL2, gv_minL2, List.map_cons, List.map_nil, List.length_cons, List.length_nil, List.replicate, List.cons_append, List.nil_append, List.append_nil, List.getElem?_cons_zero, List.getElem?_cons_succ, List.set_cons_zero, List.set_cons_succ, Nat.reduceSub, Nat.reduceAdd, Nat.reduceMul, Nat.zero_add, Nat.add_zero, true_and, and_true, Int.reducePow, Int.reduceToNat, Int.reduceMul, Int.reduceAdd, Int.reduceSub, Int.reduceMod, Int.reduceNeg, Int.reduceLE, Int.reduceLT, Int.reduceEq, Nat.reduceLT, Nat.reduceLeDiff, Nat.reducePow, Int.reduceAbs, ne_eq, not_false_eq_true, not_true_eq_false, small_of, decide_true, decide_false, Bool.and_self, Bool.true_and, Bool.and_true, Bool.not_false, Bool.not_true, brK_t, brK_f, true_implies, false_implies, forall_const, implies_true, not_false_iff]
  exact q
theorem root_right_ok {θ : Pot} {a b : Int} {Q : Ret → Pot → Prop} (h0 : 0 ≤ a) (h1 : a ≤ b) (h2 : b ≤ 1180591620717411303424) (q : Q (.d (.bl true)) θ) : Gv (m__law_root_right [.dat (.tup [.int (lo a), .int (hi b)]), .dat (.int a), .dat (.int b)] θ) Q := by
  unfold m__law_root_right r__law_root_right
  have l1 := lo_le h0 (by omega)
  have l2 := lo_le (a := b) (by omega) h2
  obtain ⟨l3, l5, l6⟩ := lo_spec h0
  obtain ⟨l4, _, _⟩ := lo_spec (a := b) (by omega)
  obtain ⟨k1, k2, k3⟩ := hi_spec (b := b) (by omega)
  have k4 := lo_hi h0 h1
  have k5 : hi b ≤ lo b + 1 := by
    unfold hi
    split <;> omega
  have s1 : small a = true := small_of (by omega) (by omega)
  have s2 : small b = true := small_of (by omega) (by omega)
  have s3 : small (lo a) = true := small_of (by omega) (by omega)
  have s4 : small (lo a + 1) = true := small_of (by omega) (by omega)
  have s5 : small (hi b) = true := small_of (by omega) (by omega)
  have s6 : small (hi b - 1) = true := small_of (by omega) (by omega)
  have k6 : b * 1099511627776 ≤ hi b * hi b := k2
  simp only [gv_var, varK_d, potK_p, gv_op, opK1_a, opK2_a, gv_I, gv_eqI, gv_neI, gv_neg, negK_a, gv_bool, boolK_a, gv_not, notK_a, brK_t, brK_f, brK_d, brK_n, runP_a, ansP_a, gv_and, gv_or, gv_andV, gv_orV, blK_a, gv_notV, gv_ite, gv_if, gv_nil, gv_cons, consK1_a, consK2_a, mapK_a, gv_tup, gv_lst, optK_a, gv_B, gv_chn, chnK_a, gv_last, gv_link, linkK_a, gv_isi, isi_ii, isi_bi, isi_tt, isi_ll, isi_ss, isi_ti, isi_li, isi_si, isi_tl, isi_lt, isi_it, isi_il, isi_is, isi_bs, isi_ib, isi_bb, isi_st, isi_sl, gv_seq, sqK_n, sqK_r, sqK_b, sqK_c, gv_next, gv_brk, gv_cnt, gv_retN, gv_set, setK_a, gv_par, parK_2, parK_3, gv_asg, asgK_a, asgR_s, bindT_n, bindT_2, bindT_3, gv_retS, retK_a, gv_retO, retOK_a, gv_fn, fnK_n, fnK_r, gv_enil, gv_econs, ecK1_a, ecK2_a, gv_epot, epK_a, rdK_d, rdK_o, roK_o, gv_call, cK1_a, cK2_a, gv_callO, coK1_a, coK2_a, gv_potI, potI_0, potI_1, gv_potS, potSK_a, gv_potD, potDK_a, gv_rng, gv_seqI, seqOf_l, seqOf_t, gv_for, forK_a, gv_comp, compK_a, gv_comp0, cmpR_s, cmpK2_a, cmpK1_a, gv_comp1, gv_tt1, hide_nil, hide_0, hide_d, hide_p, hide_o, wipeD_nil, wipeD_cons, gv_ok, gv_bad, gv_ret, gv_opt, gv_max2, gv_min2, gv_int, gv_ix0, gv_ix1, gv_ix2, gv_abs, pick_nil, pick_0, pick_1, pick_2, pick_3, pick_4, pick_5, gv_lenT0, gv_lenT1, gv_lenT2, gv_lenT3, gv_lenT4, gv_lenL0, gv_lenL1, gv_lenL2, gv_lenL3, gv_lenL4, gv_neS, gv_eqS, gv_rng1, gv_rng2, bnd62_of, rngL_len, big_of, gv_all2, gv_maxL2, gv_minL2, List.map_cons, List.map_nil, List.length_cons, List.length_nil, List.replicate, List.cons_append, List.nil_append, List.append_nil, List.getElem?_cons_zero, List.getElem?_cons_succ, List.set_cons_zero, List.set_cons_succ, Nat.reduceSub, Nat.reduceAdd, Nat.reduceMul, Nat.zero_add, Nat.add_zero, true_and, and_true, Int.reducePow, Int.reduceToNat, Int.reduceMul, Int.reduceAdd, Int.reduceSub, Int.reduceMod, Int.reduceNeg, Int.reduceLE, Int.reduceLT, Int.reduceEq, Nat.reduceLT, Nat.reduceLeDiff, Nat.reducePow, Int.reduceAbs, ne_eq, not_false_eq_true, not_true_eq_false, small_of, decide_true, decide_false, Bool.and_self, Bool.true_and, Bool.and_true, Bool.not_false, Bool.not_true, brK_t, brK_f, true_implies, false_implies, forall_const, implies_true, not_false_iff, l3, k4, s1, s2, s3, s4, s5, s6, l5, l6, k6]
  refine ⟨fun _ => q, fun z => ?_⟩
  have k7 : (hi b - 1) * (hi b - 1) < b * 1099511627776 := k3.resolve_left z
  simp only [k7, decide_true]
  exact q
def rd (n u : Int) : Int := if u < 0 then (0 - n) / (0 - u) else n / u
theorem rd_pos {n u : Int} (h : 0 < u) : rd n u = n / u := if_neg (by omega)
theorem rd_neg {n u : Int} (h : u < 0) : rd n u = (0 - n) / (0 - u) := if_pos h
theorem rounded_down_ok {θ : Pot} {n u : Int} {Q : Ret → Pot → Prop} (h0 : u ≠ 0) (h1 : -1180591620717411303424 ≤ u) (h2 : u ≤ 1180591620717411303424) (q : Q (.d (.int (rd n u))) θ) : Gv (m_rounded_down [.dat (.int n), .dat (.int u)] θ) Q := by
  unfold m_rounded_down r_rounded_down
  have s1 : small (0 - u) = true := small_of (by omega) (by omega)
  have s2 : small u = true := small_of (by omega) (by omega)
  have n1 : ¬ (0 - u = 0) := by omega
  have n2 : ¬ (u = 0) := h0
  simp only [gv_var, varK_d, potK_p, gv_op, opK1_a, opK2_a, gv_I, gv_eqI, gv_neI, gv_neg, negK_a, gv_bool, boolK_a, gv_not, notK_a, brK_t, brK_f, brK_d, brK_n, runP_a, ansP_a, gv_and, gv_or, gv_andV, gv_orV, blK_a, gv_notV, gv_ite, gv_if, gv_nil, gv_cons, consK1_a, consK2_a, mapK_a, gv_tup, gv_lst, optK_a, gv_B, gv_chn, chnK_a, gv_last, gv_link, linkK_a, gv_isi, isi_ii, isi_bi, isi_tt, isi_ll, isi_ss, isi_ti, isi_li, isi_si, isi_tl, isi_lt, isi_it, isi_il, isi_is, isi_bs, isi_ib, isi_bb, isi_st, isi_sl, gv_seq, sqK_n, sqK_r, sqK_b, sqK_c, gv_next, gv_brk, gv_cnt, gv_retN, gv_set, setK_a, gv_par, parK_2, parK_3, gv_asg, asgK_a, asgR_s, bindT_n, bindT_2, bindT_3, gv_retS, retK_a, gv_retO, retOK_a, gv_fn, fnK_n, fnK_r, gv_enil, gv_econs, ecK1_a, ecK2_a, gv_epot, epK_a, rdK_d, rdK_o, roK_o, gv_call, cK1_a, cK2_a, gv_callO, coK1_a, coK2_a, gv_potI, potI_0, potI_1, gv_potS, potSK_a, gv_potD, potDK_a, gv_rng, gv_seqI, seqOf_l, seqOf_t, gv_for, forK_a, gv_comp, compK_a, gv_comp0, cmpR_s, cmpK2_a, cmpK1_a, gv_comp1, gv_tt1, hide_nil, hide_0, hide_d, hide_p, hide_o, wipeD_nil, wipeD_cons, gv_ok, gv_bad, gv_ret, gv_opt, gv_max2, gv_min2, gv_int, gv_ix0, gv_ix1, gv_ix2, gv_abs, pick_nil, pick_0, pick_1, pick_2, pick_3, pick_4, pick_5, gv_lenT0, gv_lenT1, gv_lenT2, gv_lenT3, gv_lenT4, gv_lenL0, gv_lenL1, gv_lenL2, gv_lenL3, gv_lenL4, gv_neS, gv_eqS, gv_rng1, gv_rng2, bnd62_of, rngL_len, big_of, gv_all2, gv_maxL2, gv_minL2, List.map_cons, List.map_nil, List.length_cons, List.length_nil, List.replicate, List.cons_append, List.nil_append, List.append_nil, List.getElem?_cons_zero, List.getElem?_cons_succ, List.set_cons_zero, List.set_cons_succ, Nat.reduceSub, Nat.reduceAdd, Nat.reduceMul, Nat.zero_add, Nat.add_zero, true_and, and_true, Int.reducePow, Int.reduceToNat, Int.reduceMul, Int.reduceAdd, Int.reduceSub, Int.reduceMod, Int.reduceNeg, Int.reduceLE, Int.reduceLT, Int.reduceEq, Nat.reduceLT, Nat.reduceLeDiff, Nat.reducePow, Int.reduceAbs, ne_eq, not_false_eq_true, not_true_eq_false, small_of, decide_true, decide_false, Bool.and_self, Bool.true_and, Bool.and_true, Bool.not_false, Bool.not_true, brK_t, brK_f, true_implies, false_implies, forall_const, implies_true, not_false_iff, s1, s2, n1, n2]
  refine ⟨fun h => ?_, fun h => ?_⟩
  · rw [rd_neg h] at q
    rw [fd_pos (by omega)]
    exact q
  · rw [rd_pos (by omega)] at q
    rw [fd_pos (by omega)]
    exact q
theorem rounded_up_ok {θ : Pot} {n u : Int} {Q : Ret → Pot → Prop} (h0 : u ≠ 0) (h1 : -1180591620717411303424 ≤ u) (h2 : u ≤ 1180591620717411303424) (q : Q (.d (.int (0 - rd (0 - n) u))) θ) : Gv (m_rounded_up [.dat (.int n), .dat (.int u)] θ) Q := by
  unfold m_rounded_up r_rounded_up
  simp only [gv_var, varK_d, potK_p, gv_op, opK1_a, opK2_a, gv_I, gv_eqI, gv_neI, gv_neg, negK_a, gv_bool, boolK_a, gv_not, notK_a, brK_t, brK_f, brK_d, brK_n, runP_a, ansP_a, gv_and, gv_or, gv_andV, gv_orV, blK_a, gv_notV, gv_ite, gv_if, gv_nil, gv_cons, consK1_a, consK2_a, mapK_a, gv_tup, gv_lst, optK_a, gv_B, gv_chn, chnK_a, gv_last, gv_link, linkK_a, gv_isi, isi_ii, isi_bi, isi_tt, isi_ll, isi_ss, isi_ti, isi_li, isi_si, isi_tl, isi_lt, isi_it, isi_il, isi_is, isi_bs, isi_ib, isi_bb, isi_st, isi_sl, gv_seq, sqK_n, sqK_r, sqK_b, sqK_c, gv_next, gv_brk, gv_cnt, gv_retN, gv_set, setK_a, gv_par, parK_2, parK_3, gv_asg, asgK_a, asgR_s, bindT_n, bindT_2, bindT_3, gv_retS, retK_a, gv_retO, retOK_a, gv_fn, fnK_n, fnK_r, gv_enil, gv_econs, ecK1_a, ecK2_a, gv_epot, epK_a, rdK_d, rdK_o, roK_o, gv_call, cK1_a, cK2_a, gv_callO, coK1_a, coK2_a, gv_potI, potI_0, potI_1, gv_potS, potSK_a, gv_potD, potDK_a, gv_rng, gv_seqI, seqOf_l, seqOf_t, gv_for, forK_a, gv_comp, compK_a, gv_comp0, cmpR_s, cmpK2_a, cmpK1_a, gv_comp1, gv_tt1, hide_nil, hide_0, hide_d, hide_p, hide_o, wipeD_nil, wipeD_cons, gv_ok, gv_bad, gv_ret, gv_opt, gv_max2, gv_min2, gv_int, gv_ix0, gv_ix1, gv_ix2, gv_abs, pick_nil, pick_0, pick_1, pick_2, pick_3, pick_4, pick_5, gv_lenT0, gv_lenT1, gv_lenT2, gv_lenT3, gv_lenT4, gv_lenL0, gv_lenL1, gv_lenL2, gv_lenL3, gv_lenL4, gv_neS, gv_eqS, gv_rng1, gv_rng2, bnd62_of, rngL_len, big_of, gv_all2, gv_maxL2, gv_minL2, List.map_cons, List.map_nil, List.length_cons, List.length_nil, List.replicate, List.cons_append, List.nil_append, List.append_nil, List.getElem?_cons_zero, List.getElem?_cons_succ, List.set_cons_zero, List.set_cons_succ, Nat.reduceSub, Nat.reduceAdd, Nat.reduceMul, Nat.zero_add, Nat.add_zero, true_and, and_true, Int.reducePow, Int.reduceToNat, Int.reduceMul, Int.reduceAdd, Int.reduceSub, Int.reduceMod, Int.reduceNeg, Int.reduceLE, Int.reduceLT, Int.reduceEq, Nat.reduceLT, Nat.reduceLeDiff, Nat.reducePow, Int.reduceAbs, ne_eq, not_false_eq_true, not_true_eq_false, small_of, decide_true, decide_false, Bool.and_self, Bool.true_and, Bool.and_true, Bool.not_false, Bool.not_true, brK_t, brK_f, true_implies, false_implies, forall_const, implies_true, not_false_iff]
  refine rounded_down_ok h0 h1 h2 ?_
  simp only [gv_var, varK_d, potK_p, gv_op, opK1_a, opK2_a, gv_I, gv_eqI, gv_neI, gv_neg, negK_a, gv_bool, boolK_a, gv_not, notK_a, brK_t, brK_f, brK_d, brK_n, runP_a, ansP_a, gv_and, gv_or, gv_andV, gv_orV, blK_a, gv_notV, gv_ite, gv_if, gv_nil, gv_cons, consK1_a, consK2_a, mapK_a, gv_tup, gv_lst, optK_a, gv_B, gv_chn, chnK_a, gv_last, gv_link, linkK_a, gv_isi, isi_ii, isi_bi, isi_tt, isi_ll, isi_ss, isi_ti, isi_li, isi_si, isi_tl, isi_lt, isi_it, isi_il, isi_is, isi_bs, isi_ib, isi_bb, isi_st, isi_sl, gv_seq, sqK_n, sqK_r, sqK_b, sqK_c, gv_next, gv_brk, gv_cnt, gv_retN, gv_set, setK_a, gv_par, parK_2, parK_3, gv_asg, asgK_a, asgR_s, bindT_n, bindT_2, bindT_3, gv_retS, retK_a, gv_retO, retOK_a, gv_fn, fnK_n, fnK_r, gv_enil, gv_econs, ecK1_a, ecK2_a, gv_epot, epK_a, rdK_d, rdK_o, roK_o, gv_call, cK1_a, cK2_a, gv_callO, coK1_a, coK2_a, gv_potI, potI_0, potI_1, gv_potS, potSK_a, gv_potD, potDK_a, gv_rng, gv_seqI, seqOf_l, seqOf_t, gv_for, forK_a, gv_comp, compK_a, gv_comp0, cmpR_s, cmpK2_a, cmpK1_a, gv_comp1, gv_tt1, hide_nil, hide_0, hide_d, hide_p, hide_o, wipeD_nil, wipeD_cons, gv_ok, gv_bad, gv_ret, gv_opt, gv_max2, gv_min2, gv_int, gv_ix0, gv_ix1, gv_ix2, gv_abs, pick_nil, pick_0, pick_1, pick_2, pick_3, pick_4, pick_5, gv_lenT0, gv_lenT1, gv_lenT2, gv_lenT3, gv_lenT4, gv_lenL0, gv_lenL1, gv_lenL2, gv_lenL3, gv_lenL4, gv_neS, gv_eqS, gv_rng1, gv_rng2, bnd62_of, rngL_len, big_of, gv_all2, gv_maxL2, gv_minL2, List.map_cons, List.map_nil, List.length_cons, List.length_nil, List.replicate, List.cons_append, List.nil_append, List.append_nil, List.getElem?_cons_zero, List.getElem?_cons_succ, List.set_cons_zero, List.set_cons_succ, Nat.reduceSub, Nat.reduceAdd, Nat.reduceMul, Nat.zero_add, Nat.add_zero, true_and, and_true, Int.reducePow, Int.reduceToNat, Int.reduceMul, Int.reduceAdd, Int.reduceSub, Int.reduceMod, Int.reduceNeg, Int.reduceLE, Int.reduceLT, Int.reduceEq, Nat.reduceLT, Nat.reduceLeDiff, Nat.reducePow, Int.reduceAbs, ne_eq, not_false_eq_true, not_true_eq_false, small_of, decide_true, decide_false, Bool.and_self, Bool.true_and, Bool.and_true, Bool.not_false, Bool.not_true, brK_t, brK_f, true_implies, false_implies, forall_const, implies_true, not_false_iff]
  exact q
theorem checked_ok {θ : Pot} {a b : Int} {Q : Ret → Pot → Prop} (h1 : -1180591620717411303424 ≤ a) (h2 : b ≤ 1180591620717411303424) (q : Q (.d (.tup [.int a, .int b])) θ) : Gv (m_checked_ends [.dat (.int a), .dat (.int b)] θ) Q := by
  unfold m_checked_ends r_checked_ends
  have n1 : ¬ a < -1180591620717411303424 := by omega
  have n2 : ¬ 1180591620717411303424 < b := by omega
  simp only [gv_var, varK_d, potK_p, gv_op, opK1_a, opK2_a, gv_I, gv_eqI, gv_neI, gv_neg, negK_a, gv_bool, boolK_a, gv_not, notK_a, brK_t, brK_f, brK_d, brK_n, runP_a, ansP_a, gv_and, gv_or, gv_andV, gv_orV, blK_a, gv_notV, gv_ite, gv_if, gv_nil, gv_cons, consK1_a, consK2_a, mapK_a, gv_tup, gv_lst, optK_a, gv_B, gv_chn, chnK_a, gv_last, gv_link, linkK_a, gv_isi, isi_ii, isi_bi, isi_tt, isi_ll, isi_ss, isi_ti, isi_li, isi_si, isi_tl, isi_lt, isi_it, isi_il, isi_is, isi_bs, isi_ib, isi_bb, isi_st, isi_sl, gv_seq, sqK_n, sqK_r, sqK_b, sqK_c, gv_next, gv_brk, gv_cnt, gv_retN, gv_set, setK_a, gv_par, parK_2, parK_3, gv_asg, asgK_a, asgR_s, bindT_n, bindT_2, bindT_3, gv_retS, retK_a, gv_retO, retOK_a, gv_fn, fnK_n, fnK_r, gv_enil, gv_econs, ecK1_a, ecK2_a, gv_epot, epK_a, rdK_d, rdK_o, roK_o, gv_call, cK1_a, cK2_a, gv_callO, coK1_a, coK2_a, gv_potI, potI_0, potI_1, gv_potS, potSK_a, gv_potD, potDK_a, gv_rng, gv_seqI, seqOf_l, seqOf_t, gv_for, forK_a, gv_comp, compK_a, gv_comp0, cmpR_s, cmpK2_a, cmpK1_a, gv_comp1, gv_tt1, hide_nil, hide_0, hide_d, hide_p, hide_o, wipeD_nil, wipeD_cons, gv_ok, gv_bad, gv_ret, gv_opt, gv_max2, gv_min2, gv_int, gv_ix0, gv_ix1, gv_ix2, gv_abs, pick_nil, pick_0, pick_1, pick_2, pick_3, pick_4, pick_5, gv_lenT0, gv_lenT1, gv_lenT2, gv_lenT3, gv_lenT4, gv_lenL0, gv_lenL1, gv_lenL2, gv_lenL3, gv_lenL4, gv_neS, gv_eqS, gv_rng1, gv_rng2, bnd62_of, rngL_len, big_of, gv_all2, gv_maxL2, gv_minL2, List.map_cons, List.map_nil, List.length_cons, List.length_nil, List.replicate, List.cons_append, List.nil_append, List.append_nil, List.getElem?_cons_zero, List.getElem?_cons_succ, List.set_cons_zero, List.set_cons_succ, Nat.reduceSub, Nat.reduceAdd, Nat.reduceMul, Nat.zero_add, Nat.add_zero, true_and, and_true, Int.reducePow, Int.reduceToNat, Int.reduceMul, Int.reduceAdd, Int.reduceSub, Int.reduceMod, Int.reduceNeg, Int.reduceLE, Int.reduceLT, Int.reduceEq, Nat.reduceLT, Nat.reduceLeDiff, Nat.reducePow, Int.reduceAbs, ne_eq, not_false_eq_true, not_true_eq_false, small_of, decide_true, decide_false, Bool.and_self, Bool.true_and, Bool.and_true, Bool.not_false, Bool.not_true, brK_t, brK_f, true_implies, false_implies, forall_const, implies_true, not_false_iff, n1, n2]
  exact q
def ru (a : Int) : Int := 0 - rd (0 - 1208925819614629174706176) a
theorem over_of_ok {θ : Pot} {a b : Int} {Q : Ret → Pot → Prop} (hs : 1024 ≤ a ∨ b ≤ -1024) (hab : a ≤ b) (h1 : -1180591620717411303424 ≤ a) (h2 : b ≤ 1180591620717411303424) (c1 : -1180591620717411303424 ≤ rd 1208925819614629174706176 b) (c2 : ru a ≤ 1180591620717411303424) (q : Q (.d (.tup [.int (rd 1208925819614629174706176 b), .int (ru a)])) θ) : Gv (m_over_of [.dat (.tup [.int a, .int b])] θ) Q := by
  unfold m_over_of r_over_of
  simp only [gv_var, varK_d, potK_p, gv_op, opK1_a, opK2_a, gv_I, gv_eqI, gv_neI, gv_neg, negK_a, gv_bool, boolK_a, gv_not, notK_a, brK_t, brK_f, brK_d, brK_n, runP_a, ansP_a, gv_and, gv_or, gv_andV, gv_orV, blK_a, gv_notV, gv_ite, gv_if, gv_nil, gv_cons, consK1_a, consK2_a, mapK_a, gv_tup, gv_lst, optK_a, gv_B, gv_chn, chnK_a, gv_last, gv_link, linkK_a, gv_isi, isi_ii, isi_bi, isi_tt, isi_ll, isi_ss, isi_ti, isi_li, isi_si, isi_tl, isi_lt, isi_it, isi_il, isi_is, isi_bs, isi_ib, isi_bb, isi_st, isi_sl, gv_seq, sqK_n, sqK_r, sqK_b, sqK_c, gv_next, gv_brk, gv_cnt, gv_retN, gv_set, setK_a, gv_par, parK_2, parK_3, gv_asg, asgK_a, asgR_s, bindT_n, bindT_2, bindT_3, gv_retS, retK_a, gv_retO, retOK_a, gv_fn, fnK_n, fnK_r, gv_enil, gv_econs, ecK1_a, ecK2_a, gv_epot, epK_a, rdK_d, rdK_o, roK_o, gv_call, cK1_a, cK2_a, gv_callO, coK1_a, coK2_a, gv_potI, potI_0, potI_1, gv_potS, potSK_a, gv_potD, potDK_a, gv_rng, gv_seqI, seqOf_l, seqOf_t, gv_for, forK_a, gv_comp, compK_a, gv_comp0, cmpR_s, cmpK2_a, cmpK1_a, gv_comp1, gv_tt1, hide_nil, hide_0, hide_d, hide_p, hide_o, wipeD_nil, wipeD_cons, gv_ok, gv_bad, gv_ret, gv_opt, gv_max2, gv_min2, gv_int, gv_ix0, gv_ix1, gv_ix2, gv_abs, pick_nil, pick_0, pick_1, pick_2, pick_3, pick_4, pick_5, gv_lenT0, gv_lenT1, gv_lenT2, gv_lenT3, gv_lenT4, gv_lenL0, gv_lenL1, gv_lenL2, gv_lenL3, gv_lenL4, gv_neS, gv_eqS, gv_rng1, gv_rng2, bnd62_of, rngL_len, big_of, gv_all2, gv_maxL2, gv_minL2, List.map_cons, List.map_nil, List.length_cons, List.length_nil, List.replicate, List.cons_append, List.nil_append, List.append_nil, List.getElem?_cons_zero, List.getElem?_cons_succ, List.set_cons_zero, List.set_cons_succ, Nat.reduceSub, Nat.reduceAdd, Nat.reduceMul, Nat.zero_add, Nat.add_zero, true_and, and_true, Int.reducePow, Int.reduceToNat, Int.reduceMul, Int.reduceAdd, Int.reduceSub, Int.reduceMod, Int.reduceNeg, Int.reduceLE, Int.reduceLT, Int.reduceEq, Nat.reduceLT, Nat.reduceLeDiff, Nat.reducePow, Int.reduceAbs, ne_eq, not_false_eq_true, not_true_eq_false, small_of, decide_true, decide_false, Bool.and_self, Bool.true_and, Bool.and_true, Bool.not_false, Bool.not_true, brK_t, brK_f, true_implies, false_implies, forall_const, implies_true, not_false_iff]
  refine want_ok h1 hab h2 ?_
  simp only [gv_var, varK_d, potK_p, gv_op, opK1_a, opK2_a, gv_I, gv_eqI, gv_neI, gv_neg, negK_a, gv_bool, boolK_a, gv_not, notK_a, brK_t, brK_f, brK_d, brK_n, runP_a, ansP_a, gv_and, gv_or, gv_andV, gv_orV, blK_a, gv_notV, gv_ite, gv_if, gv_nil, gv_cons, consK1_a, consK2_a, mapK_a, gv_tup, gv_lst, optK_a, gv_B, gv_chn, chnK_a, gv_last, gv_link, linkK_a, gv_isi, isi_ii, isi_bi, isi_tt, isi_ll, isi_ss, isi_ti, isi_li, isi_si, isi_tl, isi_lt, isi_it, isi_il, isi_is, isi_bs, isi_ib, isi_bb, isi_st, isi_sl, gv_seq, sqK_n, sqK_r, sqK_b, sqK_c, gv_next, gv_brk, gv_cnt, gv_retN, gv_set, setK_a, gv_par, parK_2, parK_3, gv_asg, asgK_a, asgR_s, bindT_n, bindT_2, bindT_3, gv_retS, retK_a, gv_retO, retOK_a, gv_fn, fnK_n, fnK_r, gv_enil, gv_econs, ecK1_a, ecK2_a, gv_epot, epK_a, rdK_d, rdK_o, roK_o, gv_call, cK1_a, cK2_a, gv_callO, coK1_a, coK2_a, gv_potI, potI_0, potI_1, gv_potS, potSK_a, gv_potD, potDK_a, gv_rng, gv_seqI, seqOf_l, seqOf_t, gv_for, forK_a, gv_comp, compK_a, gv_comp0, cmpR_s, cmpK2_a, cmpK1_a, gv_comp1, gv_tt1, hide_nil, hide_0, hide_d, hide_p, hide_o, wipeD_nil, wipeD_cons, gv_ok, gv_bad, gv_ret, gv_opt, gv_max2, gv_min2, gv_int, gv_ix0, gv_ix1, gv_ix2, gv_abs, pick_nil, pick_0, pick_1, pick_2, pick_3, pick_4, pick_5, gv_lenT0, gv_lenT1, gv_lenT2, gv_lenT3, gv_lenT4, gv_lenL0, gv_lenL1, gv_lenL2, gv_lenL3, gv_lenL4, gv_neS, gv_eqS, gv_rng1, gv_rng2, bnd62_of, rngL_len, big_of, gv_all2, gv_maxL2, gv_minL2, List.map_cons, List.map_nil, List.length_cons, List.length_nil, List.replicate, List.cons_append, List.nil_append, List.append_nil, List.getElem?_cons_zero, List.getElem?_cons_succ, List.set_cons_zero, List.set_cons_succ, Nat.reduceSub, Nat.reduceAdd, Nat.reduceMul, Nat.zero_add, Nat.add_zero, true_and, and_true, Int.reducePow, Int.reduceToNat, Int.reduceMul, Int.reduceAdd, Int.reduceSub, Int.reduceMod, Int.reduceNeg, Int.reduceLE, Int.reduceLT, Int.reduceEq, Nat.reduceLT, Nat.reduceLeDiff, Nat.reducePow, Int.reduceAbs, ne_eq, not_false_eq_true, not_true_eq_false, small_of, decide_true, decide_false, Bool.and_self, Bool.true_and, Bool.and_true, Bool.not_false, Bool.not_true, brK_t, brK_f, true_implies, false_implies, forall_const, implies_true, not_false_iff]
  unfold m_over_at r_over_at
  simp only [gv_var, varK_d, potK_p, gv_op, opK1_a, opK2_a, gv_I, gv_eqI, gv_neI, gv_neg, negK_a, gv_bool, boolK_a, gv_not, notK_a, brK_t, brK_f, brK_d, brK_n, runP_a, ansP_a, gv_and, gv_or, gv_andV, gv_orV, blK_a, gv_notV, gv_ite, gv_if, gv_nil, gv_cons, consK1_a, consK2_a, mapK_a, gv_tup, gv_lst, optK_a, gv_B, gv_chn, chnK_a, gv_last, gv_link, linkK_a, gv_isi, isi_ii, isi_bi, isi_tt, isi_ll, isi_ss, isi_ti, isi_li, isi_si, isi_tl, isi_lt, isi_it, isi_il, isi_is, isi_bs, isi_ib, isi_bb, isi_st, isi_sl, gv_seq, sqK_n, sqK_r, sqK_b, sqK_c, gv_next, gv_brk, gv_cnt, gv_retN, gv_set, setK_a, gv_par, parK_2, parK_3, gv_asg, asgK_a, asgR_s, bindT_n, bindT_2, bindT_3, gv_retS, retK_a, gv_retO, retOK_a, gv_fn, fnK_n, fnK_r, gv_enil, gv_econs, ecK1_a, ecK2_a, gv_epot, epK_a, rdK_d, rdK_o, roK_o, gv_call, cK1_a, cK2_a, gv_callO, coK1_a, coK2_a, gv_potI, potI_0, potI_1, gv_potS, potSK_a, gv_potD, potDK_a, gv_rng, gv_seqI, seqOf_l, seqOf_t, gv_for, forK_a, gv_comp, compK_a, gv_comp0, cmpR_s, cmpK2_a, cmpK1_a, gv_comp1, gv_tt1, hide_nil, hide_0, hide_d, hide_p, hide_o, wipeD_nil, wipeD_cons, gv_ok, gv_bad, gv_ret, gv_opt, gv_max2, gv_min2, gv_int, gv_ix0, gv_ix1, gv_ix2, gv_abs, pick_nil, pick_0, pick_1, pick_2, pick_3, pick_4, pick_5, gv_lenT0, gv_lenT1, gv_lenT2, gv_lenT3, gv_lenT4, gv_lenL0, gv_lenL1, gv_lenL2, gv_lenL3, gv_lenL4, gv_neS, gv_eqS, gv_rng1, gv_rng2, bnd62_of, rngL_len, big_of, gv_all2, gv_maxL2, gv_minL2, List.map_cons, List.map_nil, List.length_cons, List.length_nil, List.replicate, List.cons_append, List.nil_append, List.append_nil, List.getElem?_cons_zero, List.getElem?_cons_succ, List.set_cons_zero, List.set_cons_succ, Nat.reduceSub, Nat.reduceAdd, Nat.reduceMul, Nat.zero_add, Nat.add_zero, true_and, and_true, Int.reducePow, Int.reduceToNat, Int.reduceMul, Int.reduceAdd, Int.reduceSub, Int.reduceMod, Int.reduceNeg, Int.reduceLE, Int.reduceLT, Int.reduceEq, Nat.reduceLT, Nat.reduceLeDiff, Nat.reducePow, Int.reduceAbs, ne_eq, not_false_eq_true, not_true_eq_false, small_of, decide_true, decide_false, Bool.and_self, Bool.true_and, Bool.and_true, Bool.not_false, Bool.not_true, brK_t, brK_f, true_implies, false_implies, forall_const, implies_true, not_false_iff]
  have fin : Gv (m_rounded_down [.dat (.int 1208925819614629174706176), .dat (.int b)] θ) fun r θ1 => r = .d (.int (rd 1208925819614629174706176 b)) ∧ θ1 = θ := rounded_down_ok (by omega) (by omega) (by omega) ⟨rfl, rfl⟩
  refine ⟨fun k1 => ⟨fun k2 => ?_, fun k2 => ?_⟩, fun k1 => ?_⟩
  · omega
  · refine rounded_down_ok (by omega) (by omega) (by omega) ?_
    simp only [gv_var, varK_d, potK_p, gv_op, opK1_a, opK2_a, gv_I, gv_eqI, gv_neI, gv_neg, negK_a, gv_bool, boolK_a, gv_not, notK_a, brK_t, brK_f, brK_d, brK_n, runP_a, ansP_a, gv_and, gv_or, gv_andV, gv_orV, blK_a, gv_notV, gv_ite, gv_if, gv_nil, gv_cons, consK1_a, consK2_a, mapK_a, gv_tup, gv_lst, optK_a, gv_B, gv_chn, chnK_a, gv_last, gv_link, linkK_a, gv_isi, isi_ii, isi_bi, isi_tt, isi_ll, isi_ss, isi_ti, isi_li, isi_si, isi_tl, isi_lt, isi_it, isi_il, isi_is, isi_bs, isi_ib, isi_bb, isi_st, isi_sl, gv_seq, sqK_n, sqK_r, sqK_b, sqK_c, gv_next, gv_brk, gv_cnt, gv_retN, gv_set, setK_a, gv_par, parK_2, parK_3, gv_asg, asgK_a, asgR_s, bindT_n, bindT_2, bindT_3, gv_retS, retK_a, gv_retO, retOK_a, gv_fn, fnK_n, fnK_r, gv_enil, gv_econs, ecK1_a, ecK2_a, gv_epot, epK_a, rdK_d, rdK_o, roK_o, gv_call, cK1_a, cK2_a, gv_callO, coK1_a, coK2_a, gv_potI, potI_0, potI_1, gv_potS, potSK_a, gv_potD, potDK_a, gv_rng, gv_seqI, seqOf_l, seqOf_t, gv_for, forK_a, gv_comp, compK_a, gv_comp0, cmpR_s, cmpK2_a, cmpK1_a, gv_comp1, gv_tt1, hide_nil, hide_0, hide_d, hide_p, hide_o, wipeD_nil, wipeD_cons, gv_ok, gv_bad, gv_ret, gv_opt, gv_max2, gv_min2, gv_int, gv_ix0, gv_ix1, gv_ix2, gv_abs, pick_nil, pick_0, pick_1, pick_2, pick_3, pick_4, pick_5, gv_lenT0, gv_lenT1, gv_lenT2, gv_lenT3, gv_lenT4, gv_lenL0, gv_lenL1, gv_lenL2, gv_lenL3, gv_lenL4, gv_neS, gv_eqS, gv_rng1, gv_rng2, bnd62_of, rngL_len, big_of, gv_all2, gv_maxL2, gv_minL2, List.map_cons, List.map_nil, List.length_cons, List.length_nil, List.replicate, List.cons_append, List.nil_append, List.append_nil, List.getElem?_cons_zero, List.getElem?_cons_succ, List.set_cons_zero, List.set_cons_succ, Nat.reduceSub, Nat.reduceAdd, Nat.reduceMul, Nat.zero_add, Nat.add_zero, true_and, and_true, Int.reducePow, Int.reduceToNat, Int.reduceMul, Int.reduceAdd, Int.reduceSub, Int.reduceMod, Int.reduceNeg, Int.reduceLE, Int.reduceLT, Int.reduceEq, Nat.reduceLT, Nat.reduceLeDiff, Nat.reducePow, Int.reduceAbs, ne_eq, not_false_eq_true, not_true_eq_false, small_of, decide_true, decide_false, Bool.and_self, Bool.true_and, Bool.and_true, Bool.not_false, Bool.not_true, brK_t, brK_f, true_implies, false_implies, forall_const, implies_true, not_false_iff]
    refine rounded_up_ok (by omega) (by omega) (by omega) ?_
    simp only [gv_var, varK_d, potK_p, gv_op, opK1_a, opK2_a, gv_I, gv_eqI, gv_neI, gv_neg, negK_a, gv_bool, boolK_a, gv_not, notK_a, brK_t, brK_f, brK_d, brK_n, runP_a, ansP_a, gv_and, gv_or, gv_andV, gv_orV, blK_a, gv_notV, gv_ite, gv_if, gv_nil, gv_cons, consK1_a, consK2_a, mapK_a, gv_tup, gv_lst, optK_a, gv_B, gv_chn, chnK_a, gv_last, gv_link, linkK_a, gv_isi, isi_ii, isi_bi, isi_tt, isi_ll, isi_ss, isi_ti, isi_li, isi_si, isi_tl, isi_lt, isi_it, isi_il, isi_is, isi_bs, isi_ib, isi_bb, isi_st, isi_sl, gv_seq, sqK_n, sqK_r, sqK_b, sqK_c, gv_next, gv_brk, gv_cnt, gv_retN, gv_set, setK_a, gv_par, parK_2, parK_3, gv_asg, asgK_a, asgR_s, bindT_n, bindT_2, bindT_3, gv_retS, retK_a, gv_retO, retOK_a, gv_fn, fnK_n, fnK_r, gv_enil, gv_econs, ecK1_a, ecK2_a, gv_epot, epK_a, rdK_d, rdK_o, roK_o, gv_call, cK1_a, cK2_a, gv_callO, coK1_a, coK2_a, gv_potI, potI_0, potI_1, gv_potS, potSK_a, gv_potD, potDK_a, gv_rng, gv_seqI, seqOf_l, seqOf_t, gv_for, forK_a, gv_comp, compK_a, gv_comp0, cmpR_s, cmpK2_a, cmpK1_a, gv_comp1, gv_tt1, hide_nil, hide_0, hide_d, hide_p, hide_o, wipeD_nil, wipeD_cons, gv_ok, gv_bad, gv_ret, gv_opt, gv_max2, gv_min2, gv_int, gv_ix0, gv_ix1, gv_ix2, gv_abs, pick_nil, pick_0, pick_1, pick_2, pick_3, pick_4, pick_5, gv_lenT0, gv_lenT1, gv_lenT2, gv_lenT3, gv_lenT4, gv_lenL0, gv_lenL1, gv_lenL2, gv_lenL3, gv_lenL4, gv_neS, gv_eqS, gv_rng1, gv_rng2, bnd62_of, rngL_len, big_of, gv_all2, gv_maxL2, gv_minL2, List.map_cons, List.map_nil, List.length_cons, List.length_nil, List.replicate, List.cons_append, List.nil_append, List.append_nil, List.getElem?_cons_zero, List.getElem?_cons_succ, List.set_cons_zero, List.set_cons_succ, Nat.reduceSub, Nat.reduceAdd, Nat.reduceMul, Nat.zero_add, Nat.add_zero, true_and, and_true, Int.reducePow, Int.reduceToNat, Int.reduceMul, Int.reduceAdd, Int.reduceSub, Int.reduceMod, Int.reduceNeg, Int.reduceLE, Int.reduceLT, Int.reduceEq, Nat.reduceLT, Nat.reduceLeDiff, Nat.reducePow, Int.reduceAbs, ne_eq, not_false_eq_true, not_true_eq_false, small_of, decide_true, decide_false, Bool.and_self, Bool.true_and, Bool.and_true, Bool.not_false, Bool.not_true, brK_t, brK_f, true_implies, false_implies, forall_const, implies_true, not_false_iff]
    refine checked_ok c1 c2 ?_
    simp only [gv_var, varK_d, potK_p, gv_op, opK1_a, opK2_a, gv_I, gv_eqI, gv_neI, gv_neg, negK_a, gv_bool, boolK_a, gv_not, notK_a, brK_t, brK_f, brK_d, brK_n, runP_a, ansP_a, gv_and, gv_or, gv_andV, gv_orV, blK_a, gv_notV, gv_ite, gv_if, gv_nil, gv_cons, consK1_a, consK2_a, mapK_a, gv_tup, gv_lst, optK_a, gv_B, gv_chn, chnK_a, gv_last, gv_link, linkK_a, gv_isi, isi_ii, isi_bi, isi_tt, isi_ll, isi_ss, isi_ti, isi_li, isi_si, isi_tl, isi_lt, isi_it, isi_il, isi_is, isi_bs, isi_ib, isi_bb, isi_st, isi_sl, gv_seq, sqK_n, sqK_r, sqK_b, sqK_c, gv_next, gv_brk, gv_cnt, gv_retN, gv_set, setK_a, gv_par, parK_2, parK_3, gv_asg, asgK_a, asgR_s, bindT_n, bindT_2, bindT_3, gv_retS, retK_a, gv_retO, retOK_a, gv_fn, fnK_n, fnK_r, gv_enil, gv_econs, ecK1_a, ecK2_a, gv_epot, epK_a, rdK_d, rdK_o, roK_o, gv_call, cK1_a, cK2_a, gv_callO, coK1_a, coK2_a, gv_potI, potI_0, potI_1, gv_potS, potSK_a, gv_potD, potDK_a, gv_rng, gv_seqI, seqOf_l, seqOf_t, gv_for, forK_a, gv_comp, compK_a, gv_comp0, cmpR_s, cmpK2_a, cmpK1_a, gv_comp1, gv_tt1, hide_nil, hide_0, hide_d, hide_p, hide_o, wipeD_nil, wipeD_cons, gv_ok, gv_bad, gv_ret, gv_opt, gv_max2, gv_min2, gv_int, gv_ix0, gv_ix1, gv_ix2, gv_abs, pick_nil, pick_0, pick_1, pick_2, pick_3, pick_4, pick_5, gv_lenT0, gv_lenT1, gv_lenT2, gv_lenT3, gv_lenT4, gv_lenL0, gv_lenL1, gv_lenL2, gv_lenL3, gv_lenL4, gv_neS, gv_eqS, gv_rng1, gv_rng2, bnd62_of, rngL_len, big_of, gv_all2, gv_maxL2, gv_minL2, List.map_cons, List.map_nil, List.length_cons, List.length_nil, List.replicate, List.cons_append, List.nil_append, List.append_nil, List.getElem?_cons_zero, List.getElem?_cons_succ, List.set_cons_zero, List.set_cons_succ, Nat.reduceSub, Nat.reduceAdd, Nat.reduceMul, Nat.zero_add, Nat.add_zero, true_and, and_true, Int.reducePow, Int.reduceToNat, Int.reduceMul, Int.reduceAdd, Int.reduceSub, Int.reduceMod, Int.reduceNeg, Int.reduceLE, Int.reduceLT, Int.reduceEq, Nat.reduceLT, Nat.reduceLeDiff, Nat.reducePow, Int.reduceAbs, ne_eq, not_false_eq_true, not_true_eq_false, small_of, decide_true, decide_false, Bool.and_self, Bool.true_and, Bool.and_true, Bool.not_false, Bool.not_true, brK_t, brK_f, true_implies, false_implies, forall_const, implies_true, not_false_iff]
    exact q
  · refine rounded_down_ok (by omega) (by omega) (by omega) ?_
    simp only [gv_var, varK_d, potK_p, gv_op, opK1_a, opK2_a, gv_I, gv_eqI, gv_neI, gv_neg, negK_a, gv_bool, boolK_a, gv_not, notK_a, brK_t, brK_f, brK_d, brK_n, runP_a, ansP_a, gv_and, gv_or, gv_andV, gv_orV, blK_a, gv_notV, gv_ite, gv_if, gv_nil, gv_cons, consK1_a, consK2_a, mapK_a, gv_tup, gv_lst, optK_a, gv_B, gv_chn, chnK_a, gv_last, gv_link, linkK_a, gv_isi, isi_ii, isi_bi, isi_tt, isi_ll, isi_ss, isi_ti, isi_li, isi_si, isi_tl, isi_lt, isi_it, isi_il, isi_is, isi_bs, isi_ib, isi_bb, isi_st, isi_sl, gv_seq, sqK_n, sqK_r, sqK_b, sqK_c, gv_next, gv_brk, gv_cnt, gv_retN, gv_set, setK_a, gv_par, parK_2, parK_3, gv_asg, asgK_a, asgR_s, bindT_n, bindT_2, bindT_3, gv_retS, retK_a, gv_retO, retOK_a, gv_fn, fnK_n, fnK_r, gv_enil, gv_econs, ecK1_a, ecK2_a, gv_epot, epK_a, rdK_d, rdK_o, roK_o, gv_call, cK1_a, cK2_a, gv_callO, coK1_a, coK2_a, gv_potI, potI_0, potI_1, gv_potS, potSK_a, gv_potD, potDK_a, gv_rng, gv_seqI, seqOf_l, seqOf_t, gv_for, forK_a, gv_comp, compK_a, gv_comp0, cmpR_s, cmpK2_a, cmpK1_a, gv_comp1, gv_tt1, hide_nil, hide_0, hide_d, hide_p, hide_o, wipeD_nil, wipeD_cons, gv_ok, gv_bad, gv_ret, gv_opt, gv_max2, gv_min2, gv_int, gv_ix0, gv_ix1, gv_ix2, gv_abs, pick_nil, pick_0, pick_1, pick_2, pick_3, pick_4, pick_5, gv_lenT0, gv_lenT1, gv_lenT2, gv_lenT3, gv_lenT4, gv_lenL0, gv_lenL1, gv_lenL2, gv_lenL3, gv_lenL4, gv_neS, gv_eqS, gv_rng1, gv_rng2, bnd62_of, rngL_len, big_of, gv_all2, gv_maxL2, gv_minL2, List.map_cons, List.map_nil, List.length_cons, List.length_nil, List.replicate, List.cons_append, List.nil_append, List.append_nil, List.getElem?_cons_zero, List.getElem?_cons_succ, List.set_cons_zero, List.set_cons_succ, Nat.reduceSub, Nat.reduceAdd, Nat.reduceMul, Nat.zero_add, Nat.add_zero, true_and, and_true, Int.reducePow, Int.reduceToNat, Int.reduceMul, Int.reduceAdd, Int.reduceSub, Int.reduceMod, Int.reduceNeg, Int.reduceLE, Int.reduceLT, Int.reduceEq, Nat.reduceLT, Nat.reduceLeDiff, Nat.reducePow, Int.reduceAbs, ne_eq, not_false_eq_true, not_true_eq_false, small_of, decide_true, decide_false, Bool.and_self, Bool.true_and, Bool.and_true, Bool.not_false, Bool.not_true, brK_t, brK_f, true_implies, false_implies, forall_const, implies_true, not_false_iff]
    refine rounded_up_ok (by omega) (by omega) (by omega) ?_
    simp only [gv_var, varK_d, potK_p, gv_op, opK1_a, opK2_a, gv_I, gv_eqI, gv_neI, gv_neg, negK_a, gv_bool, boolK_a, gv_not, notK_a, brK_t, brK_f, brK_d, brK_n, runP_a, ansP_a, gv_and, gv_or, gv_andV, gv_orV, blK_a, gv_notV, gv_ite, gv_if, gv_nil, gv_cons, consK1_a, consK2_a, mapK_a, gv_tup, gv_lst, optK_a, gv_B, gv_chn, chnK_a, gv_last, gv_link, linkK_a, gv_isi, isi_ii, isi_bi, isi_tt, isi_ll, isi_ss, isi_ti, isi_li, isi_si, isi_tl, isi_lt, isi_it, isi_il, isi_is, isi_bs, isi_ib, isi_bb, isi_st, isi_sl, gv_seq, sqK_n, sqK_r, sqK_b, sqK_c, gv_next, gv_brk, gv_cnt, gv_retN, gv_set, setK_a, gv_par, parK_2, parK_3, gv_asg, asgK_a, asgR_s, bindT_n, bindT_2, bindT_3, gv_retS, retK_a, gv_retO, retOK_a, gv_fn, fnK_n, fnK_r, gv_enil, gv_econs, ecK1_a, ecK2_a, gv_epot, epK_a, rdK_d, rdK_o, roK_o, gv_call, cK1_a, cK2_a, gv_callO, coK1_a, coK2_a, gv_potI, potI_0, potI_1, gv_potS, potSK_a, gv_potD, potDK_a, gv_rng, gv_seqI, seqOf_l, seqOf_t, gv_for, forK_a, gv_comp, compK_a, gv_comp0, cmpR_s, cmpK2_a, cmpK1_a, gv_comp1, gv_tt1, hide_nil, hide_0, hide_d, hide_p, hide_o, wipeD_nil, wipeD_cons, gv_ok, gv_bad, gv_ret, gv_opt, gv_max2, gv_min2, gv_int, gv_ix0, gv_ix1, gv_ix2, gv_abs, pick_nil, pick_0, pick_1, pick_2, pick_3, pick_4, pick_5, gv_lenT0, gv_lenT1, gv_lenT2, gv_lenT3, gv_lenT4, gv_lenL0, gv_lenL1, gv_lenL2, gv_lenL3, gv_lenL4, gv_neS, gv_eqS, gv_rng1, gv_rng2, bnd62_of, rngL_len, big_of, gv_all2, gv_maxL2, gv_minL2, List.map_cons, List.map_nil, List.length_cons, List.length_nil, List.replicate, List.cons_append, List.nil_append, List.append_nil, List.getElem?_cons_zero, List.getElem?_cons_succ, List.set_cons_zero, List.set_cons_succ, Nat.reduceSub, Nat.reduceAdd, Nat.reduceMul, Nat.zero_add, Nat.add_zero, true_and, and_true, Int.reducePow, Int.reduceToNat, Int.reduceMul, Int.reduceAdd, Int.reduceSub, Int.reduceMod, Int.reduceNeg, Int.reduceLE, Int.reduceLT, Int.reduceEq, Nat.reduceLT, Nat.reduceLeDiff, Nat.reducePow, Int.reduceAbs, ne_eq, not_false_eq_true, not_true_eq_false, small_of, decide_true, decide_false, Bool.and_self, Bool.true_and, Bool.and_true, Bool.not_false, Bool.not_true, brK_t, brK_f, true_implies, false_implies, forall_const, implies_true, not_false_iff]
    refine checked_ok c1 c2 ?_
    simp only [gv_var, varK_d, potK_p, gv_op, opK1_a, opK2_a, gv_I, gv_eqI, gv_neI, gv_neg, negK_a, gv_bool, boolK_a, gv_not, notK_a, brK_t, brK_f, brK_d, brK_n, runP_a, ansP_a, gv_and, gv_or, gv_andV, gv_orV, blK_a, gv_notV, gv_ite, gv_if, gv_nil, gv_cons, consK1_a, consK2_a, mapK_a, gv_tup, gv_lst, optK_a, gv_B, gv_chn, chnK_a, gv_last, gv_link, linkK_a, gv_isi, isi_ii, isi_bi, isi_tt, isi_ll, isi_ss, isi_ti, isi_li, isi_si, isi_tl, isi_lt, isi_it, isi_il, isi_is, isi_bs, isi_ib, isi_bb, isi_st, isi_sl, gv_seq, sqK_n, sqK_r, sqK_b, sqK_c, gv_next, gv_brk, gv_cnt, gv_retN, gv_set, setK_a, gv_par, parK_2, parK_3, gv_asg, asgK_a, asgR_s, bindT_n, bindT_2, bindT_3, gv_retS, retK_a, gv_retO, retOK_a, gv_fn, fnK_n, fnK_r, gv_enil, gv_econs, ecK1_a, ecK2_a, gv_epot, epK_a, rdK_d, rdK_o, roK_o, gv_call, cK1_a, cK2_a, gv_callO, coK1_a, coK2_a, gv_potI, potI_0, potI_1, gv_potS, potSK_a, gv_potD, potDK_a, gv_rng, gv_seqI, seqOf_l, seqOf_t, gv_for, forK_a, gv_comp, compK_a, gv_comp0, cmpR_s, cmpK2_a, cmpK1_a, gv_comp1, gv_tt1, hide_nil, hide_0, hide_d, hide_p, hide_o, wipeD_nil, wipeD_cons, gv_ok, gv_bad, gv_ret, gv_opt, gv_max2, gv_min2, gv_int, gv_ix0, gv_ix1, gv_ix2, gv_abs, pick_nil, pick_0, pick_1, pick_2, pick_3, pick_4, pick_5, gv_lenT0, gv_lenT1, gv_lenT2, gv_lenT3, gv_lenT4, gv_lenL0, gv_lenL1, gv_lenL2, gv_lenL3, gv_lenL4, gv_neS, gv_eqS, gv_rng1, gv_rng2, bnd62_of, rngL_len, big_of, gv_all2, gv_maxL2, gv_minL2, List.map_cons, List.map_nil, List.length_cons, List.length_nil, List.replicate, List.cons_append, List.nil_append, List.append_nil, List.getElem?_cons_zero, List.getElem?_cons_succ, List.set_cons_zero, List.set_cons_succ, Nat.reduceSub, Nat.reduceAdd, Nat.reduceMul, Nat.zero_add, Nat.add_zero, true_and, and_true, Int.reducePow, Int.reduceToNat, Int.reduceMul, Int.reduceAdd, Int.reduceSub, Int.reduceMod, Int.reduceNeg, Int.reduceLE, Int.reduceLT, Int.reduceEq, Nat.reduceLT, Nat.reduceLeDiff, Nat.reducePow, Int.reduceAbs, ne_eq, not_false_eq_true, not_true_eq_false, small_of, decide_true, decide_false, Bool.and_self, Bool.true_and, Bool.and_true, Bool.not_false, Bool.not_true, brK_t, brK_f, true_implies, false_implies, forall_const, implies_true, not_false_iff]
    exact q
theorem dv_mono {x a b : Int} (h : 0 < a) (hab : a ≤ b) (hx : 0 ≤ x) : x / b ≤ x / a := by
  refine Int.le_ediv_of_mul_le h ?_
  have h1 : 0 ≤ x / b := Int.ediv_nonneg hx (by omega)
  have h2 : x / b * a ≤ x / b * b := Int.mul_le_mul_of_nonneg_left hab h1
  have h3 : x / b * b ≤ x := Int.ediv_mul_le x (by omega)
  omega
theorem dn_mono {x a b : Int} (h : 0 < a) (hab : a ≤ b) (hx : x ≤ 0) : x / a ≤ x / b := by
  refine Int.le_ediv_of_mul_le (by omega) ?_
  have h0 : x / a ≤ 0 := by
    have := Int.ediv_le_ediv h hx
    rw [Int.zero_ediv] at this
    exact this
  have h2 : x / a * b ≤ x / a * a := by
    have := Int.mul_le_mul_of_nonneg_left hab (show 0 ≤ -(x / a) by omega)
    rw [Int.neg_mul, Int.neg_mul] at this
    omega
  have h3 : x / a * a ≤ x := Int.ediv_mul_le x (by omega)
  omega
/-- floor, ceiling of 1208925819614629174706176 over positives -/
theorem up_ge {a : Int} (h : 0 < a) : 1208925819614629174706176 ≤ -((-1208925819614629174706176) / a) * a := by
  have h3 : (-1208925819614629174706176) / a * a ≤ -1208925819614629174706176 := Int.ediv_mul_le _ (by omega)
  rw [Int.neg_mul]
  omega
theorem up_le {a : Int} (h : 1024 ≤ a) : -1180591620717411303424 ≤ (-1208925819614629174706176) / a ∧ (-1208925819614629174706176) / a ≤ 0 ∧ 0 ≤ 1208925819614629174706176 / a ∧ 1208925819614629174706176 / a ≤ 1180591620717411303424 := by
  refine ⟨Int.le_ediv_of_mul_le (by omega) (by omega), ?_, Int.ediv_nonneg (by omega) (by omega), ?_⟩
  · have := Int.ediv_le_ediv (show 0 < a by omega) (show -1208925819614629174706176 ≤ (0 : Int) by omega)
    rw [Int.zero_ediv] at this
    exact this
  · exact Int.ediv_le_of_le_mul (by omega) (by omega)
theorem fl_up {a : Int} (h : 0 < a) : 1208925819614629174706176 / a ≤ -((-1208925819614629174706176) / a) := by
  have h1 := up_ge h
  have h2 : 1208925819614629174706176 / a * a ≤ 1208925819614629174706176 := Int.ediv_mul_le _ (by omega)
  exact Int.le_of_mul_le_mul_right (Int.le_trans h2 h1) h
theorem over_facts {a b : Int} (hs : 1024 ≤ a ∨ b ≤ -1024) (hab : a ≤ b) : -1180591620717411303424 ≤ rd 1208925819614629174706176 b ∧ ru a ≤ 1180591620717411303424 ∧ rd 1208925819614629174706176 b ≤ ru a := by
  unfold ru
  rcases hs with h | h
  · rw [rd_pos (show 0 < b by omega), rd_pos (show 0 < a by omega)]
    have e : (0 : Int) - 1208925819614629174706176 = -1208925819614629174706176 := by decide
    rw [e]
    have h1 := up_le h
    have h2 := up_le (a := b) (by omega)
    have h3 := dv_mono (x := 1208925819614629174706176) (show 0 < a by omega) hab (by decide)
    have h4 := fl_up (show 0 < a by omega)
    omega
  · rw [rd_neg (show b < 0 by omega), rd_neg (show a < 0 by omega)]
    have e : (0 : Int) - 1208925819614629174706176 = -1208925819614629174706176 := by decide
    have e2 : (0 : Int) - -1208925819614629174706176 = 1208925819614629174706176 := by decide
    rw [e, e2]
    have h1 := up_le (a := 0 - b) (by omega)
    have h2 := up_le (a := 0 - a) (by omega)
    have h3 := dv_mono (x := 1208925819614629174706176) (show 0 < 0 - b by omega) (show 0 - b ≤ 0 - a by omega) (by decide)
    have h4 := fl_up (show 0 < 0 - b by omega)
    omega
theorem back_facts {a b : Int} (hs : 1024 ≤ a ∨ b ≤ -1024) (hab : a ≤ b) (h2 : 1024 ≤ rd 1208925819614629174706176 b ∨ ru a ≤ -1024) : rd 1208925819614629174706176 (ru a) ≤ a ∧ b ≤ ru (rd 1208925819614629174706176 b) := by
  obtain ⟨f1, f2, f3⟩ := over_facts hs hab
  unfold ru at *
  have e : (0 : Int) - 1208925819614629174706176 = -1208925819614629174706176 := by decide
  have e2 : (0 : Int) - -1208925819614629174706176 = 1208925819614629174706176 := by decide
  rcases hs with h | h
  · rw [rd_pos (show 0 < b by omega), rd_pos (show 0 < a by omega), e] at h2 f3
    have u1 := up_le h
    have g : 1024 ≤ 1208925819614629174706176 / b := by omega
    rw [rd_pos (show 0 < b by omega), rd_pos (show 0 < a by omega), e, rd_pos (show 0 < 0 - -1208925819614629174706176 / a by omega), rd_pos (show 0 < 1208925819614629174706176 / b by omega)]
    have u2 := up_ge (show 0 < a by omega)
    have e3 : 0 - -1208925819614629174706176 / a = -(-1208925819614629174706176 / a) := by omega
    rw [e3]
    refine ⟨Int.ediv_le_of_le_mul (by omega) (by rw [Int.mul_comm]; exact u2), ?_⟩
    have u3 : 1208925819614629174706176 / b * b ≤ 1208925819614629174706176 := Int.ediv_mul_le _ (by omega)
    have u4 : -1208925819614629174706176 / (1208925819614629174706176 / b) ≤ -b := Int.ediv_le_of_le_mul (by omega) (by
      rw [Int.neg_mul, Int.mul_comm b]
      omega)
    omega
  · rw [rd_neg (show b < 0 by omega), rd_neg (show a < 0 by omega), e, e2] at h2 f3
    have u1 := up_le (a := 0 - b) (by omega)
    have g : 1024 ≤ 1208925819614629174706176 / (0 - a) := by omega
    rw [rd_neg (show b < 0 by omega), rd_neg (show a < 0 by omega), e, e2, rd_neg (show 0 - 1208925819614629174706176 / (0 - a) < 0 by omega), rd_neg (show -1208925819614629174706176 / (0 - b) < 0 by omega), e, e2]
    have e3 : 0 - (0 - 1208925819614629174706176 / (0 - a)) = 1208925819614629174706176 / (0 - a) := by omega
    rw [e3]
    refine ⟨?_, ?_⟩
    · have u3 : 1208925819614629174706176 / (0 - a) * (0 - a) ≤ 1208925819614629174706176 := Int.ediv_mul_le _ (by omega)
      exact Int.ediv_le_of_le_mul (by omega) (by
        have : a * (1208925819614629174706176 / (0 - a)) = -(1208925819614629174706176 / (0 - a) * (0 - a)) := by rw [Int.mul_comm a, ← Int.mul_neg]; congr 1; omega
        rw [this]
        omega)
    · have u2 := up_ge (show 0 < 0 - b by omega)
      have u4 : 1208925819614629174706176 / (0 - -1208925819614629174706176 / (0 - b)) ≤ 0 - b := Int.ediv_le_of_le_mul (by omega) (by
        have : 0 - -1208925819614629174706176 / (0 - b) = -(-1208925819614629174706176 / (0 - b)) := by omega
        rw [this, Int.mul_comm]
        exact u2)
      omega
theorem law_over_ok {θ : Pot} {a b : Int} {Q : Ret → Pot → Prop} (hs : 1024 ≤ a ∨ b ≤ -1024) (hab : a ≤ b) (h1 : -1180591620717411303424 ≤ a) (h2 : b ≤ 1180591620717411303424) (q : Q (.d (.tup [.int (rd 1208925819614629174706176 b), .int (ru a)])) θ) : Gv (m__law_over [.dat (.int a), .dat (.int b)] θ) Q := by
  unfold ru at q
  unfold m__law_over r__law_over
  have s1 : small a = true := small_of (by omega) (by omega)
  have s2 : small b = true := small_of (by omega) (by omega)
  have s3 : small (-a) = true := small_of (by omega) (by omega)
  have s4 : small (-b) = true := small_of (by omega) (by omega)
  have n1 : ¬ a = 0 := by omega
  have n2 : ¬ b = 0 := by omega
  have n3 : ¬ -a = 0 := by omega
  have n4 : ¬ -b = 0 := by omega
  simp only [gv_var, varK_d, potK_p, gv_op, opK1_a, opK2_a, gv_I, gv_eqI, gv_neI, gv_neg, negK_a, gv_bool, boolK_a, gv_not, notK_a, brK_t, brK_f, brK_d, brK_n, runP_a, ansP_a, gv_and, gv_or, gv_andV, gv_orV, blK_a, gv_notV, gv_ite, gv_if, gv_nil, gv_cons, consK1_a, consK2_a, mapK_a, gv_tup, gv_lst, optK_a, gv_B, gv_chn, chnK_a, gv_last, gv_link, linkK_a, gv_isi, isi_ii, isi_bi, isi_tt, isi_ll, isi_ss, isi_ti, isi_li, isi_si, isi_tl, isi_lt, isi_it, isi_il, isi_is, isi_bs, isi_ib, isi_bb, isi_st, isi_sl, gv_seq, sqK_n, sqK_r, sqK_b, sqK_c, gv_next, gv_brk, gv_cnt, gv_retN, gv_set, setK_a, gv_par, parK_2, parK_3, gv_asg, asgK_a, asgR_s, bindT_n, bindT_2, bindT_3, gv_retS, retK_a, gv_retO, retOK_a, gv_fn, fnK_n, fnK_r, gv_enil, gv_econs, ecK1_a, ecK2_a, gv_epot, epK_a, rdK_d, rdK_o, roK_o, gv_call, cK1_a, cK2_a, gv_callO, coK1_a, coK2_a, gv_potI, potI_0, potI_1, gv_potS, potSK_a, gv_potD, potDK_a, gv_rng, gv_seqI, seqOf_l, seqOf_t, gv_for, forK_a, gv_comp, compK_a, gv_comp0, cmpR_s, cmpK2_a, cmpK1_a, gv_comp1, gv_tt1, hide_nil, hide_0, hide_d, hide_p, hide_o, wipeD_nil, wipeD_cons, gv_ok, gv_bad, gv_ret, gv_opt, gv_max2, gv_min2, gv_int, gv_ix0, gv_ix1, gv_ix2, gv_abs, pick_nil, pick_0, pick_1, pick_2, pick_3, pick_4, pick_5, gv_lenT0, gv_lenT1, gv_lenT2, gv_lenT3, gv_lenT4, gv_lenL0, gv_lenL1, gv_lenL2, gv_lenL3, gv_lenL4, gv_neS, gv_eqS, gv_rng1, gv_rng2, bnd62_of, rngL_len, big_of, gv_all2, gv_maxL2, gv_minL2, List.map_cons, List.map_nil, List.length_cons, List.length_nil, List.replicate, List.cons_append, List.nil_append, List.append_nil, List.getElem?_cons_zero, List.getElem?_cons_succ, List.set_cons_zero, List.set_cons_succ, Nat.reduceSub, Nat.reduceAdd, Nat.reduceMul, Nat.zero_add, Nat.add_zero, true_and, and_true, Int.reducePow, Int.reduceToNat, Int.reduceMul, Int.reduceAdd, Int.reduceSub, Int.reduceMod, Int.reduceNeg, Int.reduceLE, Int.reduceLT, Int.reduceEq, Nat.reduceLT, Nat.reduceLeDiff, Nat.reducePow, Int.reduceAbs, ne_eq, not_false_eq_true, not_true_eq_false, small_of, decide_true, decide_false, Bool.and_self, Bool.true_and, Bool.and_true, Bool.not_false, Bool.not_true, brK_t, brK_f, true_implies, false_implies, forall_const, implies_true, not_false_iff, s1, s2, s3, s4, n1, n2, n3, n4]
  have e : (0 : Int) - 1208925819614629174706176 = -1208925819614629174706176 := by decide
  have e2 : (0 : Int) - -1208925819614629174706176 = 1208925819614629174706176 := by decide
  refine ⟨fun h => ?_, fun h => ?_⟩
  · have ha : 0 < a := h
    rw [rd_pos (show 0 < b by omega), rd_pos ha, e] at q
    rw [fd_pos ha, fd_pos (show 0 < b by omega), fd_pos ha, fd_pos (show 0 < b by omega)]
    have m1 := dv_mono (x := 1208925819614629174706176) ha hab (by decide)
    have m2 := dn_mono (x := -1208925819614629174706176) ha hab (by decide)
    have q1 : (if 1208925819614629174706176 / b < 1208925819614629174706176 / a then 1208925819614629174706176 / b else 1208925819614629174706176 / a) = 1208925819614629174706176 / b := by split <;> omega
    have q2 : (if -(-1208925819614629174706176 / b) > -(-1208925819614629174706176 / a) then -(-1208925819614629174706176 / b) else -(-1208925819614629174706176 / a)) = 0 - -1208925819614629174706176 / a := by split <;> omega
    rw [q1, q2]
    exact q
  · have ha : a < 0 := by omega
    have hb : b < 0 := by omega
    rw [rd_neg hb, rd_neg ha, e, e2] at q
    rw [fd_pos (show 0 < -a by omega), fd_pos (show 0 < -b by omega), fd_pos (show 0 < -a by omega), fd_pos (show 0 < -b by omega)]
    have e3 : 0 - a = -a := by omega
    have e4 : 0 - b = -b := by omega
    rw [e3, e4] at q
    have m1 := dv_mono (x := 1208925819614629174706176) (show 0 < -b by omega) (show -b ≤ -a by omega) (by decide)
    have m2 := dn_mono (x := -1208925819614629174706176) (show 0 < -b by omega) (show -b ≤ -a by omega) (by decide)
    have q1 : (if -1208925819614629174706176 / -b < -1208925819614629174706176 / -a then -1208925819614629174706176 / -b else -1208925819614629174706176 / -a) = -1208925819614629174706176 / -b := by split <;> omega
    have q2 : (if -(1208925819614629174706176 / -b) > -(1208925819614629174706176 / -a) then -(1208925819614629174706176 / -b) else -(1208925819614629174706176 / -a)) = 0 - 1208925819614629174706176 / -a := by split <;> omega
    rw [q1, q2]
    exact q
theorem pot_spec (ns : List Int) (θ : Pot) : Gv (m__law_pot [.dat (.lst (ns.map Dt.int)), .dat (.int 0)] θ) fun r _ => ∃ a b, r = .o [.int a, .int b] ∧ PotOk (a, b) := by
  unfold m__law_pot r__law_pot
  have e1 : ∀ i : Int, i.fmod 2147483549 = i % 2147483549 := fun i => fm_pos (by decide)
  have e2 : ∀ i : Int, i.fmod 2147483563 = i % 2147483563 := fun i => fm_pos (by decide)
  have fin : ∀ c : Int, PotOk (if c - 1000000000000000000 > 0 then c - 1000000000000000000 else 0, (c % 2147483549 * 48271 + 0 + 941) % 2147483563 + 1) := fun c => by
    refine ⟨?_, ?_, ?_⟩
    · show 0 ≤ (if c - 1000000000000000000 > 0 then c - 1000000000000000000 else 0)
      split <;> omega
    · show 0 ≤ (c % 2147483549 * 48271 + 0 + 941) % 2147483563 + 1
      omega
    · show (c % 2147483549 * 48271 + 0 + 941) % 2147483563 + 1 < 4294967296
      omega
  cases ns with
  | nil =>
    simp only [gv_var, varK_d, potK_p, gv_op, opK1_a, opK2_a, gv_I, gv_eqI, gv_neI, gv_neg, negK_a, gv_bool, boolK_a, gv_not, notK_a, brK_t, brK_f, brK_d, brK_n, runP_a, ansP_a, gv_and, gv_or, gv_andV, gv_orV, blK_a, gv_notV, gv_ite, gv_if, gv_nil, gv_cons, consK1_a, consK2_a, mapK_a, gv_tup, gv_lst, optK_a, gv_B, gv_chn, chnK_a, gv_last, gv_link, linkK_a, gv_isi, isi_ii, isi_bi, isi_tt, isi_ll, isi_ss, isi_ti, isi_li, isi_si, isi_tl, isi_lt, isi_it, isi_il, isi_is, isi_bs, isi_ib, isi_bb, isi_st, isi_sl, gv_seq, sqK_n, sqK_r, sqK_b, sqK_c, gv_next, gv_brk, gv_cnt, gv_retN, gv_set, setK_a, gv_par, parK_2, parK_3, gv_asg, asgK_a, asgR_s, bindT_n, bindT_2, bindT_3, gv_retS, retK_a, gv_retO, retOK_a, gv_fn, fnK_n, fnK_r, gv_enil, gv_econs, ecK1_a, ecK2_a, gv_epot, epK_a, rdK_d, rdK_o, roK_o, gv_call, cK1_a, cK2_a, gv_callO, coK1_a, coK2_a, gv_potI, potI_0, potI_1, gv_potS, potSK_a, gv_potD, potDK_a, gv_rng, gv_seqI, seqOf_l, seqOf_t, gv_for, forK_a, gv_comp, compK_a, gv_comp0, cmpR_s, cmpK2_a, cmpK1_a, gv_comp1, gv_tt1, hide_nil, hide_0, hide_d, hide_p, hide_o, wipeD_nil, wipeD_cons, gv_ok, gv_bad, gv_ret, gv_opt, gv_max2, gv_min2, gv_int, gv_ix0, gv_ix1, gv_ix2, gv_abs, pick_nil, pick_0, pick_1, pick_2, pick_3, pick_4, pick_5, gv_lenT0, gv_lenT1, gv_lenT2, gv_lenT3, gv_lenT4, gv_lenL0, gv_lenL1, gv_lenL2, gv_lenL3, gv_lenL4, gv_neS, gv_eqS, gv_rng1, gv_rng2, bnd62_of, rngL_len, big_of, gv_all2, gv_maxL2, gv_minL2, List.map_cons, List.map_nil, List.length_cons, List.length_nil, List.replicate, List.cons_append, List.nil_append, List.append_nil, List.getElem?_cons_zero, List.getElem?_cons_succ, List.set_cons_zero, List.set_cons_succ, Nat.reduceSub, Nat.reduceAdd, Nat.reduceMul, Nat.zero_add, Nat.add_zero, true_and, and_true, Int.reducePow, Int.reduceToNat, Int.reduceMul, Int.reduceAdd, Int.reduceSub, Int.reduceMod, Int.reduceNeg, Int.reduceLE, Int.reduceLT, Int.reduceEq, Nat.reduceLT, Nat.reduceLeDiff, Nat.reducePow, Int.reduceAbs, ne_eq, not_false_eq_true, not_true_eq_false, small_of, decide_true, decide_false, Bool.and_self, Bool.true_and, Bool.and_true, Bool.not_false, Bool.not_true, brK_t, brK_f, true_implies, false_implies, forall_const, implies_true, not_false_iff, e1, e2]
    exact ⟨_, _, rfl, fin 1031⟩
  | cons x xs =>
    have ix : ∀ (ρ : DEnv) (θ : Pot) (Q : Dt → Pot → Prop), Gv (opt (gIx (.lst (.int x :: xs.map Dt.int)) (.int 0)) ρ θ) Q = Q (.int x) θ := fun ρ θ Q => by
      have e : gIx (.lst (.int x :: xs.map Dt.int)) (.int 0) = some (.int x) := L2.atI_nat (j := 0) rfl
      rw [e, gv_opt]
    have ln : ∀ (ρ : DEnv) (θ : Pot) (Q : Dt → Pot → Prop), Gv (opt (gLen [.lst (.int x :: xs.map Dt.int)]) ρ θ) Q = Q (.int ((xs.map Dt.int).length + 1 : Nat)) θ := fun ρ θ Q => rfl
    have c0 : (0 : Int) < (((xs.map Dt.int).length + 1 : Nat) : Int) := by omega
    have sm : small ((if x < 0 then -x else x) % 2147483549) = true := small_of (by omega) (by omega)
    simp only [gv_var, varK_d, potK_p, gv_op, opK1_a, opK2_a, gv_I, gv_eqI, gv_neI, gv_neg, negK_a, gv_bool, boolK_a, gv_not, notK_a, brK_t, brK_f, brK_d, brK_n, runP_a, ansP_a, gv_and, gv_or, gv_andV, gv_orV, blK_a, gv_notV, gv_ite, gv_if, gv_nil, gv_cons, consK1_a, consK2_a, mapK_a, gv_tup, gv_lst, optK_a, gv_B, gv_chn, chnK_a, gv_last, gv_link, linkK_a, gv_isi, isi_ii, isi_bi, isi_tt, isi_ll, isi_ss, isi_ti, isi_li, isi_si, isi_tl, isi_lt, isi_it, isi_il, isi_is, isi_bs, isi_ib, isi_bb, isi_st, isi_sl, gv_seq, sqK_n, sqK_r, sqK_b, sqK_c, gv_next, gv_brk, gv_cnt, gv_retN, gv_set, setK_a, gv_par, parK_2, parK_3, gv_asg, asgK_a, asgR_s, bindT_n, bindT_2, bindT_3, gv_retS, retK_a, gv_retO, retOK_a, gv_fn, fnK_n, fnK_r, gv_enil, gv_econs, ecK1_a, ecK2_a, gv_epot, epK_a, rdK_d, rdK_o, roK_o, gv_call, cK1_a, cK2_a, gv_callO, coK1_a, coK2_a, gv_potI, potI_0, potI_1, gv_potS, potSK_a, gv_potD, potDK_a, gv_rng, gv_seqI, seqOf_l, seqOf_t, gv_for, forK_a, gv_comp, compK_a, gv_comp0, cmpR_s, cmpK2_a, cmpK1_a, gv_comp1, gv_tt1, hide_nil, hide_0, hide_d, hide_p, hide_o, wipeD_nil, wipeD_cons, gv_ok, gv_bad, gv_ret, gv_opt, gv_max2, gv_min2, gv_int, gv_ix0, gv_ix1, gv_ix2, gv_abs, pick_nil, pick_0, pick_1, pick_2, pick_3, pick_4, pick_5, gv_lenT0, gv_lenT1, gv_lenT2, gv_lenT3, gv_lenT4, gv_lenL0, gv_lenL1, gv_lenL2, gv_lenL3, gv_lenL4, gv_neS, gv_eqS, gv_rng1, gv_rng2, bnd62_of, rngL_len, big_of, gv_all2, gv_maxL2, gv_minL2, List.map_cons, List.map_nil, List.length_cons, List.length_nil, List.replicate, List.cons_append, List.nil_append, List.append_nil, List.getElem?_cons_zero, List.getElem?_cons_succ, List.set_cons_zero, List.set_cons_succ, Nat.reduceSub, Nat.reduceAdd, Nat.reduceMul, Nat.zero_add, Nat.add_zero, true_and, and_true, Int.reducePow, Int.reduceToNat, Int.reduceMul, Int.reduceAdd, Int.reduceSub, Int.reduceMod, Int.reduceNeg, Int.reduceLE, Int.reduceLT, Int.reduceEq, Nat.reduceLT, Nat.reduceLeDiff, Nat.reducePow, Int.reduceAbs, ne_eq, not_false_eq_true, not_true_eq_false, small_of, decide_true, decide_false, Bool.and_self, Bool.true_and, Bool.and_true, Bool.not_false, Bool.not_true, brK_t, brK_f, true_implies, false_implies, forall_const, implies_true, not_false_iff, e1, e2, ix, ln, c0, sm]
    exact ⟨_, _, rfl, fin _⟩
theorem right_true {θ : Pot} (h : PotOk θ) : Gv (m__law_right [.pot] θ) fun r _ => r = .d (.bl true) := by
  unfold m__law_right r__law_right
  simp only [gv_var, varK_d, potK_p, gv_op, opK1_a, opK2_a, gv_I, gv_eqI, gv_neI, gv_neg, negK_a, gv_bool, boolK_a, gv_not, notK_a, brK_t, brK_f, brK_d, brK_n, runP_a, ansP_a, gv_and, gv_or, gv_andV, gv_orV, blK_a, gv_notV, gv_ite, gv_if, gv_nil, gv_cons, consK1_a, consK2_a, mapK_a, gv_tup, gv_lst, optK_a, gv_B, gv_chn, chnK_a, gv_last, gv_link, linkK_a, gv_isi, isi_ii, isi_bi, isi_tt, isi_ll, isi_ss, isi_ti, isi_li, isi_si, isi_tl, isi_lt, isi_it, isi_il, isi_is, isi_bs, isi_ib, isi_bb, isi_st, isi_sl, gv_seq, sqK_n, sqK_r, sqK_b, sqK_c, gv_next, gv_brk, gv_cnt, gv_retN, gv_set, setK_a, gv_par, parK_2, parK_3, gv_asg, asgK_a, asgR_s, bindT_n, bindT_2, bindT_3, gv_retS, retK_a, gv_retO, retOK_a, gv_fn, fnK_n, fnK_r, gv_enil, gv_econs, ecK1_a, ecK2_a, gv_epot, epK_a, rdK_d, rdK_o, roK_o, gv_call, cK1_a, cK2_a, gv_callO, coK1_a, coK2_a, gv_potI, potI_0, potI_1, gv_potS, potSK_a, gv_potD, potDK_a, gv_rng, gv_seqI, seqOf_l, seqOf_t, gv_for, forK_a, gv_comp, compK_a, gv_comp0, cmpR_s, cmpK2_a, cmpK1_a, gv_comp1, gv_tt1, hide_nil, hide_0, hide_d, hide_p, hide_o, wipeD_nil, wipeD_cons, gv_ok, gv_bad, gv_ret, gv_opt, gv_max2, gv_min2, gv_int, gv_ix0, gv_ix1, gv_ix2, gv_abs, pick_nil, pick_0, pick_1, pick_2, pick_3, pick_4, pick_5, gv_lenT0, gv_lenT1, gv_lenT2, gv_lenT3, gv_lenT4, gv_lenL0, gv_lenL1, gv_lenL2, gv_lenL3, gv_lenL4, gv_neS, gv_eqS, gv_rng1, gv_rng2, bnd62_of, rngL_len, big_of, gv_all2, gv_maxL2, gv_minL2, List.map_cons, List.map_nil, List.length_cons, List.length_nil, List.replicate, List.cons_append, List.nil_append, List.append_nil, List.getElem?_cons_zero, List.getElem?_cons_succ, List.set_cons_zero, List.set_cons_succ, Nat.reduceSub, Nat.reduceAdd, Nat.reduceMul, Nat.zero_add, Nat.add_zero, true_and, and_true, Int.reducePow, Int.reduceToNat, Int.reduceMul, Int.reduceAdd, Int.reduceSub, Int.reduceMod, Int.reduceNeg, Int.reduceLE, Int.reduceLT, Int.reduceEq, Nat.reduceLT, Nat.reduceLeDiff, Nat.reducePow, Int.reduceAbs, ne_eq, not_false_eq_true, not_true_eq_false, small_of, decide_true, decide_false, Bool.and_self, Bool.true_and, Bool.and_true, Bool.not_false, Bool.not_true, brK_t, brK_f, true_implies, false_implies, forall_const, implies_true, not_false_iff]
  refine gv_for_inv (fun l ρ θ => (∀ d ∈ l, ∃ k, d = .int k) ∧ (∃ x1 x2 x3 x4 x5 x6 x7, ρ = [some .pot, x1, x2, x3, x4, x5, x6, x7]) ∧ PotOk θ) ?_ ?_ _ _ _ ⟨?_, ⟨_, _, _, _, _, _, _, rfl⟩, h⟩
  · rintro ρ θ1 ⟨_, ⟨x1, x2, x3, x4, x5, x6, x7, rfl⟩, h1⟩
    simp only [gv_var, varK_d, potK_p, gv_op, opK1_a, opK2_a, gv_I, gv_eqI, gv_neI, gv_neg, negK_a, gv_bool, boolK_a, gv_not, notK_a, brK_t, brK_f, brK_d, brK_n, runP_a, ansP_a, gv_and, gv_or, gv_andV, gv_orV, blK_a, gv_notV, gv_ite, gv_if, gv_nil, gv_cons, consK1_a, consK2_a, mapK_a, gv_tup, gv_lst, optK_a, gv_B, gv_chn, chnK_a, gv_last, gv_link, linkK_a, gv_isi, isi_ii, isi_bi, isi_tt, isi_ll, isi_ss, isi_ti, isi_li, isi_si, isi_tl, isi_lt, isi_it, isi_il, isi_is, isi_bs, isi_ib, isi_bb, isi_st, isi_sl, gv_seq, sqK_n, sqK_r, sqK_b, sqK_c, gv_next, gv_brk, gv_cnt, gv_retN, gv_set, setK_a, gv_par, parK_2, parK_3, gv_asg, asgK_a, asgR_s, bindT_n, bindT_2, bindT_3, gv_retS, retK_a, gv_retO, retOK_a, gv_fn, fnK_n, fnK_r, gv_enil, gv_econs, ecK1_a, ecK2_a, gv_epot, epK_a, rdK_d, rdK_o, roK_o, gv_call, cK1_a, cK2_a, gv_callO, coK1_a, coK2_a, gv_potI, potI_0, potI_1, gv_potS, potSK_a, gv_potD, potDK_a, gv_rng, gv_seqI, seqOf_l, seqOf_t, gv_for, forK_a, gv_comp, compK_a, gv_comp0, cmpR_s, cmpK2_a, cmpK1_a, gv_comp1, gv_tt1, hide_nil, hide_0, hide_d, hide_p, hide_o, wipeD_nil, wipeD_cons, gv_ok, gv_bad, gv_ret, gv_opt, gv_max2, gv_min2, gv_int, gv_ix0, gv_ix1, gv_ix2, gv_abs, pick_nil, pick_0, pick_1, pick_2, pick_3, pick_4, pick_5, gv_lenT0, gv_lenT1, gv_lenT2, gv_lenT3, gv_lenT4, gv_lenL0, gv_lenL1, gv_lenL2, gv_lenL3, gv_lenL4, gv_neS, gv_eqS, gv_rng1, gv_rng2, bnd62_of, rngL_len, big_of, gv_all2, gv_maxL2, gv_minL2, List.map_cons, List.map_nil, List.length_cons, List.length_nil, List.replicate, List.cons_append, List.nil_append, List.append_nil, List.getElem?_cons_zero, List.getElem?_cons_succ, List.set_cons_zero, List.set_cons_succ, Nat.reduceSub, Nat.reduceAdd, Nat.reduceMul, Nat.zero_add, Nat.add_zero, true_and, and_true, Int.reducePow, Int.reduceToNat, Int.reduceMul, Int.reduceAdd, Int.reduceSub, Int.reduceMod, Int.reduceNeg, Int.reduceLE, Int.reduceLT, Int.reduceEq, Nat.reduceLT, Nat.reduceLeDiff, Nat.reducePow, Int.reduceAbs, ne_eq, not_false_eq_true, not_true_eq_false, small_of, decide_true, decide_false, Bool.and_self, Bool.true_and, Bool.and_true, Bool.not_false, Bool.not_true, brK_t, brK_f, true_implies, false_implies, forall_const, implies_true, not_false_iff]
  · rintro d ds ρ θ1 ⟨hd, ⟨x1, x2, x3, x4, x5, x6, x7, rfl⟩, h1⟩
    obtain ⟨k, rfl⟩ := hd d (by simp)
    have hd' : ∀ d ∈ ds, ∃ k, d = .int k := fun d m => hd d (List.mem_cons_of_mem _ m)
    have stay : ∀ (x1 x2 x3 x4 x5 x6 x7 : Option Ent) (θ2 : Pot), PotOk θ2 → (∀ d ∈ ds, ∃ k, d = Dt.int k) ∧ (∃ y1 y2 y3 y4 y5 y6 y7, ([some .pot, x1, x2, x3, x4, x5, x6, x7] : DEnv) = [some .pot, y1, y2, y3, y4, y5, y6, y7]) ∧ PotOk θ2 := fun x1 x2 x3 x4 x5 x6 x7 θ2 h2 => ⟨hd', ⟨_, _, _, _, _, _, _, rfl⟩, h2⟩
    refine ⟨_, rfl, ?_⟩
    simp only [gv_var, varK_d, potK_p, gv_op, opK1_a, opK2_a, gv_I, gv_eqI, gv_neI, gv_neg, negK_a, gv_bool, boolK_a, gv_not, notK_a, brK_t, brK_f, brK_d, brK_n, runP_a, ansP_a, gv_and, gv_or, gv_andV, gv_orV, blK_a, gv_notV, gv_ite, gv_if, gv_nil, gv_cons, consK1_a, consK2_a, mapK_a, gv_tup, gv_lst, optK_a, gv_B, gv_chn, chnK_a, gv_last, gv_link, linkK_a, gv_isi, isi_ii, isi_bi, isi_tt, isi_ll, isi_ss, isi_ti, isi_li, isi_si, isi_tl, isi_lt, isi_it, isi_il, isi_is, isi_bs, isi_ib, isi_bb, isi_st, isi_sl, gv_seq, sqK_n, sqK_r, sqK_b, sqK_c, gv_next, gv_brk, gv_cnt, gv_retN, gv_set, setK_a, gv_par, parK_2, parK_3, gv_asg, asgK_a, asgR_s, bindT_n, bindT_2, bindT_3, gv_retS, retK_a, gv_retO, retOK_a, gv_fn, fnK_n, fnK_r, gv_enil, gv_econs, ecK1_a, ecK2_a, gv_epot, epK_a, rdK_d, rdK_o, roK_o, gv_call, cK1_a, cK2_a, gv_callO, coK1_a, coK2_a, gv_potI, potI_0, potI_1, gv_potS, potSK_a, gv_potD, potDK_a, gv_rng, gv_seqI, seqOf_l, seqOf_t, gv_for, forK_a, gv_comp, compK_a, gv_comp0, cmpR_s, cmpK2_a, cmpK1_a, gv_comp1, gv_tt1, hide_nil, hide_0, hide_d, hide_p, hide_o, wipeD_nil, wipeD_cons, gv_ok, gv_bad, gv_ret, gv_opt, gv_max2, gv_min2, gv_int, gv_ix0, gv_ix1, gv_ix2, gv_abs, pick_nil, pick_0, pick_1, pick_2, pick_3, pick_4, pick_5, gv_lenT0, gv_lenT1, gv_lenT2, gv_lenT3, gv_lenT4, gv_lenL0, gv_lenL1, gv_lenL2, gv_lenL3, gv_lenL4, gv_neS, gv_eqS, gv_rng1, gv_rng2, bnd62_of, rngL_len, big_of, gv_all2, gv_maxL2, gv_minL2, List.map_cons, List.map_nil, List.length_cons, List.length_nil, List.replicate, List.cons_append, List.nil_append, List.append_nil, List.getElem?_cons_zero, List.getElem?_cons_succ, List.set_cons_zero, List.set_cons_succ, Nat.reduceSub, Nat.reduceAdd, Nat.reduceMul, Nat.zero_add, Nat.add_zero, true_and, and_true, Int.reducePow, Int.reduceToNat, Int.reduceMul, Int.reduceAdd, Int.reduceSub, Int.reduceMod, Int.reduceNeg, Int.reduceLE, Int.reduceLT, Int.reduceEq, Nat.reduceLT, Nat.reduceLeDiff, Nat.reducePow, Int.reduceAbs, ne_eq, not_false_eq_true, not_true_eq_false, small_of, decide_true, decide_false, Bool.and_self, Bool.true_and, Bool.and_true, Bool.not_false, Bool.not_true, brK_t, brK_f, true_implies, false_implies, forall_const, implies_true, not_false_iff]
    refine (interval_spec h1).imp ?_
    rintro _ θ2 ⟨a, b, rfl, a0, ab, b1, h2⟩
    simp only [gv_var, varK_d, potK_p, gv_op, opK1_a, opK2_a, gv_I, gv_eqI, gv_neI, gv_neg, negK_a, gv_bool, boolK_a, gv_not, notK_a, brK_t, brK_f, brK_d, brK_n, runP_a, ansP_a, gv_and, gv_or, gv_andV, gv_orV, blK_a, gv_notV, gv_ite, gv_if, gv_nil, gv_cons, consK1_a, consK2_a, mapK_a, gv_tup, gv_lst, optK_a, gv_B, gv_chn, chnK_a, gv_last, gv_link, linkK_a, gv_isi, isi_ii, isi_bi, isi_tt, isi_ll, isi_ss, isi_ti, isi_li, isi_si, isi_tl, isi_lt, isi_it, isi_il, isi_is, isi_bs, isi_ib, isi_bb, isi_st, isi_sl, gv_seq, sqK_n, sqK_r, sqK_b, sqK_c, gv_next, gv_brk, gv_cnt, gv_retN, gv_set, setK_a, gv_par, parK_2, parK_3, gv_asg, asgK_a, asgR_s, bindT_n, bindT_2, bindT_3, gv_retS, retK_a, gv_retO, retOK_a, gv_fn, fnK_n, fnK_r, gv_enil, gv_econs, ecK1_a, ecK2_a, gv_epot, epK_a, rdK_d, rdK_o, roK_o, gv_call, cK1_a, cK2_a, gv_callO, coK1_a, coK2_a, gv_potI, potI_0, potI_1, gv_potS, potSK_a, gv_potD, potDK_a, gv_rng, gv_seqI, seqOf_l, seqOf_t, gv_for, forK_a, gv_comp, compK_a, gv_comp0, cmpR_s, cmpK2_a, cmpK1_a, gv_comp1, gv_tt1, hide_nil, hide_0, hide_d, hide_p, hide_o, wipeD_nil, wipeD_cons, gv_ok, gv_bad, gv_ret, gv_opt, gv_max2, gv_min2, gv_int, gv_ix0, gv_ix1, gv_ix2, gv_abs, pick_nil, pick_0, pick_1, pick_2, pick_3, pick_4, pick_5, gv_lenT0, gv_lenT1, gv_lenT2, gv_lenT3, gv_lenT4, gv_lenL0, gv_lenL1, gv_lenL2, gv_lenL3, gv_lenL4, gv_neS, gv_eqS, gv_rng1, gv_rng2, bnd62_of, rngL_len, big_of, gv_all2, gv_maxL2, gv_minL2, List.map_cons, List.map_nil, List.length_cons, List.length_nil, List.replicate, List.cons_append, List.nil_append, List.append_nil, List.getElem?_cons_zero, List.getElem?_cons_succ, List.set_cons_zero, List.set_cons_succ, Nat.reduceSub, Nat.reduceAdd, Nat.reduceMul, Nat.zero_add, Nat.add_zero, true_and, and_true, Int.reducePow, Int.reduceToNat, Int.reduceMul, Int.reduceAdd, Int.reduceSub, Int.reduceMod, Int.reduceNeg, Int.reduceLE, Int.reduceLT, Int.reduceEq, Nat.reduceLT, Nat.reduceLeDiff, Nat.reducePow, Int.reduceAbs, ne_eq, not_false_eq_true, not_true_eq_false, small_of, decide_true, decide_false, Bool.and_self, Bool.true_and, Bool.and_true, Bool.not_false, Bool.not_true, brK_t, brK_f, true_implies, false_implies, forall_const, implies_true, not_false_iff]
    have i1 : a ≤ a + (b - a) / 3 := by omega
    have i2 : a + (b - a) / 3 ≤ b - (b - a) / 3 := by omega
    have i3 : b - (b - a) / 3 ≤ b := by omega
    have m1 : lo a ≤ lo (a + (b - a) / 3) := lo_mono a0 i1
    have m2 : lo (a + (b - a) / 3) ≤ hi (b - (b - a) / 3) := lo_hi (by omega) i2
    have m3 : hi (b - (b - a) / 3) ≤ hi b := hi_mono (by omega) i3
    have fd : (b - a).fdiv 3 = (b - a) / 3 := fd_pos (by decide)
    refine ⟨fun _ => ?_, fun _ => ?_⟩
    all_goals
      refine root_of_ok a0 ab (by omega) ?_
      simp only [gv_var, varK_d, potK_p, gv_op, opK1_a, opK2_a, gv_I, gv_eqI, gv_neI, gv_neg, negK_a, gv_bool, boolK_a, gv_not, notK_a, brK_t, brK_f, brK_d, brK_n, runP_a, ansP_a, gv_and, gv_or, gv_andV, gv_orV, blK_a, gv_notV, gv_ite, gv_if, gv_nil, gv_cons, consK1_a, consK2_a, mapK_a, gv_tup, gv_lst, optK_a, gv_B, gv_chn, chnK_a, gv_last, gv_link, linkK_a, gv_isi, isi_ii, isi_bi, isi_tt, isi_ll, isi_ss, isi_ti, isi_li, isi_si, isi_tl, isi_lt, isi_it, isi_il, isi_is, isi_bs, isi_ib, isi_bb, isi_st, isi_sl, gv_seq, sqK_n, sqK_r, sqK_b, sqK_c, gv_next, gv_brk, gv_cnt, gv_retN, gv_set, setK_a, gv_par, parK_2, parK_3, gv_asg, asgK_a, asgR_s, bindT_n, bindT_2, bindT_3, gv_retS, retK_a, gv_retO, retOK_a, gv_fn, fnK_n, fnK_r, gv_enil, gv_econs, ecK1_a, ecK2_a, gv_epot, epK_a, rdK_d, rdK_o, roK_o, gv_call, cK1_a, cK2_a, gv_callO, coK1_a, coK2_a, gv_potI, potI_0, potI_1, gv_potS, potSK_a, gv_potD, potDK_a, gv_rng, gv_seqI, seqOf_l, seqOf_t, gv_for, forK_a, gv_comp, compK_a, gv_comp0, cmpR_s, cmpK2_a, cmpK1_a, gv_comp1, gv_tt1, hide_nil, hide_0, hide_d, hide_p, hide_o, wipeD_nil, wipeD_cons, gv_ok, gv_bad, gv_ret, gv_opt, gv_max2, gv_min2, gv_int, gv_ix0, gv_ix1, gv_ix2, gv_abs, pick_nil, pick_0, pick_1, pick_2, pick_3, pick_4, pick_5, gv_lenT0, gv_lenT1, gv_lenT2, gv_lenT3, gv_lenT4, gv_lenL0, gv_lenL1, gv_lenL2, gv_lenL3, gv_lenL4, gv_neS, gv_eqS, gv_rng1, gv_rng2, bnd62_of, rngL_len, big_of, gv_all2, gv_maxL2, gv_minL2, List.map_cons, List.map_nil, List.length_cons, List.length_nil, List.replicate, List.cons_append, List.nil_append, List.append_nil, List.getElem?_cons_zero, List.getElem?_cons_succ, List.set_cons_zero, List.set_cons_succ, Nat.reduceSub, Nat.reduceAdd, Nat.reduceMul, Nat.zero_add, Nat.add_zero, true_and, and_true, Int.reducePow, Int.reduceToNat, Int.reduceMul, Int.reduceAdd, Int.reduceSub, Int.reduceMod, Int.reduceNeg, Int.reduceLE, Int.reduceLT, Int.reduceEq, Nat.reduceLT, Nat.reduceLeDiff, Nat.reducePow, Int.reduceAbs, ne_eq, not_false_eq_true, not_true_eq_false, small_of, decide_true, decide_false, Bool.and_self, Bool.true_and, Bool.and_true, Bool.not_false, Bool.not_true, brK_t, brK_f, true_implies, false_implies, forall_const, implies_true, not_false_iff]
      refine root_right_ok a0 ab (by omega) ?_
      simp only [gv_var, varK_d, potK_p, gv_op, opK1_a, opK2_a, gv_I, gv_eqI, gv_neI, gv_neg, negK_a, gv_bool, boolK_a, gv_not, notK_a, brK_t, brK_f, brK_d, brK_n, runP_a, ansP_a, gv_and, gv_or, gv_andV, gv_orV, blK_a, gv_notV, gv_ite, gv_if, gv_nil, gv_cons, consK1_a, consK2_a, mapK_a, gv_tup, gv_lst, optK_a, gv_B, gv_chn, chnK_a, gv_last, gv_link, linkK_a, gv_isi, isi_ii, isi_bi, isi_tt, isi_ll, isi_ss, isi_ti, isi_li, isi_si, isi_tl, isi_lt, isi_it, isi_il, isi_is, isi_bs, isi_ib, isi_bb, isi_st, isi_sl, gv_seq, sqK_n, sqK_r, sqK_b, sqK_c, gv_next, gv_brk, gv_cnt, gv_retN, gv_set, setK_a, gv_par, parK_2, parK_3, gv_asg, asgK_a, asgR_s, bindT_n, bindT_2, bindT_3, gv_retS, retK_a, gv_retO, retOK_a, gv_fn, fnK_n, fnK_r, gv_enil, gv_econs, ecK1_a, ecK2_a, gv_epot, epK_a, rdK_d, rdK_o, roK_o, gv_call, cK1_a, cK2_a, gv_callO, coK1_a, coK2_a, gv_potI, potI_0, potI_1, gv_potS, potSK_a, gv_potD, potDK_a, gv_rng, gv_seqI, seqOf_l, seqOf_t, gv_for, forK_a, gv_comp, compK_a, gv_comp0, cmpR_s, cmpK2_a, cmpK1_a, gv_comp1, gv_tt1, hide_nil, hide_0, hide_d, hide_p, hide_o, wipeD_nil, wipeD_cons, gv_ok, gv_bad, gv_ret, gv_opt, gv_max2, gv_min2, gv_int, gv_ix0, gv_ix1, gv_ix2, gv_abs, pick_nil, pick_0, pick_1, pick_2, pick_3, pick_4, pick_5, gv_lenT0, gv_lenT1, gv_lenT2, gv_lenT3, gv_lenT4, gv_lenL0, gv_lenL1, gv_lenL2, gv_lenL3, gv_lenL4, gv_neS, gv_eqS, gv_rng1, gv_rng2, bnd62_of, rngL_len, big_of, gv_all2, gv_maxL2, gv_minL2, List.map_cons, List.map_nil, List.length_cons, List.length_nil, List.replicate, List.cons_append, List.nil_append, List.append_nil, List.getElem?_cons_zero, List.getElem?_cons_succ, List.set_cons_zero, List.set_cons_succ, Nat.reduceSub, Nat.reduceAdd, Nat.reduceMul, Nat.zero_add, Nat.add_zero, true_and, and_true, Int.reducePow, Int.reduceToNat, Int.reduceMul, Int.reduceAdd, Int.reduceSub, Int.reduceMod, Int.reduceNeg, Int.reduceLE, Int.reduceLT, Int.reduceEq, Nat.reduceLT, Nat.reduceLeDiff, Nat.reducePow, Int.reduceAbs, ne_eq, not_false_eq_true, not_true_eq_false, small_of, decide_true, decide_false, Bool.and_self, Bool.true_and, Bool.and_true, Bool.not_false, Bool.not_true, brK_t, brK_f, true_implies, false_implies, forall_const, implies_true, not_false_iff, fd]
      refine root_of_ok (by omega) i2 (by omega) ?_
      simp only [gv_var, varK_d, potK_p, gv_op, opK1_a, opK2_a, gv_I, gv_eqI, gv_neI, gv_neg, negK_a, gv_bool, boolK_a, gv_not, notK_a, brK_t, brK_f, brK_d, brK_n, runP_a, ansP_a, gv_and, gv_or, gv_andV, gv_orV, blK_a, gv_notV, gv_ite, gv_if, gv_nil, gv_cons, consK1_a, consK2_a, mapK_a, gv_tup, gv_lst, optK_a, gv_B, gv_chn, chnK_a, gv_last, gv_link, linkK_a, gv_isi, isi_ii, isi_bi, isi_tt, isi_ll, isi_ss, isi_ti, isi_li, isi_si, isi_tl, isi_lt, isi_it, isi_il, isi_is, isi_bs, isi_ib, isi_bb, isi_st, isi_sl, gv_seq, sqK_n, sqK_r, sqK_b, sqK_c, gv_next, gv_brk, gv_cnt, gv_retN, gv_set, setK_a, gv_par, parK_2, parK_3, gv_asg, asgK_a, asgR_s, bindT_n, bindT_2, bindT_3, gv_retS, retK_a, gv_retO, retOK_a, gv_fn, fnK_n, fnK_r, gv_enil, gv_econs, ecK1_a, ecK2_a, gv_epot, epK_a, rdK_d, rdK_o, roK_o, gv_call, cK1_a, cK2_a, gv_callO, coK1_a, coK2_a, gv_potI, potI_0, potI_1, gv_potS, potSK_a, gv_potD, potDK_a, gv_rng, gv_seqI, seqOf_l, seqOf_t, gv_for, forK_a, gv_comp, compK_a, gv_comp0, cmpR_s, cmpK2_a, cmpK1_a, gv_comp1, gv_tt1, hide_nil, hide_0, hide_d, hide_p, hide_o, wipeD_nil, wipeD_cons, gv_ok, gv_bad, gv_ret, gv_opt, gv_max2, gv_min2, gv_int, gv_ix0, gv_ix1, gv_ix2, gv_abs, pick_nil, pick_0, pick_1, pick_2, pick_3, pick_4, pick_5, gv_lenT0, gv_lenT1, gv_lenT2, gv_lenT3, gv_lenT4, gv_lenL0, gv_lenL1, gv_lenL2, gv_lenL3, gv_lenL4, gv_neS, gv_eqS, gv_rng1, gv_rng2, bnd62_of, rngL_len, big_of, gv_all2, gv_maxL2, gv_minL2, List.map_cons, List.map_nil, List.length_cons, List.length_nil, List.replicate, List.cons_append, List.nil_append, List.append_nil, List.getElem?_cons_zero, List.getElem?_cons_succ, List.set_cons_zero, List.set_cons_succ, Nat.reduceSub, Nat.reduceAdd, Nat.reduceMul, Nat.zero_add, Nat.add_zero, true_and, and_true, Int.reducePow, Int.reduceToNat, Int.reduceMul, Int.reduceAdd, Int.reduceSub, Int.reduceMod, Int.reduceNeg, Int.reduceLE, Int.reduceLT, Int.reduceEq, Nat.reduceLT, Nat.reduceLeDiff, Nat.reducePow, Int.reduceAbs, ne_eq, not_false_eq_true, not_true_eq_false, small_of, decide_true, decide_false, Bool.and_self, Bool.true_and, Bool.and_true, Bool.not_false, Bool.not_true, brK_t, brK_f, true_implies, false_implies, forall_const, implies_true, not_false_iff, m1, m2, m3]
      refine (draw_spec h2 (by decide) (by decide)).imp ?_
      rintro _ θ3 ⟨i, rfl, _, _, h3⟩
      simp only [gv_var, varK_d, potK_p, gv_op, opK1_a, opK2_a, gv_I, gv_eqI, gv_neI, gv_neg, negK_a, gv_bool, boolK_a, gv_not, notK_a, brK_t, brK_f, brK_d, brK_n, runP_a, ansP_a, gv_and, gv_or, gv_andV, gv_orV, blK_a, gv_notV, gv_ite, gv_if, gv_nil, gv_cons, consK1_a, consK2_a, mapK_a, gv_tup, gv_lst, optK_a, gv_B, gv_chn, chnK_a, gv_last, gv_link, linkK_a, gv_isi, isi_ii, isi_bi, isi_tt, isi_ll, isi_ss, isi_ti, isi_li, isi_si, isi_tl, isi_lt, isi_it, isi_il, isi_is, isi_bs, isi_ib, isi_bb, isi_st, isi_sl, gv_seq, sqK_n, sqK_r, sqK_b, sqK_c, gv_next, gv_brk, gv_cnt, gv_retN, gv_set, setK_a, gv_par, parK_2, parK_3, gv_asg, asgK_a, asgR_s, bindT_n, bindT_2, bindT_3, gv_retS, retK_a, gv_retO, retOK_a, gv_fn, fnK_n, fnK_r, gv_enil, gv_econs, ecK1_a, ecK2_a, gv_epot, epK_a, rdK_d, rdK_o, roK_o, gv_call, cK1_a, cK2_a, gv_callO, coK1_a, coK2_a, gv_potI, potI_0, potI_1, gv_potS, potSK_a, gv_potD, potDK_a, gv_rng, gv_seqI, seqOf_l, seqOf_t, gv_for, forK_a, gv_comp, compK_a, gv_comp0, cmpR_s, cmpK2_a, cmpK1_a, gv_comp1, gv_tt1, hide_nil, hide_0, hide_d, hide_p, hide_o, wipeD_nil, wipeD_cons, gv_ok, gv_bad, gv_ret, gv_opt, gv_max2, gv_min2, gv_int, gv_ix0, gv_ix1, gv_ix2, gv_abs, pick_nil, pick_0, pick_1, pick_2, pick_3, pick_4, pick_5, gv_lenT0, gv_lenT1, gv_lenT2, gv_lenT3, gv_lenT4, gv_lenL0, gv_lenL1, gv_lenL2, gv_lenL3, gv_lenL4, gv_neS, gv_eqS, gv_rng1, gv_rng2, bnd62_of, rngL_len, big_of, gv_all2, gv_maxL2, gv_minL2, List.map_cons, List.map_nil, List.length_cons, List.length_nil, List.replicate, List.cons_append, List.nil_append, List.append_nil, List.getElem?_cons_zero, List.getElem?_cons_succ, List.set_cons_zero, List.set_cons_succ, Nat.reduceSub, Nat.reduceAdd, Nat.reduceMul, Nat.zero_add, Nat.add_zero, true_and, and_true, Int.reducePow, Int.reduceToNat, Int.reduceMul, Int.reduceAdd, Int.reduceSub, Int.reduceMod, Int.reduceNeg, Int.reduceLE, Int.reduceLT, Int.reduceEq, Nat.reduceLT, Nat.reduceLeDiff, Nat.reducePow, Int.reduceAbs, ne_eq, not_false_eq_true, not_true_eq_false, small_of, decide_true, decide_false, Bool.and_self, Bool.true_and, Bool.and_true, Bool.not_false, Bool.not_true, brK_t, brK_f, true_implies, false_implies, forall_const, implies_true, not_false_iff]
      refine ⟨fun _ => ?_, fun _ => ?_⟩
      · have bc : (-(b + 1024)) ≤ (-(a + 1024)) := by omega
        have sg : 1024 ≤ (-(b + 1024)) ∨ (-(a + 1024)) ≤ -1024 := by omega
        have lB : -1180591620717411303424 ≤ (-(b + 1024)) := by omega
        have uB : (-(a + 1024)) ≤ 1180591620717411303424 := by omega
        obtain ⟨t1, t2, t3⟩ := over_facts sg bc
        obtain ⟨bk⟩ : Nonempty (1024 ≤ rd 1208925819614629174706176 ((-(a + 1024))) ∨ ru ((-(b + 1024))) ≤ -1024 → rd 1208925819614629174706176 (ru ((-(b + 1024)))) ≤ (-(b + 1024)) ∧ (-(a + 1024)) ≤ ru (rd 1208925819614629174706176 ((-(a + 1024))))) := ⟨back_facts sg bc⟩
        obtain ⟨rp, rpl⟩ := repr2 (a := rd 1208925819614629174706176 ((-(a + 1024)))) (b := ru ((-(b + 1024)))) (log_of (by omega) (by omega)) (log_of (by omega) (by omega))
        refine ⟨fun _ => ?_, fun _ => ?_⟩
        all_goals
          refine over_of_ok sg bc lB uB t1 t2 ?_
          simp only [gv_var, varK_d, potK_p, gv_op, opK1_a, opK2_a, gv_I, gv_eqI, gv_neI, gv_neg, negK_a, gv_bool, boolK_a, gv_not, notK_a, brK_t, brK_f, brK_d, brK_n, runP_a, ansP_a, gv_and, gv_or, gv_andV, gv_orV, blK_a, gv_notV, gv_ite, gv_if, gv_nil, gv_cons, consK1_a, consK2_a, mapK_a, gv_tup, gv_lst, optK_a, gv_B, gv_chn, chnK_a, gv_last, gv_link, linkK_a, gv_isi, isi_ii, isi_bi, isi_tt, isi_ll, isi_ss, isi_ti, isi_li, isi_si, isi_tl, isi_lt, isi_it, isi_il, isi_is, isi_bs, isi_ib, isi_bb, isi_st, isi_sl, gv_seq, sqK_n, sqK_r, sqK_b, sqK_c, gv_next, gv_brk, gv_cnt, gv_retN, gv_set, setK_a, gv_par, parK_2, parK_3, gv_asg, asgK_a, asgR_s, bindT_n, bindT_2, bindT_3, gv_retS, retK_a, gv_retO, retOK_a, gv_fn, fnK_n, fnK_r, gv_enil, gv_econs, ecK1_a, ecK2_a, gv_epot, epK_a, rdK_d, rdK_o, roK_o, gv_call, cK1_a, cK2_a, gv_callO, coK1_a, coK2_a, gv_potI, potI_0, potI_1, gv_potS, potSK_a, gv_potD, potDK_a, gv_rng, gv_seqI, seqOf_l, seqOf_t, gv_for, forK_a, gv_comp, compK_a, gv_comp0, cmpR_s, cmpK2_a, cmpK1_a, gv_comp1, gv_tt1, hide_nil, hide_0, hide_d, hide_p, hide_o, wipeD_nil, wipeD_cons, gv_ok, gv_bad, gv_ret, gv_opt, gv_max2, gv_min2, gv_int, gv_ix0, gv_ix1, gv_ix2, gv_abs, pick_nil, pick_0, pick_1, pick_2, pick_3, pick_4, pick_5, gv_lenT0, gv_lenT1, gv_lenT2, gv_lenT3, gv_lenT4, gv_lenL0, gv_lenL1, gv_lenL2, gv_lenL3, gv_lenL4, gv_neS, gv_eqS, gv_rng1, gv_rng2, bnd62_of, rngL_len, big_of, gv_all2, gv_maxL2, gv_minL2, List.map_cons, List.map_nil, List.length_cons, List.length_nil, List.replicate, List.cons_append, List.nil_append, List.append_nil, List.getElem?_cons_zero, List.getElem?_cons_succ, List.set_cons_zero, List.set_cons_succ, Nat.reduceSub, Nat.reduceAdd, Nat.reduceMul, Nat.zero_add, Nat.add_zero, true_and, and_true, Int.reducePow, Int.reduceToNat, Int.reduceMul, Int.reduceAdd, Int.reduceSub, Int.reduceMod, Int.reduceNeg, Int.reduceLE, Int.reduceLT, Int.reduceEq, Nat.reduceLT, Nat.reduceLeDiff, Nat.reducePow, Int.reduceAbs, ne_eq, not_false_eq_true, not_true_eq_false, small_of, decide_true, decide_false, Bool.and_self, Bool.true_and, Bool.and_true, Bool.not_false, Bool.not_true, brK_t, brK_f, true_implies, false_implies, forall_const, implies_true, not_false_iff, rp]
          refine law_over_ok sg bc lB uB ?_
          simp only [gv_var, varK_d, potK_p, gv_op, opK1_a, opK2_a, gv_I, gv_eqI, gv_neI, gv_neg, negK_a, gv_bool, boolK_a, gv_not, notK_a, brK_t, brK_f, brK_d, brK_n, runP_a, ansP_a, gv_and, gv_or, gv_andV, gv_orV, blK_a, gv_notV, gv_ite, gv_if, gv_nil, gv_cons, consK1_a, consK2_a, mapK_a, gv_tup, gv_lst, optK_a, gv_B, gv_chn, chnK_a, gv_last, gv_link, linkK_a, gv_isi, isi_ii, isi_bi, isi_tt, isi_ll, isi_ss, isi_ti, isi_li, isi_si, isi_tl, isi_lt, isi_it, isi_il, isi_is, isi_bs, isi_ib, isi_bb, isi_st, isi_sl, gv_seq, sqK_n, sqK_r, sqK_b, sqK_c, gv_next, gv_brk, gv_cnt, gv_retN, gv_set, setK_a, gv_par, parK_2, parK_3, gv_asg, asgK_a, asgR_s, bindT_n, bindT_2, bindT_3, gv_retS, retK_a, gv_retO, retOK_a, gv_fn, fnK_n, fnK_r, gv_enil, gv_econs, ecK1_a, ecK2_a, gv_epot, epK_a, rdK_d, rdK_o, roK_o, gv_call, cK1_a, cK2_a, gv_callO, coK1_a, coK2_a, gv_potI, potI_0, potI_1, gv_potS, potSK_a, gv_potD, potDK_a, gv_rng, gv_seqI, seqOf_l, seqOf_t, gv_for, forK_a, gv_comp, compK_a, gv_comp0, cmpR_s, cmpK2_a, cmpK1_a, gv_comp1, gv_tt1, hide_nil, hide_0, hide_d, hide_p, hide_o, wipeD_nil, wipeD_cons, gv_ok, gv_bad, gv_ret, gv_opt, gv_max2, gv_min2, gv_int, gv_ix0, gv_ix1, gv_ix2, gv_abs, pick_nil, pick_0, pick_1, pick_2, pick_3, pick_4, pick_5, gv_lenT0, gv_lenT1, gv_lenT2, gv_lenT3, gv_lenT4, gv_lenL0, gv_lenL1, gv_lenL2, gv_lenL3, gv_lenL4, gv_neS, gv_eqS, gv_rng1, gv_rng2, bnd62_of, rngL_len, big_of, gv_all2, gv_maxL2, gv_minL2, List.map_cons, List.map_nil, List.length_cons, List.length_nil, List.replicate, List.cons_append, List.nil_append, List.append_nil, List.getElem?_cons_zero, List.getElem?_cons_succ, List.set_cons_zero, List.set_cons_succ, Nat.reduceSub, Nat.reduceAdd, Nat.reduceMul, Nat.zero_add, Nat.add_zero, true_and, and_true, Int.reducePow, Int.reduceToNat, Int.reduceMul, Int.reduceAdd, Int.reduceSub, Int.reduceMod, Int.reduceNeg, Int.reduceLE, Int.reduceLT, Int.reduceEq, Nat.reduceLT, Nat.reduceLeDiff, Nat.reducePow, Int.reduceAbs, ne_eq, not_false_eq_true, not_true_eq_false, small_of, decide_true, decide_false, Bool.and_self, Bool.true_and, Bool.and_true, Bool.not_false, Bool.not_true, brK_t, brK_f, true_implies, false_implies, forall_const, implies_true, not_false_iff, rp]
          refine ⟨fun g1 => ⟨fun g2 => ?_, fun g2 => ⟨fun g3 => ?_, fun g3 => ?_⟩⟩, fun g1 => ⟨fun g3 => ?_, fun g3 => ?_⟩⟩
          · obtain ⟨b1, b2⟩ := bk (Or.inl g2)
            obtain ⟨u1, u2, _⟩ := over_facts (a := rd 1208925819614629174706176 ((-(a + 1024)))) (b := ru ((-(b + 1024)))) (Or.inl g2) t3
            refine over_of_ok (Or.inl g2) t3 t1 t2 u1 u2 ?_
            simp only [gv_var, varK_d, potK_p, gv_op, opK1_a, opK2_a, gv_I, gv_eqI, gv_neI, gv_neg, negK_a, gv_bool, boolK_a, gv_not, notK_a, brK_t, brK_f, brK_d, brK_n, runP_a, ansP_a, gv_and, gv_or, gv_andV, gv_orV, blK_a, gv_notV, gv_ite, gv_if, gv_nil, gv_cons, consK1_a, consK2_a, mapK_a, gv_tup, gv_lst, optK_a, gv_B, gv_chn, chnK_a, gv_last, gv_link, linkK_a, gv_isi, isi_ii, isi_bi, isi_tt, isi_ll, isi_ss, isi_ti, isi_li, isi_si, isi_tl, isi_lt, isi_it, isi_il, isi_is, isi_bs, isi_ib, isi_bb, isi_st, isi_sl, gv_seq, sqK_n, sqK_r, sqK_b, sqK_c, gv_next, gv_brk, gv_cnt, gv_retN, gv_set, setK_a, gv_par, parK_2, parK_3, gv_asg, asgK_a, asgR_s, bindT_n, bindT_2, bindT_3, gv_retS, retK_a, gv_retO, retOK_a, gv_fn, fnK_n, fnK_r, gv_enil, gv_econs, ecK1_a, ecK2_a, gv_epot, epK_a, rdK_d, rdK_o, roK_o, gv_call, cK1_a, cK2_a, gv_callO, coK1_a, coK2_a, gv_potI, potI_0, potI_1, gv_potS, potSK_a, gv_potD, potDK_a, gv_rng, gv_seqI, seqOf_l, seqOf_t, gv_for, forK_a, gv_comp, compK_a, gv_comp0, cmpR_s, cmpK2_a, cmpK1_a, gv_comp1, gv_tt1, hide_nil, hide_0, hide_d, hide_p, hide_o, wipeD_nil, wipeD_cons, gv_ok, gv_bad, gv_ret, gv_opt, gv_max2, gv_min2, gv_int, gv_ix0, gv_ix1, gv_ix2, gv_abs, pick_nil, pick_0, pick_1, pick_2, pick_3, pick_4, pick_5, gv_lenT0, gv_lenT1, gv_lenT2, gv_lenT3, gv_lenT4, gv_lenL0, gv_lenL1, gv_lenL2, gv_lenL3, gv_lenL4, gv_neS, gv_eqS, gv_rng1, gv_rng2, bnd62_of, rngL_len, big_of, gv_all2, gv_maxL2, gv_minL2, List.map_cons, List.map_nil, List.length_cons, List.length_nil, List.replicate, List.cons_append, List.nil_append, List.append_nil, List.getElem?_cons_zero, List.getElem?_cons_succ, List.set_cons_zero, List.set_cons_succ, Nat.reduceSub, Nat.reduceAdd, Nat.reduceMul, Nat.zero_add, Nat.add_zero, true_and, and_true, Int.reducePow, Int.reduceToNat, Int.reduceMul, Int.reduceAdd, Int.reduceSub, Int.reduceMod, Int.reduceNeg, Int.reduceLE, Int.reduceLT, Int.reduceEq, Nat.reduceLT, Nat.reduceLeDiff, Nat.reducePow, Int.reduceAbs, ne_eq, not_false_eq_true, not_true_eq_false, small_of, decide_true, decide_false, Bool.and_self, Bool.true_and, Bool.and_true, Bool.not_false, Bool.not_true, brK_t, brK_f, true_implies, false_implies, forall_const, implies_true, not_false_iff, b1, b2, bc]
            exact stay _ _ _ _ _ _ _ _ h3
          · obtain ⟨b1, b2⟩ := bk (Or.inr g3)
            obtain ⟨u1, u2, _⟩ := over_facts (a := rd 1208925819614629174706176 ((-(a + 1024)))) (b := ru ((-(b + 1024)))) (Or.inr g3) t3
            refine over_of_ok (Or.inr g3) t3 t1 t2 u1 u2 ?_
            simp only [gv_var, varK_d, potK_p, gv_op, opK1_a, opK2_a, gv_I, gv_eqI, gv_neI, gv_neg, negK_a, gv_bool, boolK_a, gv_not, notK_a, brK_t, brK_f, brK_d, brK_n, runP_a, ansP_a, gv_and, gv_or, gv_andV, gv_orV, blK_a, gv_notV, gv_ite, gv_if, gv_nil, gv_cons, consK1_a, consK2_a, mapK_a, gv_tup, gv_lst, optK_a, gv_B, gv_chn, chnK_a, gv_last, gv_link, linkK_a, gv_isi, isi_ii, isi_bi, isi_tt, isi_ll, isi_ss, isi_ti, isi_li, isi_si, isi_tl, isi_lt, isi_it, isi_il, isi_is, isi_bs, isi_ib, isi_bb, isi_st, isi_sl, gv_seq, sqK_n, sqK_r, sqK_b, sqK_c, gv_next, gv_brk, gv_cnt, gv_retN, gv_set, setK_a, gv_par, parK_2, parK_3, gv_asg, asgK_a, asgR_s, bindT_n, bindT_2, bindT_3, gv_retS, retK_a, gv_retO, retOK_a, gv_fn, fnK_n, fnK_r, gv_enil, gv_econs, ecK1_a, ecK2_a, gv_epot, epK_a, rdK_d, rdK_o, roK_o, gv_call, cK1_a, cK2_a, gv_callO, coK1_a, coK2_a, gv_potI, potI_0, potI_1, gv_potS, potSK_a, gv_potD, potDK_a, gv_rng, gv_seqI, seqOf_l, seqOf_t, gv_for, forK_a, gv_comp, compK_a, gv_comp0, cmpR_s, cmpK2_a, cmpK1_a, gv_comp1, gv_tt1, hide_nil, hide_0, hide_d, hide_p, hide_o, wipeD_nil, wipeD_cons, gv_ok, gv_bad, gv_ret, gv_opt, gv_max2, gv_min2, gv_int, gv_ix0, gv_ix1, gv_ix2, gv_abs, pick_nil, pick_0, pick_1, pick_2, pick_3, pick_4, pick_5, gv_lenT0, gv_lenT1, gv_lenT2, gv_lenT3, gv_lenT4, gv_lenL0, gv_lenL1, gv_lenL2, gv_lenL3, gv_lenL4, gv_neS, gv_eqS, gv_rng1, gv_rng2, bnd62_of, rngL_len, big_of, gv_all2, gv_maxL2, gv_minL2, List.map_cons, List.map_nil, List.length_cons, List.length_nil, List.replicate, List.cons_append, List.nil_append, List.append_nil, List.getElem?_cons_zero, List.getElem?_cons_succ, List.set_cons_zero, List.set_cons_succ, Nat.reduceSub, Nat.reduceAdd, Nat.reduceMul, Nat.zero_add, Nat.add_zero, true_and, and_true, Int.reducePow, Int.reduceToNat, Int.reduceMul, Int.reduceAdd, Int.reduceSub, Int.reduceMod, Int.reduceNeg, Int.reduceLE, Int.reduceLT, Int.reduceEq, Nat.reduceLT, Nat.reduceLeDiff, Nat.reducePow, Int.reduceAbs, ne_eq, not_false_eq_true, not_true_eq_false, small_of, decide_true, decide_false, Bool.and_self, Bool.true_and, Bool.and_true, Bool.not_false, Bool.not_true, brK_t, brK_f, true_implies, false_implies, forall_const, implies_true, not_false_iff, b1, b2, bc]
            exact stay _ _ _ _ _ _ _ _ h3
          · exact stay _ _ _ _ _ _ _ _ h3
          · obtain ⟨b1, b2⟩ := bk (Or.inr g3)
            obtain ⟨u1, u2, _⟩ := over_facts (a := rd 1208925819614629174706176 ((-(a + 1024)))) (b := ru ((-(b + 1024)))) (Or.inr g3) t3
            refine over_of_ok (Or.inr g3) t3 t1 t2 u1 u2 ?_
            simp only [gv_var, varK_d, potK_p, gv_op, opK1_a, opK2_a, gv_I, gv_eqI, gv_neI, gv_neg, negK_a, gv_bool, boolK_a, gv_not, notK_a, brK_t, brK_f, brK_d, brK_n, runP_a, ansP_a, gv_and, gv_or, gv_andV, gv_orV, blK_a, gv_notV, gv_ite, gv_if, gv_nil, gv_cons, consK1_a, consK2_a, mapK_a, gv_tup, gv_lst, optK_a, gv_B, gv_chn, chnK_a, gv_last, gv_link, linkK_a, gv_isi, isi_ii, isi_bi, isi_tt, isi_ll, isi_ss, isi_ti, isi_li, isi_si, isi_tl, isi_lt, isi_it, isi_il, isi_is, isi_bs, isi_ib, isi_bb, isi_st, isi_sl, gv_seq, sqK_n, sqK_r, sqK_b, sqK_c, gv_next, gv_brk, gv_cnt, gv_retN, gv_set, setK_a, gv_par, parK_2, parK_3, gv_asg, asgK_a, asgR_s, bindT_n, bindT_2, bindT_3, gv_retS, retK_a, gv_retO, retOK_a, gv_fn, fnK_n, fnK_r, gv_enil, gv_econs, ecK1_a, ecK2_a, gv_epot, epK_a, rdK_d, rdK_o, roK_o, gv_call, cK1_a, cK2_a, gv_callO, coK1_a, coK2_a, gv_potI, potI_0, potI_1, gv_potS, potSK_a, gv_potD, potDK_a, gv_rng, gv_seqI, seqOf_l, seqOf_t, gv_for, forK_a, gv_comp, compK_a, gv_comp0, cmpR_s, cmpK2_a, cmpK1_a, gv_comp1, gv_tt1, hide_nil, hide_0, hide_d, hide_p, hide_o, wipeD_nil, wipeD_cons, gv_ok, gv_bad, gv_ret, gv_opt, gv_max2, gv_min2, gv_int, gv_ix0, gv_ix1, gv_ix2, gv_abs, pick_nil, pick_0, pick_1, pick_2, pick_3, pick_4, pick_5, gv_lenT0, gv_lenT1, gv_lenT2, gv_lenT3, gv_lenT4, gv_lenL0, gv_lenL1, gv_lenL2, gv_lenL3, gv_lenL4, gv_neS, gv_eqS, gv_rng1, gv_rng2, bnd62_of, rngL_len, big_of, gv_all2, gv_maxL2, gv_minL2, List.map_cons, List.map_nil, List.length_cons, List.length_nil, List.replicate, List.cons_append, List.nil_append, List.append_nil, List.getElem?_cons_zero, List.getElem?_cons_succ, List.set_cons_zero, List.set_cons_succ, Nat.reduceSub, Nat.reduceAdd, Nat.reduceMul, Nat.zero_add, Nat.add_zero, true_and, and_true, Int.reducePow, Int.reduceToNat, Int.reduceMul, Int.reduceAdd, Int.reduceSub, Int.reduceMod, Int.reduceNeg, Int.reduceLE, Int.reduceLT, Int.reduceEq, Nat.reduceLT, Nat.reduceLeDiff, Nat.reducePow, Int.reduceAbs, ne_eq, not_false_eq_true, not_true_eq_false, small_of, decide_true, decide_false, Bool.and_self, Bool.true_and, Bool.and_true, Bool.not_false, Bool.not_true, brK_t, brK_f, true_implies, false_implies, forall_const, implies_true, not_false_iff, b1, b2, bc]
            exact stay _ _ _ _ _ _ _ _ h3
          · exact stay _ _ _ _ _ _ _ _ h3
      · have bc : (a + 1024) ≤ (b + 1024) := by omega
        have sg : 1024 ≤ (a + 1024) ∨ (b + 1024) ≤ -1024 := by omega
        have lB : -1180591620717411303424 ≤ (a + 1024) := by omega
        have uB : (b + 1024) ≤ 1180591620717411303424 := by omega
        obtain ⟨t1, t2, t3⟩ := over_facts sg bc
        obtain ⟨bk⟩ : Nonempty (1024 ≤ rd 1208925819614629174706176 ((b + 1024)) ∨ ru ((a + 1024)) ≤ -1024 → rd 1208925819614629174706176 (ru ((a + 1024))) ≤ (a + 1024) ∧ (b + 1024) ≤ ru (rd 1208925819614629174706176 ((b + 1024)))) := ⟨back_facts sg bc⟩
        obtain ⟨rp, rpl⟩ := repr2 (a := rd 1208925819614629174706176 ((b + 1024))) (b := ru ((a + 1024))) (log_of (by omega) (by omega)) (log_of (by omega) (by omega))
        refine ⟨fun _ => ?_, fun _ => ?_⟩
        all_goals
          refine over_of_ok sg bc lB uB t1 t2 ?_
          simp only [gv_var, varK_d, potK_p, gv_op, opK1_a, opK2_a, gv_I, gv_eqI, gv_neI, gv_neg, negK_a, gv_bool, boolK_a, gv_not, notK_a, brK_t, brK_f, brK_d, brK_n, runP_a, ansP_a, gv_and, gv_or, gv_andV, gv_orV, blK_a, gv_notV, gv_ite, gv_if, gv_nil, gv_cons, consK1_a, consK2_a, mapK_a, gv_tup, gv_lst, optK_a, gv_B, gv_chn, chnK_a, gv_last, gv_link, linkK_a, gv_isi, isi_ii, isi_bi, isi_tt, isi_ll, isi_ss, isi_ti, isi_li, isi_si, isi_tl, isi_lt, isi_it, isi_il, isi_is, isi_bs, isi_ib, isi_bb, isi_st, isi_sl, gv_seq, sqK_n, sqK_r, sqK_b, sqK_c, gv_next, gv_brk, gv_cnt, gv_retN, gv_set, setK_a, gv_par, parK_2, parK_3, gv_asg, asgK_a, asgR_s, bindT_n, bindT_2, bindT_3, gv_retS, retK_a, gv_retO, retOK_a, gv_fn, fnK_n, fnK_r, gv_enil, gv_econs, ecK1_a, ecK2_a, gv_epot, epK_a, rdK_d, rdK_o, roK_o, gv_call, cK1_a, cK2_a, gv_callO, coK1_a, coK2_a, gv_potI, potI_0, potI_1, gv_potS, potSK_a, gv_potD, potDK_a, gv_rng, gv_seqI, seqOf_l, seqOf_t, gv_for, forK_a, gv_comp, compK_a, gv_comp0, cmpR_s, cmpK2_a, cmpK1_a, gv_comp1, gv_tt1, hide_nil, hide_0, hide_d, hide_p, hide_o, wipeD_nil, wipeD_cons, gv_ok, gv_bad, gv_ret, gv_opt, gv_max2, gv_min2, gv_int, gv_ix0, gv_ix1, gv_ix2, gv_abs, pick_nil, pick_0, pick_1, pick_2, pick_3, pick_4, pick_5, gv_lenT0, gv_lenT1, gv_lenT2, gv_lenT3, gv_lenT4, gv_lenL0, gv_lenL1, gv_lenL2, gv_lenL3, gv_lenL4, gv_neS, gv_eqS, gv_rng1, gv_rng2, bnd62_of, rngL_len, big_of, gv_all2, gv_maxL2, gv_minL2, List.map_cons, List.map_nil, List.length_cons, List.length_nil, List.replicate, List.cons_append, List.nil_append, List.append_nil, List.getElem?_cons_zero, List.getElem?_cons_succ, List.set_cons_zero, List.set_cons_succ, Nat.reduceSub, Nat.reduceAdd, Nat.reduceMul, Nat.zero_add, Nat.add_zero, true_and, and_true, Int.reducePow, Int.reduceToNat, Int.reduceMul, Int.reduceAdd, Int.reduceSub, Int.reduceMod, Int.reduceNeg, Int.reduceLE, Int.reduceLT, Int.reduceEq, Nat.reduceLT, Nat.reduceLeDiff, Nat.reducePow, Int.reduceAbs, ne_eq, not_false_eq_true, not_true_eq_false, small_of, decide_true, decide_false, Bool.and_self, Bool.true_and, Bool.and_true, Bool.not_false, Bool.not_true, brK_t, brK_f, true_implies, false_implies, forall_const, implies_true, not_false_iff, rp]
          refine law_over_ok sg bc lB uB ?_
          simp only [gv_var, varK_d, potK_p, gv_op, opK1_a, opK2_a, gv_I, gv_eqI, gv_neI, gv_neg, negK_a, gv_bool, boolK_a, gv_not, notK_a, brK_t, brK_f, brK_d, brK_n, runP_a, ansP_a, gv_and, gv_or, gv_andV, gv_orV, blK_a, gv_notV, gv_ite, gv_if, gv_nil, gv_cons, consK1_a, consK2_a, mapK_a, gv_tup, gv_lst, optK_a, gv_B, gv_chn, chnK_a, gv_last, gv_link, linkK_a, gv_isi, isi_ii, isi_bi, isi_tt, isi_ll, isi_ss, isi_ti, isi_li, isi_si, isi_tl, isi_lt, isi_it, isi_il, isi_is, isi_bs, isi_ib, isi_bb, isi_st, isi_sl, gv_seq, sqK_n, sqK_r, sqK_b, sqK_c, gv_next, gv_brk, gv_cnt, gv_retN, gv_set, setK_a, gv_par, parK_2, parK_3, gv_asg, asgK_a, asgR_s, bindT_n, bindT_2, bindT_3, gv_retS, retK_a, gv_retO, retOK_a, gv_fn, fnK_n, fnK_r, gv_enil, gv_econs, ecK1_a, ecK2_a, gv_epot, epK_a, rdK_d, rdK_o, roK_o, gv_call, cK1_a, cK2_a, gv_callO, coK1_a, coK2_a, gv_potI, potI_0, potI_1, gv_potS, potSK_a, gv_potD, potDK_a, gv_rng, gv_seqI, seqOf_l, seqOf_t, gv_for, forK_a, gv_comp, compK_a, gv_comp0, cmpR_s, cmpK2_a, cmpK1_a, gv_comp1, gv_tt1, hide_nil, hide_0, hide_d, hide_p, hide_o, wipeD_nil, wipeD_cons, gv_ok, gv_bad, gv_ret, gv_opt, gv_max2, gv_min2, gv_int, gv_ix0, gv_ix1, gv_ix2, gv_abs, pick_nil, pick_0, pick_1, pick_2, pick_3, pick_4, pick_5, gv_lenT0, gv_lenT1, gv_lenT2, gv_lenT3, gv_lenT4, gv_lenL0, gv_lenL1, gv_lenL2, gv_lenL3, gv_lenL4, gv_neS, gv_eqS, gv_rng1, gv_rng2, bnd62_of, rngL_len, big_of, gv_all2, gv_maxL2, gv_minL2, List.map_cons, List.map_nil, List.length_cons, List.length_nil, List.replicate, List.cons_append, List.nil_append, List.append_nil, List.getElem?_cons_zero, List.getElem?_cons_succ, List.set_cons_zero, List.set_cons_succ, Nat.reduceSub, Nat.reduceAdd, Nat.reduceMul, Nat.zero_add, Nat.add_zero, true_and, and_true, Int.reducePow, Int.reduceToNat, Int.reduceMul, Int.reduceAdd, Int.reduceSub, Int.reduceMod, Int.reduceNeg, Int.reduceLE, Int.reduceLT, Int.reduceEq, Nat.reduceLT, Nat.reduceLeDiff, Nat.reducePow, Int.reduceAbs, ne_eq, not_false_eq_true, not_true_eq_false, small_of, decide_true, decide_false, Bool.and_self, Bool.true_and, Bool.and_true, Bool.not_false, Bool.not_true, brK_t, brK_f, true_implies, false_implies, forall_const, implies_true, not_false_iff, rp]
          refine ⟨fun g1 => ⟨fun g2 => ?_, fun g2 => ⟨fun g3 => ?_, fun g3 => ?_⟩⟩, fun g1 => ⟨fun g3 => ?_, fun g3 => ?_⟩⟩
          · obtain ⟨b1, b2⟩ := bk (Or.inl g2)
            obtain ⟨u1, u2, _⟩ := over_facts (a := rd 1208925819614629174706176 ((b + 1024))) (b := ru ((a + 1024))) (Or.inl g2) t3
            refine over_of_ok (Or.inl g2) t3 t1 t2 u1 u2 ?_
            simp only [gv_var, varK_d, potK_p, gv_op, opK1_a, opK2_a, gv_I, gv_eqI, gv_neI, gv_neg, negK_a, gv_bool, boolK_a, gv_not, notK_a, brK_t, brK_f, brK_d, brK_n, runP_a, ansP_a, gv_and, gv_or, gv_andV, gv_orV, blK_a, gv_notV, gv_ite, gv_if, gv_nil, gv_cons, consK1_a, consK2_a, mapK_a, gv_tup, gv_lst, optK_a, gv_B, gv_chn, chnK_a, gv_last, gv_link, linkK_a, gv_isi, isi_ii, isi_bi, isi_tt, isi_ll, isi_ss, isi_ti, isi_li, isi_si, isi_tl, isi_lt, isi_it, isi_il, isi_is, isi_bs, isi_ib, isi_bb, isi_st, isi_sl, gv_seq, sqK_n, sqK_r, sqK_b, sqK_c, gv_next, gv_brk, gv_cnt, gv_retN, gv_set, setK_a, gv_par, parK_2, parK_3, gv_asg, asgK_a, asgR_s, bindT_n, bindT_2, bindT_3, gv_retS, retK_a, gv_retO, retOK_a, gv_fn, fnK_n, fnK_r, gv_enil, gv_econs, ecK1_a, ecK2_a, gv_epot, epK_a, rdK_d, rdK_o, roK_o, gv_call, cK1_a, cK2_a, gv_callO, coK1_a, coK2_a, gv_potI, potI_0, potI_1, gv_potS, potSK_a, gv_potD, potDK_a, gv_rng, gv_seqI, seqOf_l, seqOf_t, gv_for, forK_a, gv_comp, compK_a, gv_comp0, cmpR_s, cmpK2_a, cmpK1_a, gv_comp1, gv_tt1, hide_nil, hide_0, hide_d, hide_p, hide_o, wipeD_nil, wipeD_cons, gv_ok, gv_bad, gv_ret, gv_opt, gv_max2, gv_min2, gv_int, gv_ix0, gv_ix1, gv_ix2, gv_abs, pick_nil, pick_0, pick_1, pick_2, pick_3, pick_4, pick_5, gv_lenT0, gv_lenT1, gv_lenT2, gv_lenT3, gv_lenT4, gv_lenL0, gv_lenL1, gv_lenL2, gv_lenL3, gv_lenL4, gv_neS, gv_eqS, gv_rng1, gv_rng2, bnd62_of, rngL_len, big_of, gv_all2, gv_maxL2, gv_minL2, List.map_cons, List.map_nil, List.length_cons, List.length_nil, List.replicate, List.cons_append, List.nil_append, List.append_nil, List.getElem?_cons_zero, List.getElem?_cons_succ, List.set_cons_zero, List.set_cons_succ, Nat.reduceSub, Nat.reduceAdd, Nat.reduceMul, Nat.zero_add, Nat.add_zero, true_and, and_true, Int.reducePow, Int.reduceToNat, Int.reduceMul, Int.reduceAdd, Int.reduceSub, Int.reduceMod, Int.reduceNeg, Int.reduceLE, Int.reduceLT, Int.reduceEq, Nat.reduceLT, Nat.reduceLeDiff, Nat.reducePow, Int.reduceAbs, ne_eq, not_false_eq_true, not_true_eq_false, small_of, decide_true, decide_false, Bool.and_self, Bool.true_and, Bool.and_true, Bool.not_false, Bool.not_true, brK_t, brK_f, true_implies, false_implies, forall_const, implies_true, not_false_iff, b1, b2, bc]
            exact stay _ _ _ _ _ _ _ _ h3
          · obtain ⟨b1, b2⟩ := bk (Or.inr g3)
            obtain ⟨u1, u2, _⟩ := over_facts (a := rd 1208925819614629174706176 ((b + 1024))) (b := ru ((a + 1024))) (Or.inr g3) t3
            refine over_of_ok (Or.inr g3) t3 t1 t2 u1 u2 ?_
            simp only [gv_var, varK_d, potK_p, gv_op, opK1_a, opK2_a, gv_I, gv_eqI, gv_neI, gv_neg, negK_a, gv_bool, boolK_a, gv_not, notK_a, brK_t, brK_f, brK_d, brK_n, runP_a, ansP_a, gv_and, gv_or, gv_andV, gv_orV, blK_a, gv_notV, gv_ite, gv_if, gv_nil, gv_cons, consK1_a, consK2_a, mapK_a, gv_tup, gv_lst, optK_a, gv_B, gv_chn, chnK_a, gv_last, gv_link, linkK_a, gv_isi, isi_ii, isi_bi, isi_tt, isi_ll, isi_ss, isi_ti, isi_li, isi_si, isi_tl, isi_lt, isi_it, isi_il, isi_is, isi_bs, isi_ib, isi_bb, isi_st, isi_sl, gv_seq, sqK_n, sqK_r, sqK_b, sqK_c, gv_next, gv_brk, gv_cnt, gv_retN, gv_set, setK_a, gv_par, parK_2, parK_3, gv_asg, asgK_a, asgR_s, bindT_n, bindT_2, bindT_3, gv_retS, retK_a, gv_retO, retOK_a, gv_fn, fnK_n, fnK_r, gv_enil, gv_econs, ecK1_a, ecK2_a, gv_epot, epK_a, rdK_d, rdK_o, roK_o, gv_call, cK1_a, cK2_a, gv_callO, coK1_a, coK2_a, gv_potI, potI_0, potI_1, gv_potS, potSK_a, gv_potD, potDK_a, gv_rng, gv_seqI, seqOf_l, seqOf_t, gv_for, forK_a, gv_comp, compK_a, gv_comp0, cmpR_s, cmpK2_a, cmpK1_a, gv_comp1, gv_tt1, hide_nil, hide_0, hide_d, hide_p, hide_o, wipeD_nil, wipeD_cons, gv_ok, gv_bad, gv_ret, gv_opt, gv_max2, gv_min2, gv_int, gv_ix0, gv_ix1, gv_ix2, gv_abs, pick_nil, pick_0, pick_1, pick_2, pick_3, pick_4, pick_5, gv_lenT0, gv_lenT1, gv_lenT2, gv_lenT3, gv_lenT4, gv_lenL0, gv_lenL1, gv_lenL2, gv_lenL3, gv_lenL4, gv_neS, gv_eqS, gv_rng1, gv_rng2, bnd62_of, rngL_len, big_of, gv_all2, gv_maxL2, gv_minL2, List.map_cons, List.map_nil, List.length_cons, List.length_nil, List.replicate, List.cons_append, List.nil_append, List.append_nil, List.getElem?_cons_zero, List.getElem?_cons_succ, List.set_cons_zero, List.set_cons_succ, Nat.reduceSub, Nat.reduceAdd, Nat.reduceMul, Nat.zero_add, Nat.add_zero, true_and, and_true, Int.reducePow, Int.reduceToNat, Int.reduceMul, Int.reduceAdd, Int.reduceSub, Int.reduceMod, Int.reduceNeg, Int.reduceLE, Int.reduceLT, Int.reduceEq, Nat.reduceLT, Nat.reduceLeDiff, Nat.reducePow, Int.reduceAbs, ne_eq, not_false_eq_true, not_true_eq_false, small_of, decide_true, decide_false, Bool.and_self, Bool.true_and, Bool.and_true, Bool.not_false, Bool.not_true, brK_t, brK_f, true_implies, false_implies, forall_const, implies_true, not_false_iff, b1, b2, bc]
            exact stay _ _ _ _ _ _ _ _ h3
          · exact stay _ _ _ _ _ _ _ _ h3
          · obtain ⟨b1, b2⟩ := bk (Or.inr g3)
            obtain ⟨u1, u2, _⟩ := over_facts (a := rd 1208925819614629174706176 ((b + 1024))) (b := ru ((a + 1024))) (Or.inr g3) t3
            refine over_of_ok (Or.inr g3) t3 t1 t2 u1 u2 ?_
            simp only [gv_var, varK_d, potK_p, gv_op, opK1_a, opK2_a, gv_I, gv_eqI, gv_neI, gv_neg, negK_a, gv_bool, boolK_a, gv_not, notK_a, brK_t, brK_f, brK_d, brK_n, runP_a, ansP_a, gv_and, gv_or, gv_andV, gv_orV, blK_a, gv_notV, gv_ite, gv_if, gv_nil, gv_cons, consK1_a, consK2_a, mapK_a, gv_tup, gv_lst, optK_a, gv_B, gv_chn, chnK_a, gv_last, gv_link, linkK_a, gv_isi, isi_ii, isi_bi, isi_tt, isi_ll, isi_ss, isi_ti, isi_li, isi_si, isi_tl, isi_lt, isi_it, isi_il, isi_is, isi_bs, isi_ib, isi_bb, isi_st, isi_sl, gv_seq, sqK_n, sqK_r, sqK_b, sqK_c, gv_next, gv_brk, gv_cnt, gv_retN, gv_set, setK_a, gv_par, parK_2, parK_3, gv_asg, asgK_a, asgR_s, bindT_n, bindT_2, bindT_3, gv_retS, retK_a, gv_retO, retOK_a, gv_fn, fnK_n, fnK_r, gv_enil, gv_econs, ecK1_a, ecK2_a, gv_epot, epK_a, rdK_d, rdK_o, roK_o, gv_call, cK1_a, cK2_a, gv_callO, coK1_a, coK2_a, gv_potI, potI_0, potI_1, gv_potS, potSK_a, gv_potD, potDK_a, gv_rng, gv_seqI, seqOf_l, seqOf_t, gv_for, forK_a, gv_comp, compK_a, gv_comp0, cmpR_s, cmpK2_a, cmpK1_a, gv_comp1, gv_tt1, hide_nil, hide_0, hide_d, hide_p, hide_o, wipeD_nil, wipeD_cons, gv_ok, gv_bad, gv_ret, gv_opt, gv_max2, gv_min2, gv_int, gv_ix0, gv_ix1, gv_ix2, gv_abs, pick_nil, pick_0, pick_1, pick_2, pick_3, pick_4, pick_5, gv_lenT0, gv_lenT1, gv_lenT2, gv_lenT3, gv_lenT4, gv_lenL0, gv_lenL1, gv_lenL2, gv_lenL3, gv_lenL4, gv_neS, gv_eqS, gv_rng1, gv_rng2, bnd62_of, rngL_len, big_of, gv_all2, gv_maxL2, gv_minL2, List.map_cons, List.map_nil, List.length_cons, List.length_nil, List.replicate, List.cons_append, List.nil_append, List.append_nil, List.getElem?_cons_zero, List.getElem?_cons_succ, List.set_cons_zero, List.set_cons_succ, Nat.reduceSub, Nat.reduceAdd, Nat.reduceMul, Nat.zero_add, Nat.add_zero, true_and, and_true, Int.reducePow, Int.reduceToNat, Int.reduceMul, Int.reduceAdd, Int.reduceSub, Int.reduceMod, Int.reduceNeg, Int.reduceLE, Int.reduceLT, Int.reduceEq, Nat.reduceLT, Nat.reduceLeDiff, Nat.reducePow, Int.reduceAbs, ne_eq, not_false_eq_true, not_true_eq_false, small_of, decide_true, decide_false, Bool.and_self, Bool.true_and, Bool.and_true, Bool.not_false, Bool.not_true, brK_t, brK_f, true_implies, false_implies, forall_const, implies_true, not_false_iff, b1, b2, bc]
            exact stay _ _ _ _ _ _ _ _ h3
          · exact stay _ _ _ _ _ _ _ _ h3
  · intro d hd
    unfold rngL at hd
    obtain ⟨n, _, rfl⟩ := List.mem_map.mp hd
    exact ⟨_, rfl⟩
theorem law_true (ns : List Int) (hl : ns.length ≤ 63) (θ : Pot) : ∃ θ', m_law [.dat (.lst (ns.map Dt.int))] θ = .ok (.d (.bl true)) θ' := by
  have z : Gv (m_law [.dat (.lst (ns.map Dt.int))] θ) fun r _ => r = .d (.bl true) := by
    unfold m_law r_law
    simp only [gv_var, varK_d, potK_p, gv_op, opK1_a, opK2_a, gv_I, gv_eqI, gv_neI, gv_neg, negK_a, gv_bool, boolK_a, gv_not, notK_a, brK_t, brK_f, brK_d, brK_n, runP_a, ansP_a, gv_and, gv_or, gv_andV, gv_orV, blK_a, gv_notV, gv_ite, gv_if, gv_nil, gv_cons, consK1_a, consK2_a, mapK_a, gv_tup, gv_lst, optK_a, gv_B, gv_chn, chnK_a, gv_last, gv_link, linkK_a, gv_isi, isi_ii, isi_bi, isi_tt, isi_ll, isi_ss, isi_ti, isi_li, isi_si, isi_tl, isi_lt, isi_it, isi_il, isi_is, isi_bs, isi_ib, isi_bb, isi_st, isi_sl, gv_seq, sqK_n, sqK_r, sqK_b, sqK_c, gv_next, gv_brk, gv_cnt, gv_retN, gv_set, setK_a, gv_par, parK_2, parK_3, gv_asg, asgK_a, asgR_s, bindT_n, bindT_2, bindT_3, gv_retS, retK_a, gv_retO, retOK_a, gv_fn, fnK_n, fnK_r, gv_enil, gv_econs, ecK1_a, ecK2_a, gv_epot, epK_a, rdK_d, rdK_o, roK_o, gv_call, cK1_a, cK2_a, gv_callO, coK1_a, coK2_a, gv_potI, potI_0, potI_1, gv_potS, potSK_a, gv_potD, potDK_a, gv_rng, gv_seqI, seqOf_l, seqOf_t, gv_for, forK_a, gv_comp, compK_a, gv_comp0, cmpR_s, cmpK2_a, cmpK1_a, gv_comp1, gv_tt1, hide_nil, hide_0, hide_d, hide_p, hide_o, wipeD_nil, wipeD_cons, gv_ok, gv_bad, gv_ret, gv_opt, gv_max2, gv_min2, gv_int, gv_ix0, gv_ix1, gv_ix2, gv_abs, pick_nil, pick_0, pick_1, pick_2, pick_3, pick_4, pick_5, gv_lenT0, gv_lenT1, gv_lenT2, gv_lenT3, gv_lenT4, gv_lenL0, gv_lenL1, gv_lenL2, gv_lenL3, gv_lenL4, gv_neS, gv_eqS, gv_rng1, gv_rng2, bnd62_of, rngL_len, big_of, gv_all2, gv_maxL2, gv_minL2, List.map_cons, List.map_nil, List.length_cons, List.length_nil, List.replicate, List.cons_append, List.nil_append, List.append_nil, List.getElem?_cons_zero, List.getElem?_cons_succ, List.set_cons_zero, List.set_cons_succ, Nat.reduceSub, Nat.reduceAdd, Nat.reduceMul, Nat.zero_add, Nat.add_zero, true_and, and_true, Int.reducePow, Int.reduceToNat, Int.reduceMul, Int.reduceAdd, Int.reduceSub, Int.reduceMod, Int.reduceNeg, Int.reduceLE, Int.reduceLT, Int.reduceEq, Nat.reduceLT, Nat.reduceLeDiff, Nat.reducePow, Int.reduceAbs, ne_eq, not_false_eq_true, not_true_eq_false, small_of, decide_true, decide_false, Bool.and_self, Bool.true_and, Bool.and_true, Bool.not_false, Bool.not_true, brK_t, brK_f, true_implies, false_implies, forall_const, implies_true, not_false_iff, gv_lawR]
    refine (pot_spec ns θ).imp ?_
    rintro _ θ1 ⟨a, b, rfl, h⟩
    simp only [gv_var, varK_d, potK_p, gv_op, opK1_a, opK2_a, gv_I, gv_eqI, gv_neI, gv_neg, negK_a, gv_bool, boolK_a, gv_not, notK_a, brK_t, brK_f, brK_d, brK_n, runP_a, ansP_a, gv_and, gv_or, gv_andV, gv_orV, blK_a, gv_notV, gv_ite, gv_if, gv_nil, gv_cons, consK1_a, consK2_a, mapK_a, gv_tup, gv_lst, optK_a, gv_B, gv_chn, chnK_a, gv_last, gv_link, linkK_a, gv_isi, isi_ii, isi_bi, isi_tt, isi_ll, isi_ss, isi_ti, isi_li, isi_si, isi_tl, isi_lt, isi_it, isi_il, isi_is, isi_bs, isi_ib, isi_bb, isi_st, isi_sl, gv_seq, sqK_n, sqK_r, sqK_b, sqK_c, gv_next, gv_brk, gv_cnt, gv_retN, gv_set, setK_a, gv_par, parK_2, parK_3, gv_asg, asgK_a, asgR_s, bindT_n, bindT_2, bindT_3, gv_retS, retK_a, gv_retO, retOK_a, gv_fn, fnK_n, fnK_r, gv_enil, gv_econs, ecK1_a, ecK2_a, gv_epot, epK_a, rdK_d, rdK_o, roK_o, gv_call, cK1_a, cK2_a, gv_callO, coK1_a, coK2_a, gv_potI, potI_0, potI_1, gv_potS, potSK_a, gv_potD, potDK_a, gv_rng, gv_seqI, seqOf_l, seqOf_t, gv_for, forK_a, gv_comp, compK_a, gv_comp0, cmpR_s, cmpK2_a, cmpK1_a, gv_comp1, gv_tt1, hide_nil, hide_0, hide_d, hide_p, hide_o, wipeD_nil, wipeD_cons, gv_ok, gv_bad, gv_ret, gv_opt, gv_max2, gv_min2, gv_int, gv_ix0, gv_ix1, gv_ix2, gv_abs, pick_nil, pick_0, pick_1, pick_2, pick_3, pick_4, pick_5, gv_lenT0, gv_lenT1, gv_lenT2, gv_lenT3, gv_lenT4, gv_lenL0, gv_lenL1, gv_lenL2, gv_lenL3, gv_lenL4, gv_neS, gv_eqS, gv_rng1, gv_rng2, bnd62_of, rngL_len, big_of, gv_all2, gv_maxL2, gv_minL2, List.map_cons, List.map_nil, List.length_cons, List.length_nil, List.replicate, List.cons_append, List.nil_append, List.append_nil, List.getElem?_cons_zero, List.getElem?_cons_succ, List.set_cons_zero, List.set_cons_succ, Nat.reduceSub, Nat.reduceAdd, Nat.reduceMul, Nat.zero_add, Nat.add_zero, true_and, and_true, Int.reducePow, Int.reduceToNat, Int.reduceMul, Int.reduceAdd, Int.reduceSub, Int.reduceMod, Int.reduceNeg, Int.reduceLE, Int.reduceLT, Int.reduceEq, Nat.reduceLT, Nat.reduceLeDiff, Nat.reducePow, Int.reduceAbs, ne_eq, not_false_eq_true, not_true_eq_false, small_of, decide_true, decide_false, Bool.and_self, Bool.true_and, Bool.and_true, Bool.not_false, Bool.not_true, brK_t, brK_f, true_implies, false_implies, forall_const, implies_true, not_false_iff]
    refine (right_true h).imp ?_
    rintro _ θ2 rfl
    simp only [gv_var, varK_d, potK_p, gv_op, opK1_a, opK2_a, gv_I, gv_eqI, gv_neI, gv_neg, negK_a, gv_bool, boolK_a, gv_not, notK_a, brK_t, brK_f, brK_d, brK_n, runP_a, ansP_a, gv_and, gv_or, gv_andV, gv_orV, blK_a, gv_notV, gv_ite, gv_if, gv_nil, gv_cons, consK1_a, consK2_a, mapK_a, gv_tup, gv_lst, optK_a, gv_B, gv_chn, chnK_a, gv_last, gv_link, linkK_a, gv_isi, isi_ii, isi_bi, isi_tt, isi_ll, isi_ss, isi_ti, isi_li, isi_si, isi_tl, isi_lt, isi_it, isi_il, isi_is, isi_bs, isi_ib, isi_bb, isi_st, isi_sl, gv_seq, sqK_n, sqK_r, sqK_b, sqK_c, gv_next, gv_brk, gv_cnt, gv_retN, gv_set, setK_a, gv_par, parK_2, parK_3, gv_asg, asgK_a, asgR_s, bindT_n, bindT_2, bindT_3, gv_retS, retK_a, gv_retO, retOK_a, gv_fn, fnK_n, fnK_r, gv_enil, gv_econs, ecK1_a, ecK2_a, gv_epot, epK_a, rdK_d, rdK_o, roK_o, gv_call, cK1_a, cK2_a, gv_callO, coK1_a, coK2_a, gv_potI, potI_0, potI_1, gv_potS, potSK_a, gv_potD, potDK_a, gv_rng, gv_seqI, seqOf_l, seqOf_t, gv_for, forK_a, gv_comp, compK_a, gv_comp0, cmpR_s, cmpK2_a, cmpK1_a, gv_comp1, gv_tt1, hide_nil, hide_0, hide_d, hide_p, hide_o, wipeD_nil, wipeD_cons, gv_ok, gv_bad, gv_ret, gv_opt, gv_max2, gv_min2, gv_int, gv_ix0, gv_ix1, gv_ix2, gv_abs, pick_nil, pick_0, pick_1, pick_2, pick_3, pick_4, pick_5, gv_lenT0, gv_lenT1, gv_lenT2, gv_lenT3, gv_lenT4, gv_lenL0, gv_lenL1, gv_lenL2, gv_lenL3, gv_lenL4, gv_neS, gv_eqS, gv_rng1, gv_rng2, bnd62_of, rngL_len, big_of, gv_all2, gv_maxL2, gv_minL2, List.map_cons, List.map_nil, List.length_cons, List.length_nil, List.replicate, List.cons_append, List.nil_append, List.append_nil, List.getElem?_cons_zero, List.getElem?_cons_succ, List.set_cons_zero, List.set_cons_succ, Nat.reduceSub, Nat.reduceAdd, Nat.reduceMul, Nat.zero_add, Nat.add_zero, true_and, and_true, Int.reducePow, Int.reduceToNat, Int.reduceMul, Int.reduceAdd, Int.reduceSub, Int.reduceMod, Int.reduceNeg, Int.reduceLE, Int.reduceLT, Int.reduceEq, Nat.reduceLT, Nat.reduceLeDiff, Nat.reducePow, Int.reduceAbs, ne_eq, not_false_eq_true, not_true_eq_false, small_of, decide_true, decide_false, Bool.and_self, Bool.true_and, Bool.and_true, Bool.not_false, Bool.not_true, brK_t, brK_f, true_implies, false_implies, forall_const, implies_true, not_false_iff]
  obtain ⟨r, θ', e, rfl⟩ := z.ok
  exact ⟨θ', e⟩
end Tc


namespace Tc
open PySem PySem.Spec PyProof.Rows L2 Pd
def dd__law_draw : He.DefD := ⟨("_law_draw", none), "_law_draw", "_law_draw", defArgs s__law_draw, defBody s__law_draw, defScope s__law_draw, [], []⟩
def dd__law_number : He.DefD := ⟨("_law_number", none), "_law_number", "_law_number", defArgs s__law_number, defBody s__law_number, defScope s__law_number, [], []⟩
def dd__law_interval : He.DefD := ⟨("_law_interval", none), "_law_interval", "_law_interval", defArgs s__law_interval, defBody s__law_interval, defScope s__law_interval, [], []⟩
def dd_root_at : He.DefD := ⟨("root_at", none), "root_at", "root_at", defArgs s_root_at, defBody s_root_at, defScope s_root_at, [], []⟩
def dd_is_integer : He.DefD := ⟨("is_integer", none), "is_integer", "is_integer", defArgs s_is_integer, defBody s_is_integer, defScope s_is_integer, [], []⟩
def dd_is_interval : He.DefD := ⟨("is_interval", none), "is_interval", "is_interval", defArgs s_is_interval, defBody s_is_interval, defScope s_is_interval, [], []⟩
def dd_want_interval : He.DefD := ⟨("want_interval", none), "want_interval", "want_interval", defArgs s_want_interval, defBody s_want_interval, defScope s_want_interval, [], []⟩
def dd_root_of : He.DefD := ⟨("root_of", none), "root_of", "root_of", defArgs s_root_of, defBody s_root_of, defScope s_root_of, [], []⟩
def dd__law_root_right : He.DefD := ⟨("_law_root_right", none), "_law_root_right", "_law_root_right", defArgs s__law_root_right, defBody s__law_root_right, defScope s__law_root_right, [], []⟩
def dd_checked_ends : He.DefD := ⟨("checked_ends", none), "checked_ends", "checked_ends", defArgs s_checked_ends, defBody s_checked_ends, defScope s_checked_ends, [], []⟩
def dd_rounded_down : He.DefD := ⟨("rounded_down", none), "rounded_down", "rounded_down", defArgs s_rounded_down, defBody s_rounded_down, defScope s_rounded_down, [], []⟩
def dd_rounded_up : He.DefD := ⟨("rounded_up", none), "rounded_up", "rounded_up", defArgs s_rounded_up, defBody s_rounded_up, defScope s_rounded_up, [], []⟩
def dd_over_at : He.DefD := ⟨("over_at", none), "over_at", "over_at", defArgs s_over_at, defBody s_over_at, defScope s_over_at, [], []⟩
def dd_over_of : He.DefD := ⟨("over_of", none), "over_of", "over_of", defArgs s_over_of, defBody s_over_of, defScope s_over_of, [], []⟩
def dd__law_over : He.DefD := ⟨("_law_over", none), "_law_over", "_law_over", defArgs s__law_over, defBody s__law_over, defScope s__law_over, [], []⟩
def dd__law_right : He.DefD := ⟨("_law_right", none), "_law_right", "_law_right", defArgs s__law_right, defBody s__law_right, defScope s__law_right, [], []⟩
def dd__law_pot : He.DefD := ⟨("_law_pot", none), "_law_pot", "_law_pot", defArgs s__law_pot, defBody s__law_pot, defScope s__law_pot, [], []⟩
def dd_law : He.DefD := ⟨("law", none), "law", "law", defArgs s_law, defBody s_law, defScope s_law, [], []⟩
def fn : List He.DefD := ([dd__law_draw, dd__law_number, dd__law_interval, dd_root_at, dd_is_integer, dd_is_interval, dd_want_interval, dd_root_of, dd__law_root_right, dd_checked_ends, dd_rounded_down, dd_rounded_up, dd_over_at, dd_over_of, dd__law_over, dd__law_right, dd__law_pot, dd_law] : List He.DefD)
def fa : List He.Fa := ([.glo "_law_draw", .glo "_law_number", .glo "_law_interval", .glo "root_at", .glo "is_integer", .glo "is_interval", .glo "want_interval", .glo "root_of", .glo "_law_root_right", .glo "checked_ends", .glo "rounded_down", .glo "rounded_up", .glo "over_at", .glo "over_of", .glo "_law_over", .glo "_law_right", .glo "_law_pot", .glo "law", .free "ArithmeticError", .free "RuntimeError", .free "ValueError", .free "abs", .free "all", .free "bool", .free "divmod", .free "int", .free "isinstance", .free "len", .free "max", .free "min"] : List He.Fa) ++ ([.free "range", .free "repr", .free "tuple", .int "ONE" (1099511627776), .int "MOST_GRAINS" (1180591620717411303424)] : List He.Fa)
def ex (K : PySem.W.Frag) : Bool := decide (PySem.W.nsIn K mainGlobals "isqrt" = some (some (.builtin "math.isqrt"))) && true
abbrev R : PySem.W.OpenRow := PySem.W.OpenLaw.row PySem.Challenge.rw_truecourse_k34_whole_roots_and_quotients
abbrev hk : PySem.W.Hook := He.hookX 4 fa fn [] [] ex
def ob (s : PySem.W.SharedT) : He.AlX := He.obsX 4 fa fn [] [] ex (HandSHeadRun.getT s)
theorem ob_eq (s : PySem.W.SharedT) : ob s = hk.obs s.abs := He.obsX_eq (HandSHeadRun.getT_eq s)
def names : List PySem.Str := (["isqrt", "CourseError", "StateError", "LimitError", "InvalidInterval", "NotThere", "TooMany", "is_integer", "ONE", "MOST_GRAINS", "checked_ends", "rounded_down", "rounded_up", "is_interval", "want_interval", "root_at", "over_at", "root_of", "over_of", "_law_pot", "_law_draw", "_law_root_right", "_law_over", "_law_number", "_law_interval", "_law_right"] : List PySem.Str)
theorem run (w : World) : HandSHeadRun.RunEqI R (PySem.W.view R.prog [0, 31]) hk ob 4000 names w := by
  unfold HandSHeadRun.RunEqI
  kernel_rfl
theorem tx {K : PySem.W.Frag} {h : Heap} {mg : Str → Option Value} (X : K.In h) (N : h.Ns mainGlobals mg) {w : World} (c : He.SaysX fa fn [] [] ex w h K) : ∃ T : Tx K mg, mg ("law" : Str) = some (.ref T.a_law) := by
  obtain ⟨d__law_draw, D__law_draw⟩ := c.t.d.def_ 0 (d := dd__law_draw) rfl
  obtain ⟨d__law_number, D__law_number⟩ := c.t.d.def_ 1 (d := dd__law_number) rfl
  obtain ⟨d__law_interval, D__law_interval⟩ := c.t.d.def_ 2 (d := dd__law_interval) rfl
  obtain ⟨d_root_at, D_root_at⟩ := c.t.d.def_ 3 (d := dd_root_at) rfl
  obtain ⟨d_is_integer, D_is_integer⟩ := c.t.d.def_ 4 (d := dd_is_integer) rfl
  obtain ⟨d_is_interval, D_is_interval⟩ := c.t.d.def_ 5 (d := dd_is_interval) rfl
  obtain ⟨d_want_interval, D_want_interval⟩ := c.t.d.def_ 6 (d := dd_want_interval) rfl
  obtain ⟨d_root_of, D_root_of⟩ := c.t.d.def_ 7 (d := dd_root_of) rfl
  obtain ⟨d__law_root_right, D__law_root_right⟩ := c.t.d.def_ 8 (d := dd__law_root_right) rfl
  obtain ⟨d_checked_ends, D_checked_ends⟩ := c.t.d.def_ 9 (d := dd_checked_ends) rfl
  obtain ⟨d_rounded_down, D_rounded_down⟩ := c.t.d.def_ 10 (d := dd_rounded_down) rfl
  obtain ⟨d_rounded_up, D_rounded_up⟩ := c.t.d.def_ 11 (d := dd_rounded_up) rfl
  obtain ⟨d_over_at, D_over_at⟩ := c.t.d.def_ 12 (d := dd_over_at) rfl
  obtain ⟨d_over_of, D_over_of⟩ := c.t.d.def_ 13 (d := dd_over_of) rfl
  obtain ⟨d__law_over, D__law_over⟩ := c.t.d.def_ 14 (d := dd__law_over) rfl
  obtain ⟨d__law_right, D__law_right⟩ := c.t.d.def_ 15 (d := dd__law_right) rfl
  obtain ⟨d__law_pot, D__law_pot⟩ := c.t.d.def_ 16 (d := dd__law_pot) rfl
  obtain ⟨d_law, D_law⟩ := c.t.d.def_ 17 (d := dd_law) rfl
  have e0 := c.more
  obtain ⟨e_isqrt, e0⟩ := Bool.and_eq_true_iff.mp e0
  exact ⟨{
    a__law_draw := _, d__law_draw := d__law_draw, D__law_draw := D__law_draw, g__law_draw := He.glo_ok X N (c.t.d.fact 0 (f := .glo "_law_draw") rfl),
    a__law_number := _, d__law_number := d__law_number, D__law_number := D__law_number, g__law_number := He.glo_ok X N (c.t.d.fact 1 (f := .glo "_law_number") rfl),
    a__law_interval := _, d__law_interval := d__law_interval, D__law_interval := D__law_interval, g__law_interval := He.glo_ok X N (c.t.d.fact 2 (f := .glo "_law_interval") rfl),
    a_root_at := _, d_root_at := d_root_at, D_root_at := D_root_at, g_root_at := He.glo_ok X N (c.t.d.fact 3 (f := .glo "root_at") rfl),
    a_is_integer := _, d_is_integer := d_is_integer, D_is_integer := D_is_integer, g_is_integer := He.glo_ok X N (c.t.d.fact 4 (f := .glo "is_integer") rfl),
    a_is_interval := _, d_is_interval := d_is_interval, D_is_interval := D_is_interval, g_is_interval := He.glo_ok X N (c.t.d.fact 5 (f := .glo "is_interval") rfl),
    a_want_interval := _, d_want_interval := d_want_interval, D_want_interval := D_want_interval, g_want_interval := He.glo_ok X N (c.t.d.fact 6 (f := .glo "want_interval") rfl),
    a_root_of := _, d_root_of := d_root_of, D_root_of := D_root_of, g_root_of := He.glo_ok X N (c.t.d.fact 7 (f := .glo "root_of") rfl),
    a__law_root_right := _, d__law_root_right := d__law_root_right, D__law_root_right := D__law_root_right, g__law_root_right := He.glo_ok X N (c.t.d.fact 8 (f := .glo "_law_root_right") rfl),
    a_checked_ends := _, d_checked_ends := d_checked_ends, D_checked_ends := D_checked_ends, g_checked_ends := He.glo_ok X N (c.t.d.fact 9 (f := .glo "checked_ends") rfl),
    a_rounded_down := _, d_rounded_down := d_rounded_down, D_rounded_down := D_rounded_down, g_rounded_down := He.glo_ok X N (c.t.d.fact 10 (f := .glo "rounded_down") rfl),
    a_rounded_up := _, d_rounded_up := d_rounded_up, D_rounded_up := D_rounded_up, g_rounded_up := He.glo_ok X N (c.t.d.fact 11 (f := .glo "rounded_up") rfl),
    a_over_at := _, d_over_at := d_over_at, D_over_at := D_over_at, g_over_at := He.glo_ok X N (c.t.d.fact 12 (f := .glo "over_at") rfl),
    a_over_of := _, d_over_of := d_over_of, D_over_of := D_over_of, g_over_of := He.glo_ok X N (c.t.d.fact 13 (f := .glo "over_of") rfl),
    a__law_over := _, d__law_over := d__law_over, D__law_over := D__law_over, g__law_over := He.glo_ok X N (c.t.d.fact 14 (f := .glo "_law_over") rfl),
    a__law_right := _, d__law_right := d__law_right, D__law_right := D__law_right, g__law_right := He.glo_ok X N (c.t.d.fact 15 (f := .glo "_law_right") rfl),
    a__law_pot := _, d__law_pot := d__law_pot, D__law_pot := D__law_pot, g__law_pot := He.glo_ok X N (c.t.d.fact 16 (f := .glo "_law_pot") rfl),
    a_law := _, d_law := d_law, D_law := D_law, g_law := He.glo_ok X N (c.t.d.fact 17 (f := .glo "law") rfl),
    n_ArithmeticError := He.free_ok X N (c.t.d.fact 18 (f := .free "ArithmeticError") rfl),
    n_RuntimeError := He.free_ok X N (c.t.d.fact 19 (f := .free "RuntimeError") rfl),
    n_ValueError := He.free_ok X N (c.t.d.fact 20 (f := .free "ValueError") rfl),
    n_abs := He.free_ok X N (c.t.d.fact 21 (f := .free "abs") rfl),
    n_all := He.free_ok X N (c.t.d.fact 22 (f := .free "all") rfl),
    n_bool := He.free_ok X N (c.t.d.fact 23 (f := .free "bool") rfl),
    n_divmod := He.free_ok X N (c.t.d.fact 24 (f := .free "divmod") rfl),
    n_int := He.free_ok X N (c.t.d.fact 25 (f := .free "int") rfl),
    n_isinstance := He.free_ok X N (c.t.d.fact 26 (f := .free "isinstance") rfl),
    n_len := He.free_ok X N (c.t.d.fact 27 (f := .free "len") rfl),
    n_max := He.free_ok X N (c.t.d.fact 28 (f := .free "max") rfl),
    n_min := He.free_ok X N (c.t.d.fact 29 (f := .free "min") rfl),
    n_range := He.free_ok X N (c.t.d.fact 30 (f := .free "range") rfl),
    n_repr := He.free_ok X N (c.t.d.fact 31 (f := .free "repr") rfl),
    n_tuple := He.free_ok X N (c.t.d.fact 32 (f := .free "tuple") rfl),
    c_ONE := He.int_ok X N (c.t.d.fact 33 (f := .int "ONE" (1099511627776)) rfl),
    c_MOST_GRAINS := He.int_ok X N (c.t.d.fact 34 (f := .int "MOST_GRAINS" (1180591620717411303424)) rfl),
    i_isqrt := PySem.W.mg_of X N (of_decide_eq_true e_isqrt) }, He.glo_ok X N (c.t.d.fact 17 (f := .glo "law") rfl)⟩
end Tc
open PySem PySem.W PySem.Calls PyProof.Rows
theorem PySem.Challenge.cw_truecourse_k34_whole_roots_and_quotients_holds : PySem.Challenge.rw_truecourse_k34_whole_roots_and_quotients.Holds := by
  w_on; o_law
  refine HandSHeadRun.head_imp (r := (OpenLaw.row PySem.Challenge.rw_truecourse_k34_whole_roots_and_quotients)) (q := view (OpenLaw.row PySem.Challenge.rw_truecourse_k34_whole_roots_and_quotients).prog [0, 31]) (H := Tc.hk) (ob := Tc.ob) (M := 4000) (loose := Tc.names) (d := HandSHeadRun.topDef (OpenLaw.row PySem.Challenge.rw_truecourse_k34_whole_roots_and_quotients).prog 31) (kwd := []) Tc.ob_eq Tc.run
    (by kernel_rfl) (by kernel_rfl) (by kernel_rfl) (by rfl) (by first | assumption | decide +kernel) (by decide +kernel) ⟨rfl, rfl, rfl, rfl, rfl, by decide +kernel⟩ ?hw ?hc
  case hw => w_witness2
  case hc =>
    refine Pd.walkP (l := PySem.Challenge.rw_truecourse_k34_whole_roots_and_quotients) (n := 63) (k := 6) (x := "_law_script") rfl (by decide) (by kernel_rfl) ⟨rfl, by decide, by decide⟩ ?F
    intro w mg fa h Y N hmg0
    obtain ⟨K, KX, c⟩ := Y
    obtain ⟨T, e⟩ := Tc.tx KX N c
    have hn : (HandSHeadRun.topDef (OpenLaw.row PySem.Challenge.rw_truecourse_k34_whole_roots_and_quotients).prog 31).name = ("law" : PySem.Str) := by kernel_rfl
    rw [hn] at hmg0
    cases hmg0.symm.trans e
    refine ⟨K, T.d_law, Tc.m_law, KX, fun s u => L2.FunD.bindsA (ps := ["_law_script"]) T.D_law (fun _ _ _ _ _ _ us hl => match us, hl with | [_], _ => rfl) s [u] rfl, fun ns hl θ => Tc.law_true ns hl θ, fun base _ _ => Tc.ok_law T⟩


