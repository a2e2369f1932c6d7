import PyProof.Rows.All
import Wide.All
import OpenK.AllK
import Wide.FinOn
import HandS.ForMost
import HandS.Exc
import HandS.ExcOwn
import HandS.Wide
import HandS.Gcd
import HandS.Defaults
import HandS.IsInst
import HandS.Zip
import HandS.Style
import HandS.Head3
import HandS.HeadEnd
import HandS.HeadHook4
import HandS.TupAny
import HandS.Deep
import HandS.Conv
import KE.KDictZip
import KE.GoesZip
import KE.KItemsList
import HandS.CallLocal
import PyProof.InstEq
import HandS.TupMul
import KE.GoesEnum
import HandS.SortInts
import PySem.Challenge.RW_truecourse_k29_whole_sets_within_and_rou
set_option Elab.async false
set_option linter.all false
set_option maxRecDepth 100000
set_option maxHeartbeats 0
/-! Pd: each def of a program gets a mirror, a function over plain data, by rules; what the heap does is shown once, here. -/
namespace Pd
open PySem PySem.Spec PyProof.Rows L2

/-! ### data -/
inductive Dt where
  | non | bl (b : Bool) | int (i : Int) | str (s : Str) | lst (l : List Dt) | tup (l : List Dt) | raw (v : V)

mutual
def Rep (K : PySem.W.Frag) (H : Hp) : Dt → V → Prop
  | .non, v => v = .non
  | .bl b, v => v = .bl b
  | .int i, v => v = .int i
  | .str s, v => v = .str s
  | .lst l, v => ∃ a xs, v = .ref a ∧ SqL K H a xs ∧ Reps K H l xs
  | .tup l, v => ∃ a xs, v = .ref a ∧ SqT K H a xs ∧ Reps K H l xs
  | .raw u, v => v = u
def Reps (K : PySem.W.Frag) (H : Hp) : List Dt → List V → Prop
  | [], xs => xs = []
  | d :: ds, xs => ∃ x r, xs = x :: r ∧ Rep K H d x ∧ Reps K H ds r
end

theorem sqt_mono {K : PySem.W.Frag} {H H' : Hp} {a : Addr} {xs : List V} (s : Same H H') (h : SqT K H a xs) : SqT K H' a xs := by
  rcases h with (h | ⟨o, h⟩) | h
  · exact Or.inl (Or.inl (s _ _ h))
  · exact Or.inl (Or.inr ⟨o, s _ _ h⟩)
  · exact Or.inr h

mutual
theorem Rep.mono {K : PySem.W.Frag} {H H' : Hp} (s : Same H H') : ∀ (d : Dt) {v : V}, Rep K H d v → Rep K H' d v
  | .non, _, h => h
  | .bl _, _, h => h
  | .int _, _, h => h
  | .str _, _, h => h
  | .lst l, _, h => by
    obtain ⟨a, xs, e, q, r⟩ := h
    exact ⟨a, xs, e, s.seq q, Reps.mono s l r⟩
  | .tup l, _, h => by
    obtain ⟨a, xs, e, q, r⟩ := h
    exact ⟨a, xs, e, sqt_mono s q, Reps.mono s l r⟩
  | .raw _, _, h => h
theorem Reps.mono {K : PySem.W.Frag} {H H' : Hp} (s : Same H H') : ∀ (l : List Dt) {xs : List V}, Reps K H l xs → Reps K H' l xs
  | [], _, h => h
  | d :: ds, _, h => by
    obtain ⟨x, r, e, h1, h2⟩ := h
    exact ⟨x, r, e, Rep.mono s d h1, Reps.mono s ds h2⟩
end

section
variable {K : PySem.W.Frag} {H : Hp}
theorem Reps.length : ∀ {l : List Dt} {xs : List V}, Reps K H l xs → l.length = xs.length
  | [], _, h => by rw [show _ = _ from h]; rfl
  | d :: ds, _, h => by
    obtain ⟨x, r, rfl, _, h2⟩ := h
    rw [List.length_cons, List.length_cons, Reps.length h2]
theorem Reps.nil : Reps K H [] [] := rfl
theorem Reps.cons {d : Dt} {ds : List Dt} {x : V} {xs : List V} (h : Rep K H d x) (t : Reps K H ds xs) : Reps K H (d :: ds) (x :: xs) := ⟨x, xs, rfl, h, t⟩
theorem Reps.get : ∀ {l : List Dt} {xs : List V} {i : Nat} {d : Dt}, Reps K H l xs → l[i]? = some d → ∃ x, xs[i]? = some x ∧ Rep K H d x
  | [], _, _, _, _, e => by simp at e
  | d :: ds, _, 0, _, h, e => by
    obtain ⟨x, r, rfl, h1, _⟩ := h
    simp at e
    subst e
    exact ⟨x, rfl, h1⟩
  | d :: ds, _, i + 1, _, h, e => by
    obtain ⟨x, r, rfl, _, h2⟩ := h
    obtain ⟨y, e1, e2⟩ := Reps.get h2 (by simpa using e)
    exact ⟨y, by simpa using e1, e2⟩
theorem Reps.append : ∀ {l m : List Dt} {xs ys : List V}, Reps K H l xs → Reps K H m ys → Reps K H (l ++ m) (xs ++ ys)
  | [], _, _, _, h, g => by rw [show _ = _ from h]; exact g
  | d :: ds, _, _, _, h, g => by
    obtain ⟨x, r, rfl, h1, h2⟩ := h
    exact Reps.cons h1 (Reps.append h2 g)
theorem Reps.drop : ∀ {l : List Dt} {xs : List V} (n : Nat), Reps K H l xs → Reps K H (l.drop n) (xs.drop n)
  | _, _, 0, h => h
  | [], _, n + 1, h => by rw [show _ = _ from h]; exact rfl
  | d :: ds, _, n + 1, h => by
    obtain ⟨x, r, rfl, _, h2⟩ := h
    exact Reps.drop n h2
theorem Reps.take : ∀ {l : List Dt} {xs : List V} (n : Nat), Reps K H l xs → Reps K H (l.take n) (xs.take n)
  | _, _, 0, h => by simpa using (Reps.nil : Reps K H [] [])
  | [], _, n + 1, h => by rw [show _ = _ from h]; exact rfl
  | d :: ds, _, n + 1, h => by
    obtain ⟨x, r, rfl, h1, h2⟩ := h
    exact Reps.cons h1 (Reps.take n h2)
theorem Reps.set {d : Dt} {x : V} (q : Rep K H d x) : ∀ {l : List Dt} {xs : List V} (n : Nat), Reps K H l xs → Reps K H (l.set n d) (xs.set n x)
  | [], _, n, h => by rw [show _ = _ from h]; exact rfl
  | e :: ds, _, 0, h => by
    obtain ⟨y, r, rfl, _, h2⟩ := h
    exact Reps.cons q h2
  | e :: ds, _, n + 1, h => by
    obtain ⟨y, r, rfl, h1, h2⟩ := h
    exact Reps.cons h1 (Reps.set q n h2)
theorem Reps.ints : ∀ {l : List Int} {xs : List V}, Reps K H (l.map Dt.int) xs → xs = l.map V.int
  | [], _, h => h
  | i :: r, _, h => by
    obtain ⟨x, s, rfl, h1, h2⟩ := h
    rw [show x = _ from h1, Reps.ints h2, List.map_cons]
theorem Reps.of_ints : ∀ (l : List Int), Reps K H (l.map Dt.int) (l.map V.int)
  | [] => rfl
  | i :: r => Reps.cons rfl (Reps.of_ints r)
theorem Reps.bools : ∀ {l : List Bool} {xs : List V}, Reps K H (l.map Dt.bl) xs → xs = l.map V.bl
  | [], _, h => h
  | i :: r, _, h => by
    obtain ⟨x, s, rfl, h1, h2⟩ := h
    rw [show x = _ from h1, Reps.bools h2, List.map_cons]
end

/-! ### as the model's own data: for ==, repr -/
mutual
def toP : Dt → Option PyData
  | .non => some .none
  | .bl b => some (.bool b)
  | .int i => some (.int i)
  | .str s => some (.str s)
  | .lst l => (toPs l).map PyData.list
  | .tup l => (toPs l).map PyData.tuple
  | .raw _ => none
def toPs : List Dt → Option (List PyData)
  | [] => some []
  | d :: ds => match toP d, toPs ds with
    | some p, some ps => some (p :: ps)
    | _, _ => none
end
mutual
theorem Rep.dp {K : PySem.W.Frag} {H : Hp} : ∀ (d : Dt) {v : V} {p : PyData}, Rep K H d v → toP d = some p → Dp K H v p
  | .non, _, _, h, e => by rw [show _ = _ from h]; cases e; exact .non
  | .bl b, _, _, h, e => by rw [show _ = _ from h]; cases e; exact .bl b
  | .int i, _, _, h, e => by rw [show _ = _ from h]; cases e; exact .int i
  | .str s, _, _, h, e => by rw [show _ = _ from h]; cases e; exact .str s
  | .lst l, _, _, h, e => by
    obtain ⟨a, xs, rfl, q, r⟩ := h
    obtain ⟨ps, e1, rfl⟩ := Option.map_eq_some_iff.mp (show (toPs l).map PyData.list = _ from e)
    exact .lst q (Reps.dp l r e1)
  | .tup l, _, _, h, e => by
    obtain ⟨a, xs, rfl, q, r⟩ := h
    obtain ⟨ps, e1, rfl⟩ := Option.map_eq_some_iff.mp (show (toPs l).map PyData.tuple = _ from e)
    exact .tup q (Reps.dp l r e1)
  | .raw _, _, _, _, e => by cases e
theorem Reps.dp {K : PySem.W.Frag} {H : Hp} : ∀ (l : List Dt) {xs : List V} {ps : List PyData}, Reps K H l xs → toPs l = some ps → DpAll K H xs ps
  | [], _, _, h, e => by rw [show _ = _ from h]; cases e; exact .nil
  | d :: ds, _, _, h, e => by
    obtain ⟨x, r, rfl, h1, h2⟩ := h
    unfold toPs at e
    split at e
    · rename_i p ps e1 e2
      cases e
      exact .cons (Rep.dp d h1 e1) (Reps.dp ds h2 e2)
    · cases e
end

/-! ### results -/
/-- an exception: its class's name, what its own dict holds -/
structure Exn where
  cls : Str
  flds : List (Str × Dt)
/-- what a local name holds: data; a list of one's own, which may be changed; the pot -/
inductive Ent where
  | dat (d : Dt) | own (l : List Dt) | pot
abbrev DEnv := List (Option Ent)
/-- what the pot holds -/
abbrev Pot := Int × Int
inductive Res (α : Type) where
  | ok (a : α) (θ : Pot) | exn (e : Exn) (ρ : DEnv) (θ : Pot) | bad
abbrev M (α : Type) := DEnv → Pot → Res α
/-- what a def hands back: data; a fresh list -/
inductive Ret where
  | d (d : Dt) | o (l : List Dt)
inductive Out where
  | next (ρ : DEnv) | ret (r : Ret) | brk (ρ : DEnv) | cnt (ρ : DEnv)
def Post {α : Type} (r : Res α) (ok : α → Pot → Prop) (ex : Exn → DEnv → Pot → Prop) : Prop := match r with
  | .ok a θ => ok a θ
  | .exn e ρ θ => ex e ρ θ
  | .bad => False
theorem Post.imp {α : Type} {r : Res α} {ok ok' : α → Pot → Prop} {ex ex' : Exn → DEnv → Pot → Prop} (h : Post r ok ex) (h1 : ∀ a θ, ok a θ → ok' a θ) (h2 : ∀ e ρ θ, ex e ρ θ → ex' e ρ θ) : Post r ok' ex' := by
  cases r with
  | ok a θ => exact h1 a θ h
  | exn e ρ θ => exact h2 e ρ θ h
  | bad => exact h
def ret {α : Type} (a : α) : M α := fun _ θ => .ok a θ
def bad {α : Type} : M α := fun _ _ => .bad
def bnd {α β : Type} (m : M α) (f : α → M β) : M β := fun ρ θ => match m ρ θ with
  | .ok a θ' => f a ρ θ'
  | .exn e ρ' θ' => .exn e ρ' θ'
  | .bad => .bad
def opt {α : Type} : Option α → M α
  | some a => ret a
  | none => bad
theorem post_bnd {α β : Type} {m : M α} {f : α → M β} {ρ : DEnv} {θ : Pot} {ok : β → Pot → Prop} {ex : Exn → DEnv → Pot → Prop} (h : Post (bnd m f ρ θ) ok ex) : Post (m ρ θ) (fun a θ' => Post (f a ρ θ') ok ex) ex := by
  unfold bnd at h
  cases e : m ρ θ with
  | ok a θ' => rw [e] at h; exact h
  | exn x ρ' θ' => rw [e] at h; exact h
  | bad => rw [e] at h; exact h
theorem post_opt {α : Type} {o : Option α} {ρ : DEnv} {θ : Pot} {ok : α → Pot → Prop} {ex : Exn → DEnv → Pot → Prop} (h : Post (opt o ρ θ) ok ex) : ∃ a, o = some a ∧ ok a θ := by
  cases o with
  | none => exact h.elim
  | some a => exact ⟨a, rfl, h⟩

/-! ### the state of a frame -/
/-- fixed through a frame: where the pot stands, the heap and its shared part at the entry -/
structure Fr0 where
  ap : Option Addr
  H0 : Hp
  Hs0 : Hp
def PotAt (H : Hp) (ap : Option Addr) (θ : Pot) : Prop := ∀ p, ap = some p → H p = some (.lst [.int θ.1, .int θ.2])
structure StOk (K : PySem.W.Frag) (F : Fr0) (σ : L2.St) (H Hs : Hp) (ρ : DEnv) (θ : Pot) : Prop where
  sub : Same Hs H
  hap : ∀ p, F.ap = some p → Hs p = none
  pot : PotAt H F.ap θ
  old : ∀ b o, F.ap ≠ some b → F.H0 b = some o → H b = some o
  frs : ∀ b, F.H0 b ≠ none → Hs b = F.Hs0 b
  dat : ∀ (i : Nat) (d : Dt), ρ[i]? = some (some (.dat d)) → ∃ v, σ[i]? = some (some v) ∧ Rep K Hs d v
  own : ∀ (i : Nat) (l : List Dt), ρ[i]? = some (some (.own l)) → ∃ a xs, σ[i]? = some (some (.ref a)) ∧ H a = some (.lst xs) ∧ Reps K Hs l xs ∧ Hs a = none ∧ F.H0 a = none ∧ F.ap ≠ some a
  sep : ∀ (i j : Nat) (l m : List Dt) (a : Addr), ρ[i]? = some (some (.own l)) → ρ[j]? = some (some (.own m)) → σ[i]? = some (some (.ref a)) → σ[j]? = some (some (.ref a)) → i = j
  pt : ∀ (i : Nat), ρ[i]? = some (some .pot) → ∃ p, F.ap = some p ∧ σ[i]? = some (some (.ref p))
  len : ρ.length = σ.length
/-- new objects alone: (Hs, H) has become (Hs', H') -/
structure Grow (Hs H Hs' H' : Hp) : Prop where
  s : Same Hs Hs'
  h : Same H H'
  i : Same Hs' H'
  n : ∀ b, H b ≠ none → Hs' b = Hs b
theorem Grow.refl {Hs H : Hp} (s : Same Hs H) : Grow Hs H Hs H := ⟨.refl _, .refl _, s, fun _ _ => rfl⟩
theorem same_upd {H : Hp} {p : Addr} {o : HO} (n : H p = none) : Same H (upd H p o) := fun b u e => by
  rw [upd_ne (ne_of_none e n)]
  exact e
theorem Grow.new {Hs H : Hp} {p : Addr} {o : HO} (s : Same Hs H) (n : H p = none) : Grow Hs H (upd Hs p o) (upd H p o) := by
  have n' : Hs p = none := s.free n
  refine ⟨same_upd n', same_upd n, fun b u e => ?_, fun b hb => ?_⟩
  · by_cases z : b = p
    · subst z
      rw [upd_same] at e ⊢
      exact e
    · rw [upd_ne z] at e ⊢
      exact s _ _ e
  · have z : b ≠ p := fun z => hb (by rw [z]; exact n)
    rw [upd_ne z]
theorem Grow.trans {Hs H Hs1 H1 Hs2 H2 : Hp} (a : Grow Hs H Hs1 H1) (b : Grow Hs1 H1 Hs2 H2) : Grow Hs H Hs2 H2 :=
  ⟨a.s.trans b.s, a.h.trans b.h, b.i, fun c hc => (b.n c (fun z => hc (a.h.free z))).trans (a.n c hc)⟩
/-- a new list that is not shared -/
structure Fresh (Hs H H' : Hp) (p : Addr) (xs : List V) : Prop where
  h : Same H H'
  n : H p = none
  at_ : H' p = some (.lst xs)
  i : Same Hs H'
section
variable {K : PySem.W.Frag} {F : Fr0} {σ : L2.St} {H Hs H' Hs' : Hp} {ρ : DEnv} {θ : Pot}
theorem StOk.apH (st : StOk K F σ H Hs ρ θ) {p : Addr} (e : F.ap = some p) : H p ≠ none := by
  rw [st.pot p e]
  exact fun z => nomatch z
theorem StOk.H0H (st : StOk K F σ H Hs ρ θ) {b : Addr} (e : F.H0 b ≠ none) : H b ≠ none := by
  by_cases z : F.ap = some b
  · exact st.apH z
  · cases q : F.H0 b with
    | none => exact absurd q e
    | some o =>
      rw [st.old b o z q]
      exact fun z => nomatch z
theorem StOk.grow (st : StOk K F σ H Hs ρ θ) (g : Grow Hs H Hs' H') : StOk K F σ H' Hs' ρ θ where
  sub := g.i
  hap := fun p e => (g.n p (st.apH e)).trans (st.hap p e)
  pot := fun p e => g.h _ _ (st.pot p e)
  old := fun b o h1 h2 => g.h _ _ (st.old b o h1 h2)
  frs := fun b hb => (g.n b (st.H0H hb)).trans (st.frs b hb)
  dat := fun i d e => by
    obtain ⟨v, e1, e2⟩ := st.dat i d e
    exact ⟨v, e1, Rep.mono g.s d e2⟩
  own := fun i l e => by
    obtain ⟨a, xs, e1, e2, e3, e4, e5, e6⟩ := st.own i l e
    exact ⟨a, xs, e1, g.h _ _ e2, Reps.mono g.s l e3, (g.n a (by rw [e2]; exact fun z => nomatch z)).trans e4, e5, e6⟩
  sep := st.sep
  pt := st.pt
  len := st.len
end

/-! ### the judgements -/
/-- an exception of the class named e.cls, its own dict with e.flds -/
structure ExcAt (K : PySem.W.Frag) (mg : Str → Option Value) (Hs H : Hp) (e : Exn) (c : Value) (dd : Option Addr) : Prop where
  cls : ∃ C, mg e.cls = some (.ref C) ∧ c = .ref C
  fld : e.flds = [] ∨ ∃ d fs, dd = some d ∧ H d = some (.xd fs) ∧ fs.map (·.1) = e.flds.map (·.1) ∧ Reps K Hs (e.flds.map (·.2)) (fs.map (·.2))
def ExW (X : Cx) (F : Fr0) (W : WX) (Hs : Hp) : Exn → DEnv → Pot → Prop := fun e ρ' θ' => ∀ c dd σ' H' Hs', Same Hs Hs' → StOk X.K F σ' H' Hs' ρ' θ' → ExcAt X.K X.mg Hs' H' e c dd → W c dd σ' H'
theorem ExW.anti {X : Cx} {F : Fr0} {W : WX} {Hs Hs1 : Hp} (s : Same Hs Hs1) : ∀ e ρ θ, ExW X F W Hs e ρ θ → ExW X F W Hs1 e ρ θ := fun _ _ _ h c dd σ' H' Hs' s' => h c dd σ' H' Hs' (s.trans s')
def OkD (X : Cx) (F : Fr0) (σ : L2.St) (ρ : DEnv) (Q : VK) (Hs : Hp) : Dt → Pot → Prop := fun d θ' => ∀ v H' Hs', Same Hs Hs' → StOk X.K F σ H' Hs' ρ θ' → Rep X.K Hs' d v → Q v H'
theorem OkD.anti {X : Cx} {F : Fr0} {σ : L2.St} {ρ : DEnv} {Q : VK} {Hs Hs1 : Hp} (s : Same Hs Hs1) : ∀ d θ, OkD X F σ ρ Q Hs d θ → OkD X F σ ρ Q Hs1 d θ := fun _ _ h v H' Hs' s' => h v H' Hs' (s.trans s')
def tD (X : Cx) (F : Fr0) (W : WX) (m : M Dt) : TE := fun σ H Q => ∃ ρ θ Hs, StOk X.K F σ H Hs ρ θ ∧ Post (m ρ θ) (OkD X F σ ρ Q Hs) (ExW X F W Hs)
def PD (X : Cx) (F : Fr0) (W : WX) (e : Expr) (m : M Dt) : Prop := PE X e (tD X F W m)
/-- a fresh list -/
def OkO (X : Cx) (F : Fr0) (σ : L2.St) (ρ : DEnv) (Q : VK) (Hs : Hp) : List Dt → Pot → Prop := fun l θ' => ∀ a xs H' Hs', Same Hs Hs' → StOk X.K F σ H' Hs' ρ θ' → H' a = some (.lst xs) → Reps X.K Hs' l xs → Hs' a = none → F.H0 a = none → F.ap ≠ some a →
  (∀ (i : Nat) (l : List Dt), ρ[i]? = some (some (.own l)) → σ[i]? ≠ some (some (.ref a))) → Q (.ref a) H'
theorem OkO.anti {X : Cx} {F : Fr0} {σ : L2.St} {ρ : DEnv} {Q : VK} {Hs Hs1 : Hp} (s : Same Hs Hs1) : ∀ d θ, OkO X F σ ρ Q Hs d θ → OkO X F σ ρ Q Hs1 d θ := fun _ _ h a xs H' Hs' s' => h a xs H' Hs' (s.trans s')
def tO (X : Cx) (F : Fr0) (W : WX) (m : M (List Dt)) : TE := fun σ H Q => ∃ ρ θ Hs, StOk X.K F σ H Hs ρ θ ∧ Post (m ρ θ) (OkO X F σ ρ Q Hs) (ExW X F W Hs)
def PO (X : Cx) (F : Fr0) (W : WX) (e : Expr) (m : M (List Dt)) : Prop := PE X e (tO X F W m)
/-- a test -/
def OkT (X : Cx) (F : Fr0) (σ : L2.St) (ρ : DEnv) (Q : Bool → Hp → Prop) (Hs : Hp) : Bool → Pot → Prop := fun b θ' => ∀ H' Hs', Same Hs Hs' → StOk X.K F σ H' Hs' ρ θ' → Q b H'
theorem OkT.anti {X : Cx} {F : Fr0} {σ : L2.St} {ρ : DEnv} {Q : Bool → Hp → Prop} {Hs Hs1 : Hp} (s : Same Hs Hs1) : ∀ d θ, OkT X F σ ρ Q Hs d θ → OkT X F σ ρ Q Hs1 d θ := fun _ _ h H' Hs' s' => h H' Hs' (s.trans s')
def tT (X : Cx) (F : Fr0) (W : WX) (m : M Bool) : TT := fun σ H Q => ∃ ρ θ Hs, StOk X.K F σ H Hs ρ θ ∧ Post (m ρ θ) (OkT X F σ ρ Q Hs) (ExW X F W Hs)
def PTD (X : Cx) (F : Fr0) (W : WX) (e : Expr) (m : M Bool) : Prop := PT X e (tT X F W m)
/-- arguments: data -/
def OkA (X : Cx) (F : Fr0) (σ : L2.St) (ρ : DEnv) (Q : List V → Hp → Prop) (Hs : Hp) : List Dt → Pot → Prop := fun l θ' => ∀ vs H' Hs', Same Hs Hs' → StOk X.K F σ H' Hs' ρ θ' → Reps X.K Hs' l vs → Q vs H'
theorem OkA.anti {X : Cx} {F : Fr0} {σ : L2.St} {ρ : DEnv} {Q : List V → Hp → Prop} {Hs Hs1 : Hp} (s : Same Hs Hs1) : ∀ d θ, OkA X F σ ρ Q Hs d θ → OkA X F σ ρ Q Hs1 d θ := fun _ _ h vs H' Hs' s' => h vs H' Hs' (s.trans s')
def tA (X : Cx) (F : Fr0) (W : WX) (m : M (List Dt)) : TA := fun σ H Q => ∃ ρ θ Hs, StOk X.K F σ H Hs ρ θ ∧ Post (m ρ θ) (OkA X F σ ρ Q Hs) (ExW X F W Hs)
def PAD (X : Cx) (F : Fr0) (W : WX) (es : List Expr) (m : M (List Dt)) : Prop := PA X es (tA X F W m)
/-- statements -/
def OkS (X : Cx) (F : Fr0) (Ds : Ends) (Hs : Hp) : Out → Pot → Prop := fun o θ' => ∀ σ' H' Hs', Same Hs Hs' → match o with
  | .next ρ' => StOk X.K F σ' H' Hs' ρ' θ' → Ds.nx σ' H'
  | .brk ρ' => StOk X.K F σ' H' Hs' ρ' θ' → Ds.bk σ' H'
  | .cnt ρ' => StOk X.K F σ' H' Hs' ρ' θ' → Ds.ct σ' H'
  | .ret (.d d) => ∀ ρ' v, StOk X.K F σ' H' Hs' ρ' θ' → Rep X.K Hs' d v → Ds.rt v H'
  | .ret (.o l) => ∀ ρ' a xs, StOk X.K F σ' H' Hs' ρ' θ' → H' a = some (.lst xs) → Reps X.K Hs' l xs → Hs' a = none → F.H0 a = none → F.ap ≠ some a → Ds.rt (.ref a) H'
theorem OkS.anti {X : Cx} {F : Fr0} {Ds : Ends} {Hs Hs1 : Hp} (s : Same Hs Hs1) : ∀ o θ, OkS X F Ds Hs o θ → OkS X F Ds Hs1 o θ := fun _ _ h σ' H' Hs' s' => h σ' H' Hs' (s.trans s')
def tS (X : Cx) (F : Fr0) (W : WX) (m : M Out) : TS := fun Ds σ H => ∃ ρ θ Hs, StOk X.K F σ H Hs ρ θ ∧ Post (m ρ θ) (OkS X F Ds Hs) (ExW X F W Hs)
def PSD (X : Cx) (F : Fr0) (W : WX) (st : Stmt) (m : M Out) : Prop := PS X st (tS X F W m)
def PSDs (X : Cx) (F : Fr0) (W : WX) (st : List Stmt) (m : M Out) : Prop := PSs X st (tS X F W m)

theorem pe_imp {X : Cx} {e : Expr} {t t' : TE} (h : PE X e t) (i : ∀ σ H Q, t' σ H Q → t σ H Q) : PE X e t' := ⟨fun pins s σ H Q I q => h.run pins s σ H Q I (i σ H Q q)⟩
theorem pt_imp {X : Cx} {e : Expr} {t t' : TT} (h : PT X e t) (i : ∀ σ H Q, t' σ H Q → t σ H Q) : PT X e t' := ⟨fun pins s σ H Q I q => h.run pins s σ H Q I (i σ H Q q)⟩
theorem pa_imp {X : Cx} {es : List Expr} {t t' : TA} (h : PA X es t) (i : ∀ σ H Q, t' σ H Q → t σ H Q) : PA X es t' := ⟨fun pos pins s σ H Q I q => h.run pos pins s σ H Q I (i σ H Q q)⟩
theorem ps_imp {X : Cx} {st : Stmt} {t t' : TS} (h : PS X st t) (i : ∀ D σ H, t' D σ H → t D σ H) : PS X st t' := ⟨fun pins s σ H D I q => h.run pins s σ H D I (i D σ H q)⟩
theorem pss_imp {X : Cx} {st : List Stmt} {t t' : TS} (h : PSs X st t) (i : ∀ D σ H, t' D σ H → t D σ H) : PSs X st t' := ⟨fun pins s σ H D I q => h.run pins s σ H D I (i D σ H q)⟩

section
variable {X : Cx} {F : Fr0} {W : WX} {σ : L2.St} {H Hs : Hp} {ρ : DEnv} {θ : Pot}
/-- one part of an expression, then the rest: from what is wanted of bnd m f -/
theorem then_D {β : Type} {m : M Dt} {f : Dt → M β} {okb : Hp → β → Pot → Prop} {Q : VK} (anti : ∀ {Hs Hs1}, Same Hs Hs1 → ∀ b θ, okb Hs b θ → okb Hs1 b θ) (st : StOk X.K F σ H Hs ρ θ) (hp : Post (bnd m f ρ θ) (okb Hs) (ExW X F W Hs))
    (k : ∀ v d H' Hs' θ', Same Hs Hs' → StOk X.K F σ H' Hs' ρ θ' → Rep X.K Hs' d v → Post (f d ρ θ') (okb Hs') (ExW X F W Hs') → Q v H') : tD X F W m σ H Q :=
  ⟨ρ, θ, Hs, st, (post_bnd hp).imp (fun d θ' q v H' Hs' s st' r => k v d H' Hs' θ' s st' r (q.imp (anti s) (ExW.anti s))) fun _ _ _ q => q⟩
theorem then_A {β : Type} {m : M (List Dt)} {f : List Dt → M β} {okb : Hp → β → Pot → Prop} {Q : List V → Hp → Prop} (anti : ∀ {Hs Hs1}, Same Hs Hs1 → ∀ b θ, okb Hs b θ → okb Hs1 b θ) (st : StOk X.K F σ H Hs ρ θ) (hp : Post (bnd m f ρ θ) (okb Hs) (ExW X F W Hs))
    (k : ∀ vs l H' Hs' θ', Same Hs Hs' → StOk X.K F σ H' Hs' ρ θ' → Reps X.K Hs' l vs → Post (f l ρ θ') (okb Hs') (ExW X F W Hs') → Q vs H') : tA X F W m σ H Q :=
  ⟨ρ, θ, Hs, st, (post_bnd hp).imp (fun d θ' q v H' Hs' s st' r => k v d H' Hs' θ' s st' r (q.imp (anti s) (ExW.anti s))) fun _ _ _ q => q⟩
theorem then_T {β : Type} {m : M Bool} {f : Bool → M β} {okb : Hp → β → Pot → Prop} {Q : Bool → Hp → Prop} (anti : ∀ {Hs Hs1}, Same Hs Hs1 → ∀ b θ, okb Hs b θ → okb Hs1 b θ) (st : StOk X.K F σ H Hs ρ θ) (hp : Post (bnd m f ρ θ) (okb Hs) (ExW X F W Hs))
    (k : ∀ c H' Hs' θ', Same Hs Hs' → StOk X.K F σ H' Hs' ρ θ' → Post (f c ρ θ') (okb Hs') (ExW X F W Hs') → Q c H') : tT X F W m σ H Q :=
  ⟨ρ, θ, Hs, st, (post_bnd hp).imp (fun d θ' q H' Hs' s st' => k d H' Hs' θ' s st' (q.imp (anti s) (ExW.anti s))) fun _ _ _ q => q⟩
theorem then_O {β : Type} {m : M (List Dt)} {f : List Dt → M β} {okb : Hp → β → Pot → Prop} {Q : VK} (anti : ∀ {Hs Hs1}, Same Hs Hs1 → ∀ b θ, okb Hs b θ → okb Hs1 b θ) (st : StOk X.K F σ H Hs ρ θ) (hp : Post (bnd m f ρ θ) (okb Hs) (ExW X F W Hs))
    (k : ∀ a xs l H' Hs' θ', Same Hs Hs' → StOk X.K F σ H' Hs' ρ θ' → H' a = some (.lst xs) → Reps X.K Hs' l xs → Hs' a = none → F.H0 a = none → F.ap ≠ some a → (∀ (i : Nat) (l : List Dt), ρ[i]? = some (some (.own l)) → σ[i]? ≠ some (some (.ref a))) → Post (f l ρ θ') (okb Hs') (ExW X F W Hs') → Q (.ref a) H') : tO X F W m σ H Q :=
  ⟨ρ, θ, Hs, st, (post_bnd hp).imp (fun d θ' q a xs H' Hs' s st' e1 e2 e3 e4 e5 e6 => k a xs d H' Hs' θ' s st' e1 e2 e3 e4 e5 e6 (q.imp (anti s) (ExW.anti s))) fun _ _ _ q => q⟩
end
end Pd


namespace Pd
open PySem PySem.Spec PyProof.Rows L2
section
variable {X : Cx} {F : Fr0} {W : WX} {a b c : Expr} {es : List Expr} {pos : Pos}

/-! ### names, constants -/
theorem fin_D {σ : L2.St} {ρ : DEnv} {Q : VK} {H Hs : Hp} {d : Dt} {θ : Pot} {v : V} (h : OkD X F σ ρ Q Hs d θ) (st : StOk X.K F σ H Hs ρ θ) (r : Rep X.K Hs d v) : Q v H := h v H Hs (Same.refl _) st r
def mVar (i : Nat) : M Dt := fun ρ θ => match ρ[i]? with
  | some (some (.dat d)) => .ok d θ
  | _ => .bad
theorem pd_var (i : Nat) {x : Str} (hN : X.N[i]? = some x := by rfl) (hv : Vis X.env.scope x := by first | exact Or.inl rfl | exact Or.inr (Or.inl rfl) | exact Or.inr (Or.inr rfl)) (hd : (x == ("__debug__" : Str)) = false := by decide)
    (hcd : (x == ("__classdict__" : Str)) = false := by decide) : PD X F W (.Name x pos) (mVar i) := by
  refine pe_imp (pe_var hN hv hd hcd) fun σ H Q h => ?_
  obtain ⟨ρ, θ, Hs, st, h⟩ := h
  unfold mVar at h
  split at h
  · rename_i d e
    obtain ⟨v, e1, e2⟩ := st.dat i d e
    exact ⟨v, e1, fin_D h st e2⟩
  · exact h.elim
theorem pd_const {v : V} {d : Dt} {e : Expr} (h : PE X e (tC v)) (r : ∀ H, Rep X.K H d v) : PD X F W e (ret d) := pe_imp h fun σ H Q ⟨ρ, θ, Hs, st, q⟩ => fin_D q st (r _)
theorem pd_int {i : Int} {j p} : PD X F W (.Constant (.int i) j p) (ret (.int i)) := pd_const pe_int fun _ => rfl
theorem pd_bl {i : Bool} {j p} : PD X F W (.Constant (.bool i) j p) (ret (.bl i)) := pd_const pe_bl fun _ => rfl
theorem pd_non {j p} : PD X F W (.Constant .none j p) (ret .non) := pd_const pe_non fun _ => rfl
theorem pd_str {s : Str} {j p} : PD X F W (.Constant (.str s) j p) (ret (.str s)) := pd_const pe_str fun _ => rfl
theorem pd_gint {x : Str} {i : Int} (hm : ∃ t, X.mg x = some (.int i t)) (hg : Gl X x := by rfl) (hd : (x == ("__debug__" : Str)) = false := by decide) : PD X F W (.Name x pos) (ret (.int i)) := by
  obtain ⟨t, e⟩ := hm
  exact pd_const (pe_glob (v := .int i) hg e ⟨t, rfl⟩ hd) fun _ => rfl
theorem pd_gstr {x : Str} {s : Str} (hm : ∃ t, X.mg x = some (.str s t)) (hg : Gl X x := by rfl) (hd : (x == ("__debug__" : Str)) = false := by decide) : PD X F W (.Name x pos) (ret (.str s)) := by
  obtain ⟨t, e⟩ := hm
  exact pd_const (pe_glob (v := .str s) hg e ⟨t, rfl⟩ hd) fun _ => rfl
/-- a name of the module that stands for data (a written tuple) -/
theorem pd_gdat {x : Str} {a : Addr} {d : Dt} (hm : X.mg x = some (.ref a)) (hr : ∀ H, Rep X.K H d (.ref a)) (hg : Gl X x := by rfl) (hd : (x == ("__debug__" : Str)) = false := by decide) : PD X F W (.Name x pos) (ret d) :=
  pd_const (pe_glob (v := .ref a) hg hm rfl hd) hr

/-! ### operators -/
/-- an operator on data: where g tells a value it gives that -/
def OpD (X : Cx) (f : Value → Value → Sem Value) (g : Dt → Dt → Option Dt) : Prop := ∃ r : R2, OpR X f r ∧
  ∀ a b d, g a b = some d → ∀ (Hs H : Hp) (x y : V) (Q : VK), Same Hs H → Rep X.K Hs a x → Rep X.K Hs b y → (∀ v Hs' H', Grow Hs H Hs' H' → Rep X.K Hs' d v → Q v H') → r x y H Q
theorem OpD.or {f : Value → Value → Sem Value} {g g' : Dt → Dt → Option Dt} (h : OpD X f g) (h' : OpD X f g') : OpD X f (fun a b => (g a b).or (g' a b)) := by
  obtain ⟨r, o, k⟩ := h
  obtain ⟨r', o', k'⟩ := h'
  refine ⟨_, o.or o', fun a b d e Hs H x y Q s ra rb q => ?_⟩
  have e : (g a b).or (g' a b) = some d := e
  cases e1 : g a b with
  | some d' =>
    rw [e1] at e
    exact Or.inl (k a b d (e1.trans e) Hs H x y Q s ra rb q)
  | none =>
    rw [e1] at e
    exact Or.inr (k' a b d e Hs H x y Q s ra rb q)
def mOp (g : Dt → Dt → Option Dt) (ma mb : M Dt) : M Dt := bnd ma fun x => bnd mb fun y => opt (g x y)
theorem op_run {f : Value → Value → Sem Value} {g : Dt → Dt → Option Dt} {r : R2} {ma mb : M Dt} (k : ∀ a b d, g a b = some d → ∀ (Hs H : Hp) (x y : V) (Q : VK), Same Hs H → Rep X.K Hs a x → Rep X.K Hs b y → (∀ v Hs' H', Grow Hs H Hs' H' → Rep X.K Hs' d v → Q v H') → r x y H Q)
    {σ : L2.St} {H : Hp} {Q : VK} (h : tD X F W (mOp g ma mb) σ H Q) : tOp r (tD X F W ma) (tD X F W mb) σ H Q := by
  obtain ⟨ρ, θ, Hs, st, h⟩ := h
  refine then_D OkD.anti st h fun x dx H1 Hs1 θ1 s1 st1 r1 h => ?_
  refine then_D OkD.anti st1 h fun y dy H2 Hs2 θ2 s2 st2 r2 h => ?_
  obtain ⟨d, e, q⟩ := post_opt h
  exact k dx dy d e Hs2 H2 x y Q st2.sub (Rep.mono s2 dx r1) r2 fun v Hs' H' g1 r => q v H' Hs' g1.s (st2.grow g1) r
theorem pd_op {op : Operator} {g : Dt → Dt → Option Dt} {ma mb : M Dt} (ho : OpD X (binaryOp op) g) (ha : PD X F W a ma) (hb : PD X F W b mb) : PD X F W (.BinOp a op b pos) (mOp g ma mb) := by
  obtain ⟨r, o, k⟩ := ho
  exact pe_imp (pe_op o ha hb) fun σ H Q h => op_run (f := binaryOp op) k h
theorem pd_cmp {op : CmpOp} {g : Dt → Dt → Option Dt} {ma mb : M Dt} (ho : OpD X (compareOp op) g) (ha : PD X F W a ma) (hb : PD X F W b mb) (hm : behindInMarks op b = false := by first | exact nomark _ | rfl) : PD X F W (.Compare a [op] [b] pos) (mOp g ma mb) := by
  obtain ⟨r, o, k⟩ := ho
  exact pe_imp (pe_cmpR o ha hb hm) fun σ H Q h => op_run (f := compareOp op) k h
/-- ints in -/
def gI (c : Int → Int → Bool) (g : Int → Int → Dt) : Dt → Dt → Option Dt
  | .int i, .int j => if c i j = true then some (g i j) else none
  | _, _ => none
theorem gI_some {c : Int → Int → Bool} {g : Int → Int → Dt} {a b d : Dt} (h : gI c g a b = some d) : ∃ i j, a = .int i ∧ b = .int j ∧ c i j = true ∧ d = g i j := by
  unfold gI at h
  split at h
  · rename_i i j
    by_cases q : c i j = true
    · rw [if_pos q] at h
      exact ⟨i, j, rfl, rfl, q, (Option.some.inj h).symm⟩
    · rw [if_neg q] at h
      cases h
  · cases h
theorem opd_I {f : Value → Value → Sem Value} {C : Int → Int → Prop} {c : Int → Int → Bool} {g : Int → Int → V} {gd : Int → Int → Dt} (h : OpR X f (rI C g)) (hc : ∀ i j, c i j = true → C i j) (hr : ∀ i j H, Rep X.K H (gd i j) (g i j)) : OpD X f (gI c gd) := by
  refine ⟨_, h, fun a b d e Hs H x y Q s ra rb q => ?_⟩
  obtain ⟨i, j, rfl, rfl, e1, rfl⟩ := gI_some e
  exact ⟨i, j, ra, rb, hc i j e1, q _ Hs H (Grow.refl s) (hr i j Hs)⟩
theorem opd_I0 {f : Value → Value → Sem Value} {g : Int → Int → V} {gd : Int → Int → Dt} (h : OpR X f (rI0 g)) (hr : ∀ i j H, Rep X.K H (gd i j) (g i j)) : OpD X f (gI (fun _ _ => true) gd) := by
  refine ⟨_, h, fun a b d e Hs H x y Q s ra rb q => ?_⟩
  obtain ⟨i, j, rfl, rfl, _, rfl⟩ := gI_some e
  exact ⟨i, j, ra, rb, q _ Hs H (Grow.refl s) (hr i j Hs)⟩
/-- not too big -/
def small (i : Int) : Bool := decide (i.natAbs.log2 < 9000)
abbrev gAdd := gI (fun _ _ => true) fun i j => .int (i + j)
abbrev gSub := gI (fun _ _ => true) fun i j => .int (i - j)
abbrev gMul := gI (fun i j => small i && small j) fun i j => .int (i * j)
abbrev gDiv := gI (fun _ j => decide (j ≠ 0) && small j) fun i j => .int (i.fdiv j)
abbrev gMod := gI (fun _ j => decide (j ≠ 0)) fun i j => .int (i.fmod j)
abbrev gPow := gI (fun i j => decide (0 ≤ j) && (decide (j ≤ 10000) && decide (i.natAbs < 2 ^ 64))) fun i j => .int (i ^ j.toNat)
abbrev gLt := gI (fun _ _ => true) fun i j => .bl (decide (i < j))
abbrev gLe := gI (fun _ _ => true) fun i j => .bl (decide (i ≤ j))
abbrev gGt := gI (fun _ _ => true) fun i j => .bl (decide (j < i))
abbrev gGe := gI (fun _ _ => true) fun i j => .bl (decide (j ≤ i))
theorem od_add : OpD X (binaryOp .Add) gAdd := opd_I0 op_add fun _ _ _ => rfl
theorem od_sub : OpD X (binaryOp .Sub) gSub := opd_I0 op_sub fun _ _ _ => rfl
theorem od_mul : OpD X (binaryOp .Mult) gMul := opd_I op_mulW (fun i j h => by
  obtain ⟨h1, h2⟩ := Bool.and_eq_true_iff.mp h
  have h1 := of_decide_eq_true h1
  have h2 := of_decide_eq_true h2
  show _ + _ < 1000000
  omega) fun _ _ _ => rfl
theorem op_fdivS : OpR X (binaryOp .FloorDiv) (rI (fun _ j => j ≠ 0 ∧ j.natAbs.log2 < 9000) fun i j => .int (i.fdiv j)) := opI fun _ _ _ _ _ _ _ hc q => floordiv_int hc.1 q (.inl (PyProof.noPylong_of_log2 hc.2))
theorem od_div : OpD X (binaryOp .FloorDiv) gDiv := opd_I op_fdivS (fun i j h => by
  obtain ⟨h1, h2⟩ := Bool.and_eq_true_iff.mp h
  exact ⟨of_decide_eq_true h1, of_decide_eq_true h2⟩) fun _ _ _ => rfl
theorem od_mod : OpD X (binaryOp .Mod) gMod := opd_I op_modN (fun i j h => of_decide_eq_true h) fun _ _ _ => rfl
theorem od_pow : OpD X (binaryOp .Pow) gPow := opd_I op_pow (fun i j h => by
  obtain ⟨h1, h2⟩ := Bool.and_eq_true_iff.mp h
  obtain ⟨h2, h3⟩ := Bool.and_eq_true_iff.mp h2
  have h2 := of_decide_eq_true h2
  exact ⟨of_decide_eq_true h1, by omega, of_decide_eq_true h3⟩) fun _ _ _ => rfl
theorem od_lt : OpD X (compareOp .Lt) gLt := opd_I0 op_lt fun _ _ _ => rfl
theorem od_le : OpD X (compareOp .LtE) gLe := opd_I0 op_le fun _ _ _ => rfl
theorem od_gt : OpD X (compareOp .Gt) gGt := opd_I0 op_gt fun _ _ _ => rfl
theorem od_ge : OpD X (compareOp .GtE) gGe := opd_I0 op_ge fun _ _ _ => rfl
/-- == of data -/
def deq (a b : Dt) : Option Bool := match toP a, toP b with
  | some p, some q => if (SeqAt.shaped p && SeqAt.shaped q) = true then some (PyData.eqv p q) else none
  | _, _ => none
theorem deq_some {a b : Dt} {k : Bool} (h : deq a b = some k) : ∃ p q, toP a = some p ∧ toP b = some q ∧ SeqAt.shaped p = true ∧ SeqAt.shaped q = true ∧ k = PyData.eqv p q := by
  unfold deq at h
  split at h
  · rename_i p q e1 e2
    by_cases z : (SeqAt.shaped p && SeqAt.shaped q) = true
    · rw [if_pos z] at h
      obtain ⟨z1, z2⟩ := Bool.and_eq_true_iff.mp z
      exact ⟨p, q, e1, e2, z1, z2, (Option.some.inj h).symm⟩
    · rw [if_neg z] at h
      cases h
  · cases h
def gEqS : Dt → Dt → Option Dt
  | .str x, .str y => some (.bl (decide (x = y)))
  | _, _ => none
def gNeS : Dt → Dt → Option Dt
  | .str x, .str y => some (.bl (!decide (x = y)))
  | _, _ => none
def gEq (a b : Dt) : Option Dt := (gEqS a b).or ((deq a b).map Dt.bl)
def gNe (a b : Dt) : Option Dt := (gNeS a b).or ((deq a b).map fun k => Dt.bl (!k))
theorem od_eqS : OpD X (compareOp .Eq) gEqS := by
  refine ⟨_, op_eq, fun a b d e Hs H x y Q s ra rb q => ?_⟩
  unfold gEqS at e
  split at e
  · rename_i i j
    cases e
    rw [show x = _ from ra, show y = _ from rb]
    exact ⟨rfl, q _ Hs H (Grow.refl s) (show V.bl _ = V.bl _ by simp)⟩
  · cases e
theorem od_neS : OpD X (compareOp .NotEq) gNeS := by
  refine ⟨_, op_ne, fun a b d e Hs H x y Q s ra rb q => ?_⟩
  unfold gNeS at e
  split at e
  · rename_i i j
    cases e
    rw [show x = _ from ra, show y = _ from rb]
    exact ⟨rfl, q _ Hs H (Grow.refl s) (show V.bl _ = V.bl _ by simp)⟩
  · cases e
theorem od_eqD {k : Nat} (hr : Room k X.A) : OpD X (compareOp .Eq) (fun a b => (deq a b).map Dt.bl) := by
  refine ⟨_, op_eqD hr.units, fun a b d e Hs H x y Q s ra rb q => ?_⟩
  obtain ⟨k, e0, rfl⟩ := Option.map_eq_some_iff.mp (show (deq a b).map Dt.bl = _ from e)
  obtain ⟨p, p', e1, e2, s1, s2, rfl⟩ := deq_some e0
  exact ⟨p, p', Rep.dp a (Rep.mono s a ra) e1, Rep.dp b (Rep.mono s b rb) e2, s1, s2, q _ Hs H (Grow.refl s) rfl⟩
theorem od_neD {k : Nat} (hr : Room k X.A) : OpD X (compareOp .NotEq) (fun a b => (deq a b).map fun k => Dt.bl (!k)) := by
  refine ⟨_, op_neD hr.units, fun a b d e Hs H x y Q s ra rb q => ?_⟩
  obtain ⟨k, e0, rfl⟩ := Option.map_eq_some_iff.mp (show (deq a b).map (fun k => Dt.bl (!k)) = _ from e)
  obtain ⟨p, p', e1, e2, s1, s2, rfl⟩ := deq_some e0
  exact ⟨p, p', Rep.dp a (Rep.mono s a ra) e1, Rep.dp b (Rep.mono s b rb) e2, s1, s2, q _ Hs H (Grow.refl s) rfl⟩
theorem od_eq {k : Nat} (hr : Room k X.A) : OpD X (compareOp .Eq) gEq := od_eqS.or (od_eqD hr)
theorem od_ne {k : Nat} (hr : Room k X.A) : OpD X (compareOp .NotEq) gNe := od_neS.or (od_neD hr)
/-- is None -/
def isNon : Dt → Option Bool
  | .non => some true
  | .raw _ => none
  | _ => some false
def gIs (a b : Dt) : Option Dt := match b with
  | .non => (isNon a).map Dt.bl
  | _ => none
def gIsNot (a b : Dt) : Option Dt := match b with
  | .non => (isNon a).map fun k => Dt.bl (!k)
  | _ => none
theorem isNon_ok {K : PySem.W.Frag} {H : Hp} {a : Dt} {x : V} {k : Bool} (h : isNon a = some k) (r : Rep K H a x) : k = decide (x = .non) := by
  cases a with
  | non => cases h; rw [show x = _ from r]; rfl
  | bl b => cases h; rw [show x = _ from r]; rfl
  | int b => cases h; rw [show x = _ from r]; rfl
  | str b => cases h; rw [show x = _ from r]; rfl
  | lst l => cases h; obtain ⟨p, xs, rfl, _⟩ := r; rfl
  | tup l => cases h; obtain ⟨p, xs, rfl, _⟩ := r; rfl
  | raw v => cases h
theorem od_is : OpD X (compareOp .Is) gIs := by
  refine ⟨_, op_isN, fun a b d e Hs H x y Q s ra rb q => ?_⟩
  cases b <;> try (cases e)
  obtain ⟨k, e1, rfl⟩ := Option.map_eq_some_iff.mp (show (isNon a).map Dt.bl = _ from e)
  refine ⟨rb, ?_⟩
  rw [← isNon_ok e1 ra]
  exact q _ Hs H (Grow.refl s) rfl
theorem od_isnot : OpD X (compareOp .IsNot) gIsNot := by
  refine ⟨_, op_notN, fun a b d e Hs H x y Q s ra rb q => ?_⟩
  cases b <;> try (cases e)
  obtain ⟨k, e1, rfl⟩ := Option.map_eq_some_iff.mp (show (isNon a).map (fun k => Dt.bl (!k)) = _ from e)
  refine ⟨rb, ?_⟩
  rw [← isNon_ok e1 ra]
  exact q _ Hs H (Grow.refl s) rfl
/-- -x -/
def mNeg (ma : M Dt) : M Dt := bnd ma fun x => match x with
  | .int i => ret (.int (-i))
  | _ => bad
theorem pd_neg {ma : M Dt} (ha : PD X F W a ma) : PD X F W (.UnaryOp .USub a pos) (mNeg ma) := by
  refine pe_imp (pe_un un_neg ha) fun σ H Q h => ?_
  obtain ⟨ρ, θ, Hs, st, h⟩ := h
  refine then_D OkD.anti st h fun x dx H1 Hs1 θ1 s1 st1 r1 h => ?_
  cases dx <;> try exact h.elim
  exact ⟨_, r1, fin_D h st1 rfl⟩

/-! ### tests -/
theorem fin_T {σ : L2.St} {ρ : DEnv} {Q : Bool → Hp → Prop} {H Hs : Hp} {d : Bool} {θ : Pot} (h : OkT X F σ ρ Q Hs d θ) (st : StOk X.K F σ H Hs ρ θ) : Q d H := h H Hs (Same.refl _) st
def mBool (ma : M Dt) : M Bool := bnd ma fun x => match x with
  | .bl k => ret k
  | _ => bad
theorem bool_run {ma : M Dt} {σ : L2.St} {H : Hp} {Q : Bool → Hp → Prop} (h : tT X F W (mBool ma) σ H Q) : tD X F W ma σ H fun x H1 => ∃ c, x = .bl c ∧ Q c H1 := by
  obtain ⟨ρ, θ, Hs, st, h⟩ := h
  refine then_D OkT.anti st h fun x dx H1 Hs1 θ1 s1 st1 r1 h => ?_
  cases dx <;> try exact h.elim
  exact ⟨_, r1, fin_T h st1⟩
/-- an expression whose value is a bool: a name, a call, a subscript -/
theorem pt_bool {ma : M Dt} (ha : PD X F W a ma) (he : ∀ whole, isTrue a X.env whole = (do let v ← whole; standAt a.pos; holding [v] (truthy v)) := by intro _; rfl) : PTD X F W a (mBool ma) := pt_imp (pt_val ha he) fun σ H Q h => bool_run h
theorem pt_cmp1 {op : CmpOp} {g : Dt → Dt → Option Dt} {ma mb : M Dt} (ho : OpD X (compareOp op) g) (ha : PD X F W a ma) (hb : PD X F W b mb) (hm : behindInMarks op b = false := by first | exact nomark _ | rfl) : PTD X F W (.Compare a [op] [b] pos) (mBool (mOp g ma mb)) := by
  obtain ⟨r, o, k⟩ := ho
  refine pt_imp (pt_cmpR o ha hb hm) fun σ H Q h => ?_
  exact op_run (f := compareOp op) (F := F) (W := W) k (bool_run h)
def mNot (ma : M Bool) : M Bool := bnd ma fun k => ret (!k)
theorem ptd_not {ma : M Bool} (ha : PTD X F W a ma) : PTD X F W (.UnaryOp .Not a pos) (mNot ma) := by
  refine pt_imp (pt_not ha) fun σ H Q h => ?_
  obtain ⟨ρ, θ, Hs, st, h⟩ := h
  exact then_T OkT.anti st h fun k H1 Hs1 θ1 s1 st1 h => fin_T h st1
def PWD (X : Cx) (F : Fr0) (W : WX) (e : Expr) (m : M Bool) : Prop := PW X e (tT X F W m)
theorem pw_imp {e : Expr} {t t' : TT} (h : PW X e t) (i : ∀ σ H Q, t' σ H Q → t σ H Q) : PW X e t' := ⟨fun wh pins s σ H Q I q => h.run wh pins s σ H Q I (i σ H Q q)⟩
theorem PWD.pt {m : M Bool} (h : PWD X F W a m) : PTD X F W a m := PW.pt h
def mAnd (ma mb : M Bool) : M Bool := bnd ma fun k => if k = true then mb else ret false
def mOr (ma mb : M Bool) : M Bool := bnd ma fun k => if k = true then ret true else mb
theorem pw_a1 {ma : M Bool} (ha : PTD X F W a ma) : PWD X F W (.BoolOp .And [a] pos) ma := pw_and1 ha
theorem pw_o1 {ma : M Bool} (ha : PTD X F W a ma) : PWD X F W (.BoolOp .Or [a] pos) ma := pw_or1 ha
theorem pw_a {ma mb : M Bool} (ha : PTD X F W a ma) (hb : PWD X F W (.BoolOp .And (b :: es) pos) mb) : PWD X F W (.BoolOp .And (a :: b :: es) pos) (mAnd ma mb) := by
  refine pw_imp (pw_and ha hb) fun σ H Q h => ?_
  obtain ⟨ρ, θ, Hs, st, h⟩ := h
  refine then_T OkT.anti st h fun k H1 Hs1 θ1 s1 st1 h => ?_
  cases k with
  | true => exact ⟨ρ, θ1, Hs1, st1, h⟩
  | false => exact fin_T h st1
theorem pw_o {ma mb : M Bool} (ha : PTD X F W a ma) (hb : PWD X F W (.BoolOp .Or (b :: es) pos) mb) : PWD X F W (.BoolOp .Or (a :: b :: es) pos) (mOr ma mb) := by
  refine pw_imp (pw_or ha hb) fun σ H Q h => ?_
  obtain ⟨ρ, θ, Hs, st, h⟩ := h
  refine then_T OkT.anti st h fun k H1 Hs1 θ1 s1 st1 h => ?_
  cases k with
  | false => exact ⟨ρ, θ1, Hs1, st1, h⟩
  | true => exact fin_T h st1
/-- as values, all bools -/
def mAndV (ma mb : M Dt) : M Dt := bnd ma fun x => match x with
  | .bl true => mb
  | .bl false => ret (.bl false)
  | _ => bad
def mOrV (ma mb : M Dt) : M Dt := bnd ma fun x => match x with
  | .bl false => mb
  | .bl true => ret (.bl true)
  | _ => bad
theorem pd_one {op} {ma : M Dt} (ha : PD X F W a ma) : PD X F W (.BoolOp op [a] pos) ma := pe_one ha
theorem pd_and {ma mb : M Dt} (ha : PD X F W a ma) (hb : PD X F W (.BoolOp .And (b :: es) pos) mb) : PD X F W (.BoolOp .And (a :: b :: es) pos) (mAndV ma mb) := by
  refine pe_imp (pe_and ha hb) fun σ H Q h => ?_
  obtain ⟨ρ, θ, Hs, st, h⟩ := h
  refine then_D OkD.anti st h fun x dx H1 Hs1 θ1 s1 st1 r1 h => ?_
  cases dx with
  | bl k =>
    refine ⟨k, r1, ?_⟩
    cases k with
    | true => exact ⟨ρ, θ1, Hs1, st1, h⟩
    | false => exact fin_D h st1 rfl
  | _ => exact h.elim
def mNotV (ma : M Dt) : M Dt := bnd ma fun x => match x with
  | .bl k => ret (.bl (!k))
  | _ => bad
theorem pd_not {ma : M Dt} (ha : PD X F W a ma) : PD X F W (.UnaryOp .Not a pos) (mNotV ma) := by
  refine pe_imp (pe_not ha) fun σ H Q h => ?_
  obtain ⟨ρ, θ, Hs, st, h⟩ := h
  refine then_D OkD.anti st h fun x dx H1 Hs1 θ1 s1 st1 r1 h => ?_
  cases dx <;> try exact h.elim
  exact ⟨_, r1, fin_D h st1 rfl⟩
def mIte {α : Type} (mc : M Bool) (ma mb : M α) : M α := bnd mc fun k => if k = true then ma else mb
theorem pd_ife {mc : M Bool} {ma mb : M Dt} (hc : PTD X F W c mc) (ha : PD X F W a ma) (hb : PD X F W b mb) : PD X F W (.IfExp c a b pos) (mIte mc ma mb) := by
  refine pe_imp (pe_ifExp hc ha hb) fun σ H Q h => ?_
  obtain ⟨ρ, θ, Hs, st, h⟩ := h
  refine then_T OkD.anti st h fun k H1 Hs1 θ1 s1 st1 h => ?_
  cases k with
  | true => exact ⟨ρ, θ1, Hs1, st1, h⟩
  | false => exact ⟨ρ, θ1, Hs1, st1, h⟩
/-- chains of two, three -/
def mChain (g g' : Dt → Dt → Option Dt) (ma mb mc : M Dt) : M Dt := bnd ma fun x => bnd mb fun y => bnd (opt (g x y)) fun z => match z with
  | .bl true => bnd mc fun w => opt (g' y w)
  | .bl false => ret (.bl false)
  | _ => bad
/-! ### arguments, displays -/
def mNil : M (List Dt) := ret []
def mCons (ma : M Dt) (mr : M (List Dt)) : M (List Dt) := bnd ma fun x => bnd mr fun l => ret (x :: l)
theorem pad_nil : PAD X F W [] mNil := by
  refine pa_imp pa_nil fun σ H Q h => ?_
  obtain ⟨ρ, θ, Hs, st, h⟩ := h
  exact h [] H Hs (Same.refl _) st rfl
theorem pad_cons {ma : M Dt} {mr : M (List Dt)} (ha : PD X F W a ma) (hr : PAD X F W es mr) (hs : starEach (a :: es) X.env = (false, eval a X.env) :: starEach es X.env := by rfl) : PAD X F W (a :: es) (mCons ma mr) := by
  refine pa_imp (pa_cons ha hr hs) fun σ H Q h => ?_
  obtain ⟨ρ, θ, Hs, st, h⟩ := h
  refine then_D OkA.anti st h fun x dx H1 Hs1 θ1 s1 st1 r1 h => ?_
  refine then_A OkA.anti st1 h fun xs l H2 Hs2 θ2 s2 st2 r2 h => ?_
  exact h (x :: xs) H2 Hs2 (Same.refl _) st2 (Reps.cons (Rep.mono s2 dx r1) r2)
/-- how many -/
def Len (m : M (List Dt)) (n : Nat) : Prop := ∀ ρ θ l θ', m ρ θ = .ok l θ' → l.length = n
theorem len_nil : Len mNil 0 := fun ρ θ l θ' e => by cases e; rfl
theorem bnd_ok {α β : Type} {m : M α} {f : α → M β} {ρ : DEnv} {θ θ' : Pot} {b : β} (h : bnd m f ρ θ = .ok b θ') : ∃ a θ1, m ρ θ = .ok a θ1 ∧ f a ρ θ1 = .ok b θ' := by
  unfold bnd at h
  cases e : m ρ θ with
  | ok a θ1 => rw [e] at h; exact ⟨a, θ1, rfl, h⟩
  | exn x ρ' θ' => rw [e] at h; cases h
  | bad => rw [e] at h; cases h
theorem len_cons {ma : M Dt} {mr : M (List Dt)} {n : Nat} (h : Len mr n) : Len (mCons ma mr) (n + 1) := fun ρ θ l θ' e => by
  obtain ⟨d, θ1, _, e2⟩ := bnd_ok e
  obtain ⟨l2, θ2, e3, e4⟩ := bnd_ok e2
  cases e4
  rw [List.length_cons, h ρ θ1 l2 _ e3]
theorem Post.both {α : Type} {r : Res α} {ok : α → Pot → Prop} {ex : Exn → DEnv → Pot → Prop} (h : Post r ok ex) : Post r (fun a θ => r = .ok a θ ∧ ok a θ) ex := by
  cases r with
  | ok a θ => exact ⟨rfl, h⟩
  | exn e ρ θ => exact h
  | bad => exact h
def mTup (ml : M (List Dt)) : M Dt := bnd ml fun l => ret (.tup l)
theorem pd_tup {ml : M (List Dt)} {n : Nat} {x1} (h : PAD X F W es ml) (hl : Len ml n) (hn : n ≤ sizeLine := by decide) : PD X F W (.Tuple es x1 pos) (mTup ml) := by
  refine pe_imp (pe_tup h) fun σ H Q q => ?_
  obtain ⟨ρ, θ, Hs, st, q⟩ := q
  refine ⟨ρ, θ, Hs, st, (post_bnd q).both.imp (fun l θ' ⟨e, k⟩ xs H' Hs' s st' r => ?_) fun _ _ _ z => z⟩
  refine ⟨by rw [← r.length, hl _ _ _ _ e]; exact hn, fun p np => ?_⟩
  have g := Grow.new (o := .tup xs) st'.sub np
  exact k (.ref p) _ _ (s.trans g.s) (st'.grow g) ⟨p, xs, rfl, SqT.of upd_same, Reps.mono g.s l r⟩
theorem own_ne {σ : L2.St} {ρ : DEnv} {H Hs : Hp} {θ : Pot} {p : Addr} (st : StOk X.K F σ H Hs ρ θ) (np : H p = none) : ∀ (i : Nat) (l : List Dt), ρ[i]? = some (some (.own l)) → σ[i]? ≠ some (some (.ref p)) := fun i l e z => by
  obtain ⟨a, xs, e1, e2, _⟩ := st.own i l e
  rw [z] at e1
  cases e1
  rw [np] at e2
  cases e2
theorem h0_none {σ : L2.St} {ρ : DEnv} {H Hs : Hp} {θ : Pot} {p : Addr} (st : StOk X.K F σ H Hs ρ θ) (np : H p = none) : F.H0 p = none := by
  cases e : F.H0 p with
  | none => rfl
  | some o => exact absurd np (st.H0H (by rw [e]; exact fun z => nomatch z))
theorem ap_ne {σ : L2.St} {ρ : DEnv} {H Hs : Hp} {θ : Pot} {p : Addr} (st : StOk X.K F σ H Hs ρ θ) (np : H p = none) : F.ap ≠ some p := fun e => st.apH e np
/-- the state with a fresh list beside it -/
theorem st_new {σ : L2.St} {ρ : DEnv} {H Hs : Hp} {θ : Pot} {p : Addr} {o : HO} (st : StOk X.K F σ H Hs ρ θ) (np : H p = none) : StOk X.K F σ (upd H p o) Hs ρ θ where
  sub := st.sub.trans (same_upd np)
  hap := st.hap
  pot := fun q e => same_upd np _ _ (st.pot q e)
  old := fun b u h1 h2 => same_upd np _ _ (st.old b u h1 h2)
  frs := st.frs
  dat := st.dat
  own := fun i l e => by
    obtain ⟨a, xs, e1, e2, e3, e4, e5, e6⟩ := st.own i l e
    exact ⟨a, xs, e1, same_upd np _ _ e2, e3, e4, e5, e6⟩
  sep := st.sep
  pt := st.pt
  len := st.len
theorem po_lst {ml : M (List Dt)} {n : Nat} (h : PAD X F W es ml) (hl : Len ml n) (hn : n ≤ sizeLine := by decide) : PO X F W (.List es pos) ml := by
  refine pe_imp (pe_lst h) fun σ H Q q => ?_
  obtain ⟨ρ, θ, Hs, st, q⟩ := q
  refine ⟨ρ, θ, Hs, st, q.both.imp (fun l θ' ⟨e, k⟩ xs H' Hs' s st' r => ?_) fun _ _ _ z => z⟩
  refine ⟨by rw [← r.length, hl _ _ _ _ e]; exact hn, fun p np => ?_⟩
  exact k p xs _ Hs' s (st_new st' np) upd_same r (st'.sub.free np) (h0_none st' np) (ap_ne st' np) (own_ne st' np)
/-- a fresh list becomes data -/
theorem st_freeze {σ : L2.St} {ρ : DEnv} {H Hs : Hp} {θ : Pot} {p : Addr} {xs : List V} (st : StOk X.K F σ H Hs ρ θ) (hp : H p = some (.lst xs)) (n1 : Hs p = none) (n2 : F.H0 p = none) (n3 : F.ap ≠ some p)
    (n4 : ∀ (i : Nat) (l : List Dt), ρ[i]? = some (some (.own l)) → σ[i]? ≠ some (some (.ref p))) : StOk X.K F σ H (upd Hs p (.lst xs)) ρ θ where
  sub := fun b u e => by
    by_cases z : b = p
    · subst z
      rw [upd_same] at e
      cases e
      exact hp
    · rw [upd_ne z] at e
      exact st.sub _ _ e
  hap := fun q e => by
    have z : q ≠ p := fun z => n3 (by rw [← z]; exact e)
    rw [upd_ne z]
    exact st.hap q e
  pot := st.pot
  old := st.old
  frs := fun b hb => by
    have z : b ≠ p := fun z => hb (by rw [z]; exact n2)
    rw [upd_ne z]
    exact st.frs b hb
  dat := fun i d e => by
    obtain ⟨v, e1, e2⟩ := st.dat i d e
    exact ⟨v, e1, Rep.mono (same_upd n1) d e2⟩
  own := fun i l e => by
    obtain ⟨a, ys, e1, e2, e3, e4, e5, e6⟩ := st.own i l e
    have z : a ≠ p := fun z => n4 i l e (by rw [← z]; exact e1)
    exact ⟨a, ys, e1, e2, Reps.mono (same_upd n1) l e3, by rw [upd_ne z]; exact e4, e5, e6⟩
  sep := st.sep
  pt := st.pt
  len := st.len
def mLst (ml : M (List Dt)) : M Dt := bnd ml fun l => ret (.lst l)
theorem pd_frz {ml : M (List Dt)} (h : PO X F W a ml) : PD X F W a (mLst ml) := by
  refine pe_imp h fun σ H Q q => ?_
  obtain ⟨ρ, θ, Hs, st, q⟩ := q
  refine then_O OkD.anti st q fun p xs l H1 Hs1 θ1 s1 st1 e1 e2 e3 e4 e5 e6 h => ?_
  exact h (.ref p) H1 _ (same_upd e3) (st_freeze st1 e1 e3 e4 e5 e6) ⟨p, xs, rfl, SqL.of upd_same, Reps.mono (same_upd e3) l e2⟩
end
end Pd


namespace Pd
open PySem PySem.Spec PyProof.Rows L2
/-! ### storing into a slot -/
section
variable {K : PySem.W.Frag} {F : Fr0} {σ : L2.St} {H Hs : Hp} {ρ : DEnv} {θ : Pot}
theorem st_set (st : StOk K F σ H Hs ρ θ) (i : Nat) {v : V} {d : Dt} (r : Rep K Hs d v) : StOk K F (σ.set i (some v)) H Hs (ρ.set i (some (.dat d))) θ where
  sub := st.sub
  hap := st.hap
  pot := st.pot
  old := st.old
  frs := st.frs
  dat := fun j d' e => by
    by_cases z : i = j
    · subst z
      rw [List.getElem?_set] at e
      rw [List.getElem?_set, ← st.len]
      by_cases q : i < ρ.length
      · simp only [q, if_true] at e ⊢
        cases e
        exact ⟨v, rfl, r⟩
      · simp only [q, if_false, if_true] at e
        cases e
    · rw [List.getElem?_set_ne z] at e
      rw [List.getElem?_set_ne z]
      exact st.dat j d' e
  own := fun j l e => by
    by_cases z : i = j
    · subst z
      rw [List.getElem?_set] at e
      by_cases q : i < ρ.length
      · simp only [q, if_true] at e
        cases e
      · simp only [q, if_false, if_true] at e
        cases e
    · rw [List.getElem?_set_ne z] at e
      rw [List.getElem?_set_ne z]
      exact st.own j l e
  sep := fun j k l m a e1 e2 e3 e4 => by
    have nj : ∀ {j l}, (ρ.set i (some (.dat d)))[j]? = some (some (.own l)) → i ≠ j := fun {j l} e z => by
      subst z
      rw [List.getElem?_set] at e
      by_cases q : i < ρ.length
      · simp only [q, if_true] at e
        cases e
      · simp only [q, if_false, if_true] at e
        cases e
    have n1 := nj e1
    have n2 := nj e2
    rw [List.getElem?_set_ne n1] at e1 e3
    rw [List.getElem?_set_ne n2] at e2 e4
    exact st.sep j k l m a e1 e2 e3 e4
  pt := fun j e => by
    by_cases z : i = j
    · subst z
      rw [List.getElem?_set] at e
      by_cases q : i < ρ.length
      · simp only [q, if_true] at e
        cases e
      · simp only [q, if_false, if_true] at e
        cases e
    · rw [List.getElem?_set_ne z] at e
      rw [List.getElem?_set_ne z]
      exact st.pt j e
  len := by rw [List.length_set, List.length_set]; exact st.len
theorem st_setO (st : StOk K F σ H Hs ρ θ) (i : Nat) {a : Addr} {xs : List V} {m : List Dt} (e1 : H a = some (.lst xs)) (e2 : Reps K Hs m xs) (e3 : Hs a = none) (e4 : F.H0 a = none) (e5 : F.ap ≠ some a)
    (e6 : ∀ (j : Nat) (l : List Dt), j ≠ i → ρ[j]? = some (some (.own l)) → σ[j]? ≠ some (some (.ref a))) : StOk K F (σ.set i (some (.ref a))) H Hs (ρ.set i (some (.own m))) θ where
  sub := st.sub
  hap := st.hap
  pot := st.pot
  old := st.old
  frs := st.frs
  dat := fun j d' e => by
    by_cases z : i = j
    · subst z
      rw [List.getElem?_set] at e
      by_cases q : i < ρ.length
      · simp only [q, if_true] at e
        cases e
      · simp only [q, if_false, if_true] at e
        cases e
    · rw [List.getElem?_set_ne z] at e
      rw [List.getElem?_set_ne z]
      exact st.dat j d' e
  own := fun j l e => by
    by_cases z : i = j
    · subst z
      rw [List.getElem?_set] at e
      rw [List.getElem?_set, ← st.len]
      by_cases q : i < ρ.length
      · simp only [q, if_true] at e ⊢
        cases e
        exact ⟨a, xs, rfl, e1, e2, e3, e4, e5⟩
      · simp only [q, if_false, if_true] at e
        cases e
    · rw [List.getElem?_set_ne z] at e
      rw [List.getElem?_set_ne z]
      exact st.own j l e
  sep := fun j k l m' b q1 q2 q3 q4 => by
    by_cases z1 : i = j
    · by_cases z2 : i = k
      · exact z1.symm.trans z2
      · subst z1
        rw [List.getElem?_set_ne z2] at q2 q4
        rw [List.getElem?_set, ← st.len] at q3
        by_cases q : i < ρ.length
        · simp only [q, if_true] at q3
          cases q3
          exact absurd q4 (e6 k m' (fun z => z2 z.symm) q2)
        · simp only [q, if_false, if_true] at q3
          cases q3
    · by_cases z2 : i = k
      · subst z2
        rw [List.getElem?_set_ne z1] at q1 q3
        rw [List.getElem?_set, ← st.len] at q4
        by_cases q : i < ρ.length
        · simp only [q, if_true] at q4
          cases q4
          exact absurd q3 (e6 j l (fun z => z1 z.symm) q1)
        · simp only [q, if_false, if_true] at q4
          cases q4
      · rw [List.getElem?_set_ne z1] at q1 q3
        rw [List.getElem?_set_ne z2] at q2 q4
        exact st.sep j k l m' b q1 q2 q3 q4
  pt := fun j e => by
    by_cases z : i = j
    · subst z
      rw [List.getElem?_set] at e
      by_cases q : i < ρ.length
      · simp only [q, if_true] at e
        cases e
      · simp only [q, if_false, if_true] at e
        cases e
    · rw [List.getElem?_set_ne z] at e
      rw [List.getElem?_set_ne z]
      exact st.pt j e
  len := by rw [List.length_set, List.length_set]; exact st.len
end

section
variable {X : Cx} {F : Fr0} {W : WX} {e : Expr} {st : Stmt} {sts : List Stmt} {pos : Pos}
/-! ### statements -/
def goN (ρ : DEnv) : M Out := fun _ θ => .ok (.next ρ) θ
def mNext : M Out := fun ρ θ => .ok (.next ρ) θ
def mSeq (m n : M Out) : M Out := fun ρ θ => match m ρ θ with
  | .ok (.next ρ') θ' => n ρ' θ'
  | r => r
theorem psd_nil : PSDs X F W [] mNext := by
  refine pss_imp pss_nil fun D σ H h => ?_
  obtain ⟨ρ, θ, Hs, st, h⟩ := h
  exact h σ H Hs (Same.refl _) st
theorem psd_one {m : M Out} (h : PSD X F W st m) : PSDs X F W [st] m := pss_one h
theorem psd_cons {m n : M Out} (h : PSD X F W st m) (g : PSDs X F W sts n) : PSDs X F W (st :: sts) (mSeq m n) := by
  refine pss_imp (pss_cons h g) fun D σ H q => ?_
  obtain ⟨ρ, θ, Hs, st, q⟩ := q
  refine ⟨ρ, θ, Hs, st, ?_⟩
  unfold mSeq at q
  cases e : m ρ θ with
  | ok o θ1 =>
    rw [e] at q
    cases o with
    | next ρ1 => exact fun σ' H' Hs' s st' => ⟨ρ1, θ1, Hs', st', Post.imp q (OkS.anti s) (ExW.anti s)⟩
    | ret r =>
      cases r with
      | d d => exact q
      | o l => exact q
    | brk ρ1 => exact q
    | cnt ρ1 => exact q
  | exn x ρ1 θ1 => rw [e] at q; exact q
  | bad => rw [e] at q; exact q
/-- code that is never come to -/
theorem psd_never : PSD X F W st (fun _ _ => .bad) := ps_imp ps_never fun D σ H h => by
  obtain ⟨ρ, θ, Hs, st, h⟩ := h
  exact h
def mSet (i : Nat) (ma : M Dt) : M Out := bnd ma fun d ρ θ => .ok (.next (ρ.set i (some (.dat d)))) θ
theorem psd_set {ma : M Dt} (i : Nat) {x : Str} {pos' : Pos} (hN : X.N.Nodup) (ha : PD X F W e ma) (hi : X.N[i]? = some x := by rfl) (hx : Loc X.env.scope x := by first | exact Or.inl rfl | exact Or.inr rfl) (hs : swapsWith e (some (.Name x pos')) pos.line X.env = pure false := by rfl)
    (hf : X.fn x = true ∨ X.env.scope.names.lookup x = some .local := by first | exact .inl rfl | exact .inr rfl) : PSD X F W (.Assign [.Name x pos'] e pos) (mSet i ma) := by
  refine ps_imp (ps_set hN hi hx ha hs hf) fun D σ H q => ?_
  obtain ⟨ρ, θ, Hs, st, q⟩ := q
  exact then_D OkS.anti st q fun v d H1 Hs1 θ1 s1 st1 r1 h => h _ H1 Hs1 (Same.refl _) (st_set st1 i r1)
def mSetO (i : Nat) (ma : M (List Dt)) : M Out := bnd ma fun l ρ θ => .ok (.next (ρ.set i (some (.own l)))) θ
theorem psd_setO {ma : M (List Dt)} (i : Nat) {x : Str} {pos' : Pos} (hN : X.N.Nodup) (ha : PO X F W e ma) (hi : X.N[i]? = some x := by rfl) (hx : Loc X.env.scope x := by first | exact Or.inl rfl | exact Or.inr rfl) (hs : swapsWith e (some (.Name x pos')) pos.line X.env = pure false := by rfl)
    (hf : X.fn x = true ∨ X.env.scope.names.lookup x = some .local := by first | exact .inl rfl | exact .inr rfl) : PSD X F W (.Assign [.Name x pos'] e pos) (mSetO i ma) := by
  refine ps_imp (ps_set hN hi hx ha hs hf) fun D σ H q => ?_
  obtain ⟨ρ, θ, Hs, st, q⟩ := q
  exact then_O OkS.anti st q fun a xs l H1 Hs1 θ1 s1 st1 e1 e2 e3 e4 e5 e6 h => h _ H1 Hs1 (Same.refl _) (st_setO st1 i e1 e2 e3 e4 e5 fun j l _ => e6 j l)
/-- a, b = x, y and three, by plain local names -/
def mPar (is : List Nat) (ml : M (List Dt)) : M Out := bnd ml fun l ρ θ => if l.length = is.length then .ok (.next ((is.zip l).foldl (fun ρ p => ρ.set p.1 (some (.dat p.2))) ρ)) θ else .bad
theorem psd_par {i j : Nat} {x y : Str} {a b : Expr} {ml : M (List Dt)} {px py pt : Pos} {kt k2 pt2} (hc : X.calm = true) (hN : X.N.Nodup) (ha : PAD X F W [a, b] ml)
    (hi : X.N[i]? = some x := by rfl) (hj : X.N[j]? = some y := by rfl) (hij : i ≠ j := by decide)
    (hx : X.env.scope.names.lookup x = some .local := by rfl) (hy : X.env.scope.names.lookup y = some .local := by rfl)
    (hw : swappedStores [.Tuple [.Name x px, .Name y py] kt pt] (.Tuple [a, b] k2 pt2) X.env = pure (some [x, y]) := by rfl)
    (hs : swapsWithSole [.Tuple [.Name x px, .Name y py] kt pt] (.Tuple [a, b] k2 pt2) pos.line X.env = pure false := by rfl) :
    PSD X F W (.Assign [.Tuple [.Name x px, .Name y py] kt pt] (.Tuple [a, b] k2 pt2) pos) (mPar [i, j] ml) := by
  refine ps_imp (ps_par hc hN hi hj hij hx hy ha hw hs) fun D σ H q => ?_
  obtain ⟨ρ, θ, Hs, st, q⟩ := q
  refine then_A OkS.anti st q fun vs l H1 Hs1 θ1 s1 st1 r1 h => ?_
  by_cases z : l.length = [i, j].length
  · rw [if_pos z] at h
    match l, z, r1, h with
    | [d1, d2], _, r1, h =>
      obtain ⟨v1, r, rfl, q1, v2, r', rfl, q2, rfl⟩ := r1
      exact ⟨v1, v2, rfl, h _ H1 Hs1 (Same.refl _) (st_set (st_set st1 i q1) j q2)⟩
  · rw [if_neg z] at h
    exact h.elim
def mRet (ma : M Dt) : M Out := bnd ma fun d _ θ => .ok (.ret (.d d)) θ
theorem psd_ret {ma : M Dt} (ha : PD X F W e ma) : PSD X F W (.Return (some e) pos) (mRet ma) := by
  refine ps_imp (ps_ret ha) fun D σ H q => ?_
  obtain ⟨ρ, θ, Hs, st, q⟩ := q
  exact then_D OkS.anti st q fun v d H1 Hs1 θ1 s1 st1 r1 h => h σ H1 Hs1 (Same.refl _) ρ v st1 r1
def mRetO (ma : M (List Dt)) : M Out := bnd ma fun l _ θ => .ok (.ret (.o l)) θ
theorem psd_retO {ma : M (List Dt)} (ha : PO X F W e ma) : PSD X F W (.Return (some e) pos) (mRetO ma) := by
  refine ps_imp (ps_ret ha) fun D σ H q => ?_
  obtain ⟨ρ, θ, Hs, st, q⟩ := q
  exact then_O OkS.anti st q fun a xs l H1 Hs1 θ1 s1 st1 e1 e2 e3 e4 e5 e6 h => h σ H1 Hs1 (Same.refl _) ρ a xs st1 e1 e2 e3 e4 e5
/-- return of a name that holds a list of one's own -/
def mRetV (i : Nat) : M Out := fun ρ θ => match ρ[i]? with
  | some (some (.own l)) => .ok (.ret (.o l)) θ
  | some (some (.dat d)) => .ok (.ret (.d d)) θ
  | _ => .bad
theorem psd_retV (i : Nat) {x : Str} {p : Pos} (hN : X.N[i]? = some x := by rfl) (hv : Vis X.env.scope x := by first | exact Or.inl rfl | exact Or.inr (Or.inl rfl) | exact Or.inr (Or.inr rfl)) (hd : (x == ("__debug__" : Str)) = false := by decide)
    (hcd : (x == ("__classdict__" : Str)) = false := by decide) : PSD X F W (.Return (some (.Name x p)) pos) (mRetV i) := by
  refine ps_imp (ps_ret (pe_var hN hv hd hcd)) fun D σ H q => ?_
  obtain ⟨ρ, θ, Hs, st, q⟩ := q
  unfold mRetV at q
  split at q
  · rename_i l e
    obtain ⟨a, xs, e1, e2, e3, e4, e5, e6⟩ := st.own i l e
    exact ⟨_, e1, q σ H Hs (Same.refl _) ρ a xs st e2 e3 e4 e5 e6⟩
  · rename_i d e
    obtain ⟨v, e1, e2⟩ := st.dat i d e
    exact ⟨v, e1, q σ H Hs (Same.refl _) ρ v st e2⟩
  · exact q.elim
def mRetN : M Out := fun _ θ => .ok (.ret (.d .non)) θ
def mIf (mc : M Bool) (m n : M Out) : M Out := bnd mc fun k => if k = true then m else n
theorem psd_if {c : Expr} {a b : List Stmt} {mc : M Bool} {m n : M Out} (hc : PTD X F W c mc) (ha : PSDs X F W a m) (hb : PSDs X F W b n) : PSD X F W (.If c a b pos) (mIf mc m n) := by
  refine ps_imp (ps_if hc ha hb) fun D σ H h => ?_
  obtain ⟨ρ, θ, Hs, st, h⟩ := h
  refine then_T OkS.anti st h fun k H1 Hs1 θ1 s1 st1 h => ?_
  cases k with
  | true => exact ⟨ρ, θ1, Hs1, st1, h⟩
  | false => exact ⟨ρ, θ1, Hs1, st1, h⟩
def mExpr (ma : M Dt) : M Out := bnd ma fun _ ρ θ => .ok (.next ρ) θ
theorem psd_expr {ma : M Dt} (ha : PD X F W e ma) (hs : swapsWith e none pos.line X.env = pure false := by rfl) : PSD X F W (.Expr e pos) (mExpr ma) := by
  refine ps_imp (ps_expr ha hs) fun D σ H q => ?_
  obtain ⟨ρ, θ, Hs, st, q⟩ := q
  exact then_D OkS.anti st q fun v d H1 Hs1 θ1 s1 st1 r1 h => h σ H1 Hs1 (Same.refl _) st1
def mBrk : M Out := fun ρ θ => .ok (.brk ρ) θ
def mCnt : M Out := fun ρ θ => .ok (.cnt ρ) θ
end

/-! ### what a def promises -/
def Ents (K : PySem.W.Frag) (ap : Option Addr) (Hs : Hp) : List Ent → List V → Prop
  | [], vs => vs = []
  | .dat d :: es, vs => ∃ v r, vs = v :: r ∧ Rep K Hs d v ∧ Ents K ap Hs es r
  | .pot :: es, vs => ∃ p r, vs = .ref p :: r ∧ ap = some p ∧ Ents K ap Hs es r
  | .own _ :: _, _ => False
/-- behind a def -/
structure FnEnd (ap : Option Addr) (Hs H Hs' H' : Hp) (θ : Pot) : Prop where
  s : Same Hs Hs'
  i : Same Hs' H'
  hap : ∀ p, ap = some p → Hs' p = none
  pot : PotAt H' ap θ
  old : ∀ b o, ap ≠ some b → H b = some o → H' b = some o
  n : ∀ b, H b ≠ none → Hs' b = Hs b
def RepR (K : PySem.W.Frag) (H Hs' H' : Hp) : Ret → V → Prop
  | .d d, v => Rep K Hs' d v
  | .o l, v => ∃ a xs, v = .ref a ∧ H' a = some (.lst xs) ∧ Reps K Hs' l xs ∧ Hs' a = none ∧ H a = none
abbrev Mir := List Ent → Pot → Res Ret
def spF (K : PySem.W.Frag) (mg : Str → Option Value) (n : Nat) (m : Mir) : Sp := fun vs H Q E => vs.length = n ∧ ∃ ap Hs es θ, Same Hs H ∧ (∀ p, ap = some p → Hs p = none) ∧ PotAt H ap θ ∧ Ents K ap Hs es vs ∧
  Post (m es θ) (fun r θ' => ∀ v H' Hs', FnEnd ap Hs H Hs' H' θ' → RepR K H Hs' H' r v → Q v H') (fun e _ θ' => ∀ c dd H' Hs', FnEnd ap Hs H Hs' H' θ' → ExcAt K mg Hs' H' e c dd → E c dd H')
/-- a def as it stands, by its mirror; nothing is being shown by repr where it is called -/
structure FnP (P : Program) (w : World) (K : PySem.W.Frag) (mg : Str → Option Value) (base : Heap) (k : Nat) (f : Addr) (fd : FuncData) (ps : List Str) (m : Mir) : Prop where
  run : ∀ (A : Around) (outer : List Env) (s : Shared) (H : Hp) (args : Args) (us : List Value) (vs : List V) (Q : VK) (E : XK), Room k A → A.guards = some [] → Env0 P w K mg base A outer s H → BindsTo s fd args (ps.zip us) → Vals vs us →
    spF K mg ps.length m vs H Q E → codeAny (model P w) A (.call (.ref f) args) (CR (L2.CX P w) outer P w H s Q E) s
/-- a def's mirror by its body's -/
def mFn (n : Nat) (m : M Out) : Mir := fun es θ => match m (es.map some ++ List.replicate (n - es.length) none) θ with
  | .ok (.next _) θ' => .ok (.d .non) θ'
  | .ok (.ret r) θ' => .ok r θ'
  | .exn e _ θ' => .exn e [] θ'
  | _ => .bad
theorem ents_len {K : PySem.W.Frag} {ap : Option Addr} {Hs : Hp} : ∀ {es : List Ent} {vs : List V}, Ents K ap Hs es vs → es.length = vs.length
  | [], _, h => by rw [show _ = _ from h]; rfl
  | .dat d :: es, _, h => by
    obtain ⟨v, r, rfl, _, h2⟩ := h
    rw [List.length_cons, List.length_cons, ents_len h2]
  | .pot :: es, _, h => by
    obtain ⟨v, r, rfl, _, h2⟩ := h
    rw [List.length_cons, List.length_cons, ents_len h2]
  | .own _ :: _, _, h => h.elim
theorem ents_dat {K : PySem.W.Frag} {ap : Option Addr} {Hs : Hp} : ∀ {es : List Ent} {vs : List V} {i : Nat} {d : Dt}, Ents K ap Hs es vs → es[i]? = some (.dat d) → ∃ v, vs[i]? = some v ∧ Rep K Hs d v
  | [], _, _, _, _, e => by simp at e
  | .dat d :: es, _, 0, _, h, e => by
    obtain ⟨v, r, rfl, h1, h2⟩ := h
    simp at e
    subst e
    exact ⟨v, rfl, h1⟩
  | .pot :: es, _, 0, _, h, e => by simp at e
  | .own _ :: _, _, _, _, h, _ => h.elim
  | .dat d :: es, _, i + 1, _, h, e => by
    obtain ⟨v, r, rfl, h1, h2⟩ := h
    obtain ⟨u, e1, e2⟩ := ents_dat h2 (by simpa using e)
    exact ⟨u, by simpa using e1, e2⟩
  | .pot :: es, _, i + 1, _, h, e => by
    obtain ⟨v, r, rfl, h1, h2⟩ := h
    obtain ⟨u, e1, e2⟩ := ents_dat h2 (by simpa using e)
    exact ⟨u, by simpa using e1, e2⟩
theorem ents_pot {K : PySem.W.Frag} {ap : Option Addr} {Hs : Hp} : ∀ {es : List Ent} {vs : List V} {i : Nat}, Ents K ap Hs es vs → es[i]? = some .pot → ∃ p, ap = some p ∧ vs[i]? = some (.ref p)
  | [], _, _, _, e => by simp at e
  | .pot :: es, _, 0, h, e => by
    obtain ⟨p, r, rfl, h1, h2⟩ := h
    exact ⟨p, h1, rfl⟩
  | .dat d :: es, _, 0, h, e => by simp at e
  | .own _ :: _, _, _, h, _ => h.elim
  | .dat d :: es, _, i + 1, h, e => by
    obtain ⟨v, r, rfl, h1, h2⟩ := h
    obtain ⟨u, e1, e2⟩ := ents_pot h2 (by simpa using e)
    exact ⟨u, e1, by simpa using e2⟩
  | .pot :: es, _, i + 1, h, e => by
    obtain ⟨v, r, rfl, h1, h2⟩ := h
    obtain ⟨u, e1, e2⟩ := ents_pot h2 (by simpa using e)
    exact ⟨u, e1, by simpa using e2⟩
theorem ents_own {K : PySem.W.Frag} {ap : Option Addr} {Hs : Hp} : ∀ {es : List Ent} {vs : List V} {i : Nat} {l : List Dt}, Ents K ap Hs es vs → es[i]? = some (.own l) → False
  | [], _, _, _, _, e => by simp at e
  | .own _ :: _, _, _, _, h, _ => h.elim
  | .dat d :: es, _, 0, _, h, e => by simp at e
  | .pot :: es, _, 0, _, h, e => by simp at e
  | .dat d :: es, _, i + 1, _, h, e => by
    obtain ⟨v, r, rfl, h1, h2⟩ := h
    exact ents_own h2 (by simpa using e)
  | .pot :: es, _, i + 1, _, h, e => by
    obtain ⟨v, r, rfl, h1, h2⟩ := h
    exact ents_own h2 (by simpa using e)
theorem start_at {es : List Ent} {n i : Nat} {x : Ent} (h : (es.map some ++ List.replicate (n - es.length) none)[i]? = some (some x)) : es[i]? = some x := by
  by_cases q : i < es.length
  · rw [List.getElem?_append_left (by simpa using q), List.getElem?_map] at h
    cases e : es[i]? with
    | none => rw [e] at h; cases h
    | some y => rw [e] at h; cases h; rfl
  · rw [List.getElem?_append_right (by simpa using q), List.getElem?_replicate] at h
    split at h <;> cases h
theorem start_val {N : List Str} {vs : List V} {i : Nat} {v : V} (h : vs[i]? = some v) : (L2.start N vs)[i]? = some (some v) := by
  have q : i < vs.length := (List.getElem?_eq_some_iff.mp h).1
  unfold L2.start
  rw [List.getElem?_append_left (by simpa using q), List.getElem?_map, h]
  rfl
/-- THE RULE of a def -/
theorem fnp {P : Program} {w : World} {K : PySem.W.Frag} {mg : Str → Option Value} {base : Heap} {k : Nat} {f : Addr} {fd : FuncData} {x qual : Str} {params : Arguments} {body : List Stmt} {scope : Scope} {dvs : List V} {kws : List (Str × V)} {N ps : List Str} {m : M Out}
    (T : FunD K x qual params body scope dvs kws f fd) (S : FnScope N ps scope)
    (hb : ∀ (cdv : Value) (A : Around) (outer : List Env) (s : Shared) (H : Hp) (E : XK) (F : Fr0), Room k (A.deeper (envOfC qual scope s.heap.objs.size f cdv)) → (A.deeper (envOfC qual scope s.heap.objs.size f cdv)).guards = some [] →
      PSDs (cxOf (L2.CX P w) P w K mg base N qual scope f cdv A outer s H E) F (fun c d _ H' => E c d H') body m) : FnP P w K mg base (k + 1) f fd ps (mFn N.length m) := by
  obtain ⟨oc, od, dV, kV, doc, pm, an, cdv, ct, osl, rfl, lk, hcd, _, _⟩ := T.ex
  refine ⟨fun A outer s H args us vs Q E hr hg e0 hbd r hsp => ?_⟩
  obtain ⟨hl, ap, Hs, es, θ, hsub, hap, hpot, hes, post⟩ := hsp
  have KX : K.In s.heap := e0.mod.kin.keeps fun b o z => (e0.bs b o z).1
  have lim : s.heap.NoLimit := e0.mod.nolimit.keeps fun b o z => (e0.bs b o z).1
  have kinds : ∀ y ∈ ps.zip us, scope.names.lookup y.1 = some .local ∨ (scope.names.lookup y.1 = some .cell ∧ ((cellsFrom (s.heap.objs.size + 1) scope.names []).lookup y.1).isSome = true) := by
    rintro ⟨n, v⟩ hy
    refine (S.par n (List.of_mem_zip hy).1).imp id fun q => ⟨q, ?_⟩
    exact PySem.W.cellsFrom_some _ _ _ (Or.inl q)
  refine codeAny_call_function hr.depth (KX _ _ lk) rfl S.co S.gen rfl (PySem.W.codeRec_of KX hcd) (hbd _ _ _ _ ?_)
  refine wpAny_newFunctionEnv_cells S.kind kinds fun env he s1 x1 => ?_
  cases he
  refine ⟨lim.keeps x1.toInCall.keep, codeAny_func ?_⟩
  have I := inv_start (CX := L2.CX P w) (E := E) S hr.hd e0 hl r x1
  have gd : (A.deeper (envOfC qual scope s.heap.objs.size f cdv)).guards = some [] := hg
  have B := hb cdv A outer s H E ⟨ap, H, Hs⟩ (hr.deeper _) gd
  have lenS : (L2.start N vs).length = N.length := by
    have hpl : ps.length ≤ N.length := by
      have z := congrArg List.length S.pre
      rw [List.length_take] at z
      omega
    unfold L2.start
    rw [List.length_append, List.length_map, List.length_replicate]
    omega
  have le := ents_len hes
  have st0 : StOk K ⟨ap, H, Hs⟩ (L2.start N vs) H Hs (es.map some ++ List.replicate (N.length - es.length) none) θ := by
    refine ⟨hsub, hap, hpot, fun b o _ z => z, fun b _ => rfl, fun i d z => ?_, fun i l z => ?_, fun i j l m a z => ?_, fun i z => ?_, ?_⟩
    · obtain ⟨v, e1, e2⟩ := ents_dat hes (start_at z)
      exact ⟨v, start_val e1, e2⟩
    · exact (ents_own hes (start_at z)).elim
    · exact (ents_own hes (start_at z)).elim
    · obtain ⟨p, e1, e2⟩ := ents_pot hes (start_at z)
      exact ⟨p, e1, start_val e2⟩
    · rw [lenS, List.length_append, List.length_map, List.length_replicate, le, hl]
      have hpl : ps.length ≤ N.length := by
        have z := congrArg List.length S.pre
        rw [List.length_take] at z
        omega
      omega
  have fe : ∀ {σ' : L2.St} {ρ' : DEnv} {H' Hs' : Hp} {θ' : Pot}, Same Hs Hs' → StOk K ⟨ap, H, Hs⟩ σ' H' Hs' ρ' θ' → FnEnd ap Hs H Hs' H' θ' := fun s' st' => ⟨s', st'.sub, st'.hap, st'.pot, st'.old, st'.frs⟩
  have body : tS (cxOf (L2.CX P w) P w K mg base N qual scope f cdv A outer s H E) ⟨ap, H, Hs⟩ (fun c d _ H' => E c d H') m { nx := fun _ H' => Q .non H', rt := Q } (L2.start N vs) H := by
    refine ⟨_, θ, Hs, st0, ?_⟩
    unfold mFn at post
    cases em : m (es.map some ++ List.replicate (N.length - es.length) none) θ with
    | ok o θ1 =>
      rw [em] at post
      cases o with
      | next ρ1 => exact fun σ' H' Hs' s' st' => post .non H' Hs' (fe s' st') rfl
      | ret r =>
        cases r with
        | d d => exact fun σ' H' Hs' s' ρ' v st' rv => post v H' Hs' (fe s' st') rv
        | o l => exact fun σ' H' Hs' s' ρ' a xs st' e1 e2 e3 e4 e5 => post (.ref a) H' Hs' (fe s' st') ⟨a, xs, rfl, e1, e2, e3, e4⟩
      | brk ρ1 => exact post.elim
      | cnt ρ1 => exact post.elim
    | exn e ρ1 θ1 =>
      rw [em] at post
      exact fun c dd σ' H' Hs' s' st' x => post c dd H' Hs' (fe s' st') x
    | bad =>
      rw [em] at post
      exact post.elim
  refine wpAny_mono (B.run [] s1 (L2.start N vs) H _ I body) (fun fl s' hs => ?_) fun e s' hs => hs
  cases fl with
  | ret u =>
    obtain ⟨v, σ', H', J, rv, q⟩ := hs
    exact ⟨v, H', J.os, J.bare, J.base, J.hok, rv, q⟩
  | next =>
    obtain ⟨σ', H', J, q⟩ := hs
    exact ⟨V.non, H', J.os, J.bare, J.base, J.hok, (rfl : (Value.none : Value) = _), q⟩
  | brk =>
    obtain ⟨_, _, _, q⟩ := hs
    exact q.elim
  | cont =>
    obtain ⟨_, _, _, q⟩ := hs
    exact q.elim
end Pd


namespace Pd
open PySem PySem.Spec PyProof.Rows L2
/-! ### calls of defs -/
theorem ents_mono {K : PySem.W.Frag} {ap : Option Addr} {Hs Hs' : Hp} (s : Same Hs Hs') : ∀ {es : List Ent} {vs : List V}, Ents K ap Hs es vs → Ents K ap Hs' es vs
  | [], _, h => h
  | .dat d :: es, _, h => by
    obtain ⟨v, r, rfl, h1, h2⟩ := h
    exact ⟨v, r, rfl, Rep.mono s d h1, ents_mono s h2⟩
  | .pot :: es, _, h => by
    obtain ⟨v, r, rfl, h1, h2⟩ := h
    exact ⟨v, r, rfl, h1, ents_mono s h2⟩
  | .own _ :: _, _, h => h.elim
theorem ents_append {K : PySem.W.Frag} {ap : Option Addr} {Hs : Hp} : ∀ {es fs : List Ent} {vs us : List V}, Ents K ap Hs es vs → Ents K ap Hs fs us → Ents K ap Hs (es ++ fs) (vs ++ us)
  | [], _, _, _, h, g => by rw [show _ = _ from h]; exact g
  | .dat d :: es, _, _, _, h, g => by
    obtain ⟨v, r, rfl, h1, h2⟩ := h
    exact ⟨v, _, rfl, h1, ents_append h2 g⟩
  | .pot :: es, _, _, _, h, g => by
    obtain ⟨v, r, rfl, h1, h2⟩ := h
    exact ⟨v, _, rfl, h1, ents_append h2 g⟩
  | .own _ :: _, _, _, _, h, _ => h.elim
/-- items by places -/
def pick {α : Type} (is : List Nat) (l : List α) : List α := is.filterMap fun i => l[i]?
theorem ents_one {K : PySem.W.Frag} {ap : Option Addr} {Hs : Hp} {e : Ent} {v : V} {es : List Ent} {vs : List V} {i : Nat} (h : Ents K ap Hs es vs) (q : es[i]? = some e) (p : vs[i]? = some v) {fs : List Ent} {us : List V} (g : Ents K ap Hs fs us) : Ents K ap Hs (e :: fs) (v :: us) := by
  cases e with
  | dat d =>
    obtain ⟨u, e1, e2⟩ := ents_dat h q
    rw [p] at e1
    cases e1
    exact ⟨v, us, rfl, e2, g⟩
  | pot =>
    obtain ⟨a, e1, e2⟩ := ents_pot h q
    rw [p] at e2
    cases e2
    exact ⟨a, us, rfl, e1, g⟩
  | own l => exact (ents_own h q).elim
theorem ents_pick {K : PySem.W.Frag} {ap : Option Addr} {Hs : Hp} {es : List Ent} {vs : List V} (h : Ents K ap Hs es vs) : ∀ is : List Nat, Ents K ap Hs (pick is es) (pick is vs)
  | [] => rfl
  | i :: is => by
    have ih := ents_pick h is
    have le := ents_len h
    unfold pick
    rw [List.filterMap_cons, List.filterMap_cons]
    by_cases q : i < es.length
    · have q2 : i < vs.length := by omega
      rw [List.getElem?_eq_getElem q, List.getElem?_eq_getElem q2]
      exact ents_one h (List.getElem?_eq_getElem q) (List.getElem?_eq_getElem q2) ih
    · rw [List.getElem?_eq_none (by omega), List.getElem?_eq_none (by omega)]
      exact ih
theorem vals_pick {vs : List V} {us : List Value} (h : Vals vs us) : ∀ is : List Nat, Vals (pick is vs) (pick is us)
  | [] => .nil
  | i :: is => by
    have ih := vals_pick h is
    have le := h.length
    unfold pick
    rw [List.filterMap_cons, List.filterMap_cons]
    by_cases q : i < vs.length
    · obtain ⟨u, e1, e2⟩ := h.get (List.getElem?_eq_getElem q)
      rw [List.getElem?_eq_getElem q, e1]
      exact .cons e2 ih
    · rw [List.getElem?_eq_none (by omega), List.getElem?_eq_none (by omega)]
      exact ih

section
variable {X : Cx} {F : Fr0} {W : WX} {a b c : Expr} {es : List Expr} {pos p : Pos} {x : Str}
def OkE (X : Cx) (F : Fr0) (σ : L2.St) (ρ : DEnv) (Q : List V → Hp → Prop) (Hs : Hp) : List Ent → Pot → Prop := fun l θ' => ∀ vs H' Hs', Same Hs Hs' → StOk X.K F σ H' Hs' ρ θ' → Ents X.K F.ap Hs' l vs → Q vs H'
theorem OkE.anti {σ : L2.St} {ρ : DEnv} {Q : List V → Hp → Prop} {Hs Hs1 : Hp} (s : Same Hs Hs1) : ∀ d θ, OkE X F σ ρ Q Hs d θ → OkE X F σ ρ Q Hs1 d θ := fun _ _ h vs H' Hs' s' => h vs H' Hs' (s.trans s')
def tE (X : Cx) (F : Fr0) (W : WX) (m : M (List Ent)) : TA := fun σ H Q => ∃ ρ θ Hs, StOk X.K F σ H Hs ρ θ ∧ Post (m ρ θ) (OkE X F σ ρ Q Hs) (ExW X F W Hs)
def PAE (X : Cx) (F : Fr0) (W : WX) (es : List Expr) (m : M (List Ent)) : Prop := PA X es (tE X F W m)
def PKE (X : Cx) (F : Fr0) (W : WX) (kws : List Keyword) (m : M (List Ent)) : Prop := PK X kws (tE X F W m)
theorem pk_imp {kws : List Keyword} {t t' : TA} (h : PK X kws t) (i : ∀ σ H Q, t' σ H Q → t σ H Q) : PK X kws t' := ⟨fun pos pins s σ H Q I q => h.run pos pins s σ H Q I (i σ H Q q)⟩
theorem then_E {β : Type} {m : M (List Ent)} {f : List Ent → M β} {okb : Hp → β → Pot → Prop} {Q : List V → Hp → Prop} {σ : L2.St} {H Hs : Hp} {ρ : DEnv} {θ : Pot} (anti : ∀ {Hs Hs1}, Same Hs Hs1 → ∀ b θ, okb Hs b θ → okb Hs1 b θ) (st : StOk X.K F σ H Hs ρ θ) (hp : Post (bnd m f ρ θ) (okb Hs) (ExW X F W Hs))
    (k : ∀ vs l H' Hs' θ', Same Hs Hs' → StOk X.K F σ H' Hs' ρ θ' → Ents X.K F.ap Hs' l vs → Post (f l ρ θ') (okb Hs') (ExW X F W Hs') → Q vs H') : tE X F W m σ H Q :=
  ⟨ρ, θ, Hs, st, (post_bnd hp).imp (fun d θ' q v H' Hs' s st' r => k v d H' Hs' θ' s st' r (q.imp (anti s) (ExW.anti s))) fun _ _ _ q => q⟩
def mENil : M (List Ent) := ret []
def mECons (ma : M Dt) (mr : M (List Ent)) : M (List Ent) := bnd ma fun d => bnd mr fun l => ret (.dat d :: l)
def mEPot (i : Nat) (mr : M (List Ent)) : M (List Ent) := fun ρ θ => match ρ[i]? with
  | some (some .pot) => bnd mr (fun l => ret (.pot :: l)) ρ θ
  | _ => .bad
theorem pae_nil : PAE X F W [] mENil := by
  refine pa_imp pa_nil fun σ H Q h => ?_
  obtain ⟨ρ, θ, Hs, st, h⟩ := h
  exact h [] H Hs (Same.refl _) st rfl
theorem econs_run {ma : M Dt} {mr : M (List Ent)} {σ : L2.St} {H : Hp} {Q : List V → Hp → Prop} (h : tE X F W (mECons ma mr) σ H Q) : tCons (tD X F W ma) (tE X F W mr) σ H Q := by
  obtain ⟨ρ, θ, Hs, st, h⟩ := h
  refine then_D OkE.anti st h fun x dx H1 Hs1 θ1 s1 st1 r1 h => ?_
  refine then_E OkE.anti st1 h fun xs l H2 Hs2 θ2 s2 st2 r2 h => ?_
  exact h (x :: xs) H2 Hs2 (Same.refl _) st2 ⟨x, xs, rfl, Rep.mono s2 dx r1, r2⟩
theorem epot_run {i : Nat} {mr : M (List Ent)} {σ : L2.St} {H : Hp} {Q : List V → Hp → Prop} (h : tE X F W (mEPot i mr) σ H Q) : tCons (tVar i) (tE X F W mr) σ H Q := by
  obtain ⟨ρ, θ, Hs, st, h⟩ := h
  unfold mEPot at h
  split at h
  · rename_i e
    obtain ⟨q, e1, e2⟩ := st.pt i e
    refine ⟨.ref q, e2, ?_⟩
    refine then_E OkE.anti st h fun xs l H2 Hs2 θ2 s2 st2 r2 h => ?_
    exact h (.ref q :: xs) H2 Hs2 (Same.refl _) st2 ⟨q, xs, rfl, e1, r2⟩
  · exact h.elim
theorem pae_d {ma : M Dt} {mr : M (List Ent)} (ha : PD X F W a ma) (hr : PAE X F W es mr) (hs : starEach (a :: es) X.env = (false, eval a X.env) :: starEach es X.env := by rfl) : PAE X F W (a :: es) (mECons ma mr) :=
  pa_imp (pa_cons ha hr hs) fun _ _ _ h => econs_run h
theorem pae_p (i : Nat) {y : Str} {mr : M (List Ent)} (hr : PAE X F W es mr) (hN : X.N[i]? = some y := by rfl) (hv : Vis X.env.scope y := by first | exact Or.inl rfl | exact Or.inr (Or.inl rfl) | exact Or.inr (Or.inr rfl)) (hd : (y == ("__debug__" : Str)) = false := by decide)
    (hcd : (y == ("__classdict__" : Str)) = false := by decide) (hs : starEach (.Name y p :: es) X.env = (false, eval (.Name y p) X.env) :: starEach es X.env := by rfl) : PAE X F W (.Name y p :: es) (mEPot i mr) :=
  pa_imp (pa_cons (pe_var hN hv hd hcd) hr hs) fun _ _ _ h => epot_run h
theorem pke_nil : PKE X F W [] mENil := by
  refine pk_imp pk_nil fun σ H Q h => ?_
  obtain ⟨ρ, θ, Hs, st, h⟩ := h
  exact h [] H Hs (Same.refl _) st rfl
theorem pke_d {nm : Option Str} {kpos : Pos} {kws : List Keyword} {ma : M Dt} {mr : M (List Ent)} (ha : PD X F W a ma) (hr : PKE X F W kws mr) : PKE X F W (⟨nm, a, kpos⟩ :: kws) (mECons ma mr) :=
  pk_imp (pk_cons ha hr) fun _ _ _ h => econs_run h
def LenE (m : M (List Ent)) (n : Nat) : Prop := ∀ ρ θ l θ', m ρ θ = .ok l θ' → l.length = n
theorem lenE_nil : LenE mENil 0 := fun ρ θ l θ' e => by cases e; rfl
theorem lenE_cons {ma : M Dt} {mr : M (List Ent)} {n : Nat} (h : LenE mr n) : LenE (mECons ma mr) (n + 1) := fun ρ θ l θ' e => by
  obtain ⟨d, θ1, _, e2⟩ := bnd_ok e
  obtain ⟨l2, θ2, e3, e4⟩ := bnd_ok e2
  cases e4
  rw [List.length_cons, h ρ θ1 l2 _ e3]
theorem lenE_pot {i : Nat} {mr : M (List Ent)} {n : Nat} (h : LenE mr n) : LenE (mEPot i mr) (n + 1) := fun ρ θ l θ' e => by
  unfold mEPot at e
  split at e
  · obtain ⟨l2, θ2, e3, e4⟩ := bnd_ok e
    cases e4
    rw [List.length_cons, h ρ θ l2 _ e3]
  · cases e

theorem st_end {σ : L2.St} {ρ : DEnv} {H Hs H' Hs' : Hp} {θ θ' : Pot} (st : StOk X.K F σ H Hs ρ θ) (e : FnEnd F.ap Hs H Hs' H' θ') : StOk X.K F σ H' Hs' ρ θ' where
  sub := e.i
  hap := e.hap
  pot := e.pot
  old := fun b o h1 h2 => e.old b o h1 (st.old b o h1 h2)
  frs := fun b hb => (e.n b (st.H0H hb)).trans (st.frs b hb)
  dat := fun i d z => by
    obtain ⟨v, e1, e2⟩ := st.dat i d z
    exact ⟨v, e1, Rep.mono e.s d e2⟩
  own := fun i l z => by
    obtain ⟨a, xs, e1, e2, e3, e4, e5, e6⟩ := st.own i l z
    exact ⟨a, xs, e1, e.old _ _ e6 e2, Reps.mono e.s l e3, (e.n a (by rw [e2]; exact fun z => nomatch z)).trans e4, e5, e6⟩
  sep := st.sep
  pt := st.pt
  len := st.len

/-- what a call hands on -/
def callD (f : Mir) (es : List Ent) : M Dt := fun ρ θ => match f es θ with
  | .ok (.d d) θ' => .ok d θ'
  | .ok (.o l) θ' => .ok (.lst l) θ'
  | .exn e _ θ' => .exn e ρ θ'
  | .bad => .bad
def callO (f : Mir) (es : List Ent) : M (List Dt) := fun ρ θ => match f es θ with
  | .ok (.o l) θ' => .ok l θ'
  | .exn e _ θ' => .exn e ρ θ'
  | _ => .bad
theorem callD_sp {f : Mir} {n : Nat} {es : List Ent} {vs : List V} {σ : L2.St} {ρ : DEnv} {H Hs : Hp} {θ : Pot} {Q : VK} (st : StOk X.K F σ H Hs ρ θ) (hl : vs.length = n) (he : Ents X.K F.ap Hs es vs) (h : Post (callD f es ρ θ) (OkD X F σ ρ Q Hs) (ExW X F W Hs)) : spF X.K X.mg n f vs H Q (fun c d H' => W c d σ H') := by
  refine ⟨hl, F.ap, Hs, es, θ, st.sub, st.hap, st.pot, he, ?_⟩
  unfold callD at h
  cases e : f es θ with
  | ok r θ1 =>
    rw [e] at h
    cases r with
    | d d => exact fun v H' Hs' fe rv => h v H' Hs' fe.s (st_end st fe) rv
    | o l =>
      rintro v H' Hs' fe ⟨a, xs, rfl, e1, e2, e3, e4⟩
      have st' := st_end st fe
      refine h (.ref a) H' _ (fe.s.trans (same_upd e3)) (st_freeze st' e1 e3 (h0_none st e4) (ap_ne st e4) (own_ne st e4)) ⟨a, xs, rfl, SqL.of upd_same, Reps.mono (same_upd e3) l e2⟩
  | exn x ρ1 θ1 =>
    rw [e] at h
    exact fun c dd H' Hs' fe xa => h c dd σ H' Hs' fe.s (st_end st fe) xa
  | bad =>
    rw [e] at h
    exact h
theorem callO_sp {f : Mir} {n : Nat} {es : List Ent} {vs : List V} {σ : L2.St} {ρ : DEnv} {H Hs : Hp} {θ : Pot} {Q : VK} (st : StOk X.K F σ H Hs ρ θ) (hl : vs.length = n) (he : Ents X.K F.ap Hs es vs) (h : Post (callO f es ρ θ) (OkO X F σ ρ Q Hs) (ExW X F W Hs)) : spF X.K X.mg n f vs H Q (fun c d H' => W c d σ H') := by
  refine ⟨hl, F.ap, Hs, es, θ, st.sub, st.hap, st.pot, he, ?_⟩
  unfold callO at h
  cases e : f es θ with
  | ok r θ1 =>
    rw [e] at h
    cases r with
    | d d => exact h.elim
    | o l =>
      rintro v H' Hs' fe ⟨a, xs, rfl, e1, e2, e3, e4⟩
      exact h a xs H' Hs' fe.s (st_end st fe) e1 e2 e3 (h0_none st e4) (ap_ne st e4) (own_ne st e4)
  | exn x ρ1 θ1 =>
    rw [e] at h
    exact fun c dd H' Hs' fe xa => h c dd σ H' Hs' fe.s (st_end st fe) xa
  | bad =>
    rw [e] at h
    exact h
theorem run_p {k : Nat} {f : Addr} {fd : FuncData} {ps : List Str} {m : Mir} {pins : List (Addr × Obj)} {σ : L2.St} {H : Hp} {s : Shared} {Q : VK} {us xs : List Value} {kw : List (Str × Value)} {vs : List V} (G : FnP X.prog X.w X.K X.mg X.base k f fd ps m) (hr : Room k X.A) (hg : X.A.guards = some []) (tk : Takes X W)
    (I : Inv X pins σ H s) (r : Vals vs xs) (bt : BindsTo s fd ⟨us, kw⟩ (ps.zip xs)) (h : spF X.K X.mg ps.length m vs H Q (fun c d H' => W c d σ H')) : wpAny (model X.prog X.w) X.A (call (.ref f) us kw) (EP X pins σ Q) X.xe s := by
  refine wpAny_call (codeAny_mono (G.run X.A X.stack s H ⟨us, kw⟩ xs vs Q _ hr hg I.env0 bt r h) fun z s' hq => ?_)
  cases z with
  | error e => exact tk e s' (XE.of_call I (fun _ _ _ q => q) hq)
  | ok fl =>
    cases fl with
    | ret u => exact I.after hq
    | next => exact hq.elim
    | brk => exact hq.elim
    | cont => exact hq.elim
/-- how a call's values, in the order in which they are written, come to the parameters: n positional ones, the keywords' ks, the defaults ds -/
def Bt (K : PySem.W.Frag) (fd : FuncData) (ps : List Str) (n : Nat) (ks : List Str) (ds : List Value) (is : List Nat) : Prop :=
  ∀ (s : Shared) (us ws : List Value), K.In s.heap → us.length = n → ws.length = ks.length → BindsTo s fd ⟨us, ks.zip ws⟩ (ps.zip (pick is (us ++ (ws ++ ds))))
def mCallD (f : Mir) (des : List Ent) (is : List Nat) (ma mk : M (List Ent)) : M Dt := bnd ma fun l => bnd mk fun r => callD f (pick is (l ++ (r ++ des)))
def mCallO (f : Mir) (des : List Ent) (is : List Nat) (ma mk : M (List Ent)) : M (List Dt) := bnd ma fun l => bnd mk fun r => callO f (pick is (l ++ (r ++ des)))
theorem pick_len {α β : Type} {l : List α} {m : List β} (h : l.length = m.length) : ∀ is : List Nat, (pick is l).length = (pick is m).length
  | [] => rfl
  | i :: is => by
    have ih := pick_len h is
    unfold pick at ih ⊢
    rw [List.filterMap_cons, List.filterMap_cons]
    by_cases q : i < l.length
    · rw [List.getElem?_eq_getElem q, List.getElem?_eq_getElem (show i < m.length by omega)]
      show (_ :: _).length = (_ :: _).length
      rw [List.length_cons, List.length_cons, ih]
    · rw [List.getElem?_eq_none (by omega), List.getElem?_eq_none (by omega)]
      exact ih
section
variable {k : Nat} {f : Addr} {fd : FuncData} {ps ks : List Str} {m : Mir} {n j : Nat} {ds : List Value} {dvs : List V} {des : List Ent} {is : List Nat} {ma mk : M (List Ent)} {kws : List Keyword} {e : Expr}
def tC2 (ta tk : TA) (sp : L2.St → List V → List V → Hp → VK → Prop) : TE := fun σ H Q => ta σ H fun vs H1 => tk σ H1 fun zs H2 => sp σ vs zs H2 Q
theorem call_lens (G : FnP X.prog X.w X.K X.mg X.base k f fd ps m) (bl : ∀ l : List Nat, l.length = n + (ks.length + ds.length) → (pick is l).length = ps.length) {α : Type} {l : List α} (h : l.length = n + (ks.length + ds.length)) : (pick is l).length = ps.length := by
  rw [pick_len (m := List.range l.length) (by rw [List.length_range]) is]
  exact bl _ (by rw [List.length_range]; exact h)
theorem tE_with {σ : L2.St} {H : Hp} {Q : List V → Hp → Prop} {ml : M (List Ent)} {n : Nat} (la : LenE ml n) (h : tE X F W ml σ H fun vs H' => vs.length = n → Q vs H') : tE X F W ml σ H fun vs H' => vs.length = n ∧ Q vs H' := by
  obtain ⟨ρ, θ, Hs, st, h⟩ := h
  refine ⟨ρ, θ, Hs, st, h.both.imp (fun l θ' q vs H' Hs' s' st' r => ?_) fun _ _ _ z => z⟩
  have e : vs.length = n := (ents_len r).symm.trans (la _ _ _ _ q.1)
  exact ⟨e, q.2 vs H' Hs' s' st' r e⟩
theorem callK_go (tk : Takes X W) (G : FnP X.prog X.w X.K X.mg X.base k f fd ps m) (hr : Room k X.A) (hg : X.A.guards = some []) (gl : Gl X x) (hm : X.mg x = some (.ref f)) (kp : PySem.W.keepIn X.K (.ref f) = true) (bt : Bt X.K fd ps n ks ds is) (hd : Vals dvs ds)
    (ha : PAE X F W (e :: es) ma) (hk : PKE X F W kws mk) (la : LenE ma n) (lk : LenE mk ks.length) (hks : (backToKw pos (keywordEach kws X.env)).filterMap (·.1) = ks) (hall : (backToKw pos (keywordEach kws X.env)).all (·.1.isSome) = true)
    (he : starEach (e :: es) X.env = (false, eval e X.env) :: starEach es X.env) (hpl : ((backTo pos (starEach (e :: es) X.env)).any (·.1) || (backToKw pos (keywordEach kws X.env)).any (·.1.isNone)) = false) (hdb : (x == ("__debug__" : Str)) = false) :
    PE X (.Call (.Name x p) (e :: es) kws pos) (tC2 (fun σ H Q => tE X F W ma σ H fun vs H' => vs.length = n → Q vs H') (fun σ H Q => tE X F W mk σ H fun zs H' => zs.length = ks.length → Q zs H') fun σ vs zs H2 Q => spF X.K X.mg ps.length m (pick is (vs ++ (zs ++ dvs))) H2 Q (fun c d H' => W c d σ H')) := by
  refine ⟨fun pins s σ H Q I h => ?_⟩
  refine wpAny_Call_Name_kw (ld_glob I gl hm ?_ hdb)
  refine PySem.W.callWith_KW (h₀ := X.base) I.ok.mod.kin kp hall (thn (ha.run pos pins s σ H _ I (tE_with la h)) fun us s1 ⟨vs, H1, I1, r1, l1, q1⟩ => ?_) hpl he
  refine thn (hk.run pos pins s1 σ H1 _ I1 (tE_with lk q1)) fun ws s2 ⟨zs, H2, I2, r2, lz, q2⟩ => ⟨I2.kIn, ?_⟩
  rw [hks]
  exact run_p G hr hg tk I2 (vals_pick (r1.append (r2.append hd)) is) (bt s2 us ws I2.kIn (r1.length.symm.trans l1) (r2.length.symm.trans lz)) q2
theorem callK0_go (tk : Takes X W) (G : FnP X.prog X.w X.K X.mg X.base k f fd ps m) (hr : Room k X.A) (hg : X.A.guards = some []) (gl : Gl X x) (hm : X.mg x = some (.ref f)) (kp : PySem.W.keepIn X.K (.ref f) = true) (bt : Bt X.K fd ps 0 ks ds is) (hd : Vals dvs ds)
    (hk : PKE X F W kws mk) (lk : LenE mk ks.length) (hks : (backToKw pos (keywordEach kws X.env)).filterMap (·.1) = ks) (hall : (backToKw pos (keywordEach kws X.env)).all (·.1.isSome) = true)
    (hpl : ((backTo pos (starEach [] X.env)).any (·.1) || (backToKw pos (keywordEach kws X.env)).any (·.1.isNone)) = false) (hdb : (x == ("__debug__" : Str)) = false) :
    PE X (.Call (.Name x p) [] kws pos) (fun σ H Q => tE X F W mk σ H fun zs H2 => zs.length = ks.length → spF X.K X.mg ps.length m (pick is ([] ++ (zs ++ dvs))) H2 Q (fun c d H' => W c d σ H')) := by
  refine ⟨fun pins s σ H Q I h => ?_⟩
  refine wpAny_Call_Name_kw (ld_glob I gl hm ?_ hdb)
  refine PySem.W.callWith_KW0 (h₀ := X.base) I.ok.mod.kin kp hall (thn (hk.run pos pins s σ H _ I (tE_with lk h)) fun ws s2 ⟨zs, H2, I2, r2, lz, q2⟩ => ⟨I2.kIn, ?_⟩) hpl
  rw [hks]
  exact run_p G hr hg tk I2 (vals_pick (r2.append hd) is) (bt s2 [] ws I2.kIn rfl (r2.length.symm.trans lz)) q2
/-- f(e, .., k = v, ..) -/
theorem pd_call (tk : Takes X W) (G : FnP X.prog X.w X.K X.mg X.base k f fd ps m) (hr : Room k X.A) (hg : X.A.guards = some []) (hm : X.mg x = some (.ref f)) (kp : PySem.W.keepIn X.K (.ref f) = true) (bt : Bt X.K fd ps n ks ds is) (hd : Vals dvs ds) (hde : ∀ ap Hs, Ents X.K ap Hs des dvs)
    (ha : PAE X F W (e :: es) ma) (hk : PKE X F W kws mk) (la : LenE ma n) (lk : LenE mk ks.length) (bl : ∀ l : List Nat, l.length = n + (ks.length + ds.length) → (pick is l).length = ps.length) (gl : Gl X x := by rfl)
    (hks : (backToKw pos (keywordEach kws X.env)).filterMap (·.1) = ks := by rfl) (hall : (backToKw pos (keywordEach kws X.env)).all (·.1.isSome) = true := by rfl)
    (he : starEach (e :: es) X.env = (false, eval e X.env) :: starEach es X.env := by rfl) (hpl : ((backTo pos (starEach (e :: es) X.env)).any (·.1) || (backToKw pos (keywordEach kws X.env)).any (·.1.isNone)) = false := by rfl) (hdb : (x == ("__debug__" : Str)) = false := by decide) :
    PD X F W (.Call (.Name x p) (e :: es) kws pos) (mCallD m des is ma mk) := by
  refine pe_imp (callK_go tk G hr hg gl hm kp bt hd ha hk la lk hks hall he hpl hdb) fun σ H Q h => ?_
  obtain ⟨ρ, θ, Hs, st, h⟩ := h
  refine then_E OkD.anti st h fun vs l H1 Hs1 θ1 s1 st1 r1 h ln => ?_
  refine then_E OkD.anti st1 h fun zs l2 H2 Hs2 θ2 s2 st2 r2 h lz => ?_
  refine callD_sp st2 (call_lens G bl ?_) (ents_pick (ents_append (ents_mono s2 r1) (ents_append r2 (hde _ _))) is) h
  rw [List.length_append, List.length_append, ln, lz, hd.length]
theorem po_call (tk : Takes X W) (G : FnP X.prog X.w X.K X.mg X.base k f fd ps m) (hr : Room k X.A) (hg : X.A.guards = some []) (hm : X.mg x = some (.ref f)) (kp : PySem.W.keepIn X.K (.ref f) = true) (bt : Bt X.K fd ps n ks ds is) (hd : Vals dvs ds) (hde : ∀ ap Hs, Ents X.K ap Hs des dvs)
    (ha : PAE X F W (e :: es) ma) (hk : PKE X F W kws mk) (la : LenE ma n) (lk : LenE mk ks.length) (bl : ∀ l : List Nat, l.length = n + (ks.length + ds.length) → (pick is l).length = ps.length) (gl : Gl X x := by rfl)
    (hks : (backToKw pos (keywordEach kws X.env)).filterMap (·.1) = ks := by rfl) (hall : (backToKw pos (keywordEach kws X.env)).all (·.1.isSome) = true := by rfl)
    (he : starEach (e :: es) X.env = (false, eval e X.env) :: starEach es X.env := by rfl) (hpl : ((backTo pos (starEach (e :: es) X.env)).any (·.1) || (backToKw pos (keywordEach kws X.env)).any (·.1.isNone)) = false := by rfl) (hdb : (x == ("__debug__" : Str)) = false := by decide) :
    PO X F W (.Call (.Name x p) (e :: es) kws pos) (mCallO m des is ma mk) := by
  refine pe_imp (callK_go tk G hr hg gl hm kp bt hd ha hk la lk hks hall he hpl hdb) fun σ H Q h => ?_
  obtain ⟨ρ, θ, Hs, st, h⟩ := h
  refine then_E OkO.anti st h fun vs l H1 Hs1 θ1 s1 st1 r1 h ln => ?_
  refine then_E OkO.anti st1 h fun zs l2 H2 Hs2 θ2 s2 st2 r2 h lz => ?_
  refine callO_sp st2 (call_lens G bl ?_) (ents_pick (ents_append (ents_mono s2 r1) (ents_append r2 (hde _ _))) is) h
  rw [List.length_append, List.length_append, ln, lz, hd.length]
theorem pd_call0 (tk : Takes X W) (G : FnP X.prog X.w X.K X.mg X.base k f fd ps m) (hr : Room k X.A) (hg : X.A.guards = some []) (hm : X.mg x = some (.ref f)) (kp : PySem.W.keepIn X.K (.ref f) = true) (bt : Bt X.K fd ps 0 ks ds is) (hd : Vals dvs ds) (hde : ∀ ap Hs, Ents X.K ap Hs des dvs)
    (hk : PKE X F W kws mk) (lk : LenE mk ks.length) (bl : ∀ l : List Nat, l.length = 0 + (ks.length + ds.length) → (pick is l).length = ps.length) (gl : Gl X x := by rfl)
    (hks : (backToKw pos (keywordEach kws X.env)).filterMap (·.1) = ks := by rfl) (hall : (backToKw pos (keywordEach kws X.env)).all (·.1.isSome) = true := by rfl)
    (hpl : ((backTo pos (starEach [] X.env)).any (·.1) || (backToKw pos (keywordEach kws X.env)).any (·.1.isNone)) = false := by rfl) (hdb : (x == ("__debug__" : Str)) = false := by decide) :
    PD X F W (.Call (.Name x p) [] kws pos) (mCallD m des is mENil mk) := by
  refine pe_imp (callK0_go tk G hr hg gl hm kp bt hd hk lk hks hall hpl hdb) fun σ H Q h => ?_
  obtain ⟨ρ, θ, Hs, st, h⟩ := h
  refine then_E OkD.anti st h fun zs l2 H2 Hs2 θ2 s2 st2 r2 h lz => ?_
  refine callD_sp st2 (call_lens G bl ?_) (ents_pick (ents_append (es := []) (vs := []) rfl (ents_append r2 (hde _ _))) is) h
  rw [List.nil_append, List.length_append, lz, hd.length]
  omega
end

/-! ### calls of built-ins -/
/-- a built-in whose value is plain: what it takes is read alone -/
def CallS (X : Cx) (fv : Value) (g : List Dt → Option Dt) : Prop := ∃ r, CallR X fv r ∧ ∀ ds d, g ds = some d → ∀ (H : Hp) (xs : List V) (Q : VK), Reps X.K H ds xs → (∀ v, (∀ H', Rep X.K H' d v) → Q v H) → r xs H Q
theorem CallS.or {fv : Value} {g g' : List Dt → Option Dt} (h : CallS X fv g) (h' : CallS X fv g') : CallS X fv (fun l => (g l).or (g' l)) := by
  obtain ⟨r, o, k⟩ := h
  obtain ⟨r', o', k'⟩ := h'
  refine ⟨fun xs H Q => r xs H Q ∨ r' xs H Q, fun pins s σ H xs us Q I rv q => ?_, fun ds d e H xs Q rp q => ?_⟩
  · rcases q with q | q
    · exact o pins s σ H xs us Q I rv q
    · exact o' pins s σ H xs us Q I rv q
  · have e : (g ds).or (g' ds) = some d := e
    cases e1 : g ds with
    | some d' =>
      rw [e1] at e
      exact Or.inl (k ds d (e1.trans e) H xs Q rp q)
    | none =>
      rw [e1] at e
      exact Or.inr (k' ds d e H xs Q rp q)
def mB (g : List Dt → Option Dt) (ml : M (List Dt)) : M Dt := bnd ml fun l => opt (g l)
theorem callS_run {fv : Value} {g : List Dt → Option Dt} {r : List V → Hp → VK → Prop} {ml : M (List Dt)} (k : ∀ ds d, g ds = some d → ∀ (H : Hp) (xs : List V) (Q : VK), Reps X.K H ds xs → (∀ v, (∀ H', Rep X.K H' d v) → Q v H) → r xs H Q)
    {σ : L2.St} {H : Hp} {Q : VK} (h : tD X F W (mB g ml) σ H Q) : tCB r (tA X F W ml) σ H Q := by
  obtain ⟨ρ, θ, Hs, st, h⟩ := h
  refine then_A OkD.anti st h fun xs l H1 Hs1 θ1 s1 st1 r1 h => ?_
  obtain ⟨d, e, q⟩ := post_opt h
  exact k l d e H1 xs Q (Reps.mono st1.sub l r1) fun v rv => fin_D q st1 (rv _)
/-- a list of one's own, lent -/
def mBor (i : Nat) : M (List Dt) := fun ρ θ => match ρ[i]? with
  | some (some (.own l)) => .ok [.lst l] θ
  | _ => .bad
section
variable {id T : String} {g : List Dt → Option Dt} {ml : M (List Dt)} {e : Expr}
theorem pd_B (hc : CallS X (.builtin id) g) (hm : X.mg x = none) (ha : PAD X F W (e :: es) ml) (hv : bootBuiltins x = some (.builtin id) := by decide +kernel) (hg : Gl X x := by rfl) (hn : x ≠ "__name__" := by decide) (hdb : (x == ("__debug__" : Str)) = false := by decide)
    (he : starEach (e :: es) X.env = (false, eval e X.env) :: starEach es X.env := by rfl) (hpl : (backTo pos (starEach es X.env)).any (·.1) = false := by rfl) : PD X F W (.Call (.Name x p) (e :: es) [] pos) (mB g ml) := by
  obtain ⟨r, o, k⟩ := hc
  exact pe_imp (pe_callB o hg hm hv ha hn hdb he hpl) fun σ H Q h => callS_run (fv := .builtin id) k h
theorem pd_Ty (hc : CallS X (.type T) g) (hm : X.mg x = none) (ha : PAD X F W (e :: es) ml) (hv : bootBuiltins x = some (.type T) := by decide +kernel) (hg : Gl X x := by rfl) (hn : x ≠ "__name__" := by decide) (hdb : (x == ("__debug__" : Str)) = false := by decide)
    (he : starEach (e :: es) X.env = (false, eval e X.env) :: starEach es X.env := by rfl) (hpl : (backTo pos (starEach es X.env)).any (·.1) = false := by rfl) : PD X F W (.Call (.Name x p) (e :: es) [] pos) (mB g ml) := by
  obtain ⟨r, o, k⟩ := hc
  exact pe_imp (pe_callTy o hg hm hv ha hn hdb he hpl) fun σ H Q h => callS_run (fv := .type T) k h
theorem pd_Bm (hc : CallS X (.builtin id) g) (hm : X.mg x = some (.builtin id)) (ha : PAD X F W (e :: es) ml) (hg : Gl X x := by rfl) (hdb : (x == ("__debug__" : Str)) = false := by decide)
    (he : starEach (e :: es) X.env = (false, eval e X.env) :: starEach es X.env := by rfl) (hpl : (backTo pos (starEach es X.env)).any (·.1) = false := by rfl) : PD X F W (.Call (.Name x p) (e :: es) [] pos) (mB g ml) := by
  obtain ⟨r, o, k⟩ := hc
  exact pe_imp (pe_callBfun o hg hm ha hdb he hpl) fun σ H Q h => callS_run (fv := .builtin id) k h
end
end
end Pd


namespace Pd
open PySem PySem.Spec PyProof.Rows L2
/-! ### some built-ins -/
section
variable {X : Cx}
theorem rep1 {K : PySem.W.Frag} {H : Hp} {d : Dt} {xs : List V} (h : Reps K H [d] xs) : ∃ x, xs = [x] ∧ Rep K H d x := by
  obtain ⟨x, r, rfl, h1, rfl⟩ := h
  exact ⟨x, rfl, h1⟩
theorem rep2 {K : PySem.W.Frag} {H : Hp} {d e : Dt} {xs : List V} (h : Reps K H [d, e] xs) : ∃ x y, xs = [x, y] ∧ Rep K H d x ∧ Rep K H e y := by
  obtain ⟨x, r, rfl, h1, y, r2, rfl, h2, rfl⟩ := h
  exact ⟨x, y, rfl, h1, h2⟩
def gAbs : List Dt → Option Dt
  | [.int i] => some (.int (if i < 0 then -i else i))
  | _ => none
theorem cs_abs : CallS X (.builtin "abs") gAbs := by
  refine ⟨_, call_abs, fun ds d e H xs Q r q => ?_⟩
  unfold gAbs at e
  split at e
  · cases e
    obtain ⟨x, rfl, h1⟩ := rep1 r
    exact ⟨_, by rw [show x = _ from h1], q _ fun _ => rfl⟩
  · cases e
def gMax2 : List Dt → Option Dt
  | [.int i, .int j] => some (.int (if j > i then j else i))
  | _ => none
def gMin2 : List Dt → Option Dt
  | [.int i, .int j] => some (.int (if j < i then j else i))
  | _ => none
theorem cs_max2 (hc : X.calm = true) : CallS X (.builtin "max") gMax2 := by
  refine ⟨_, call_max2 hc, fun ds d e H xs Q r q => ?_⟩
  unfold gMax2 at e
  split at e
  · cases e
    obtain ⟨x, y, rfl, h1, h2⟩ := rep2 r
    exact ⟨_, _, by rw [show x = _ from h1, show y = _ from h2], q _ fun _ => rfl⟩
  · cases e
theorem cs_min2 (hc : X.calm = true) : CallS X (.builtin "min") gMin2 := by
  refine ⟨_, call_min2 hc, fun ds d e H xs Q r q => ?_⟩
  unfold gMin2 at e
  split at e
  · cases e
    obtain ⟨x, y, rfl, h1, h2⟩ := rep2 r
    exact ⟨_, _, by rw [show x = _ from h1, show y = _ from h2], q _ fun _ => rfl⟩
  · cases e
/-- a list of ints, of bools -/
def intsOf : List Dt → Option (List Int)
  | [] => some []
  | .int i :: l => (intsOf l).map (i :: ·)
  | _ => none
theorem intsOf_eq : ∀ {l : List Dt} {ns : List Int}, intsOf l = some ns → l = ns.map Dt.int
  | [], ns, h => by cases h; rfl
  | .int i :: l, ns, h => by
    obtain ⟨ms, e, rfl⟩ := Option.map_eq_some_iff.mp (show (intsOf l).map (i :: ·) = some ns from h)
    rw [intsOf_eq e, List.map_cons]
  | .non :: _, _, h => nomatch h
  | .bl _ :: _, _, h => nomatch h
  | .str _ :: _, _, h => nomatch h
  | .lst _ :: _, _, h => nomatch h
  | .tup _ :: _, _, h => nomatch h
  | .raw _ :: _, _, h => nomatch h
def boolsOf : List Dt → Option (List Bool)
  | [] => some []
  | .bl i :: l => (boolsOf l).map (i :: ·)
  | _ => none
theorem boolsOf_eq : ∀ {l : List Dt} {ns : List Bool}, boolsOf l = some ns → l = ns.map Dt.bl
  | [], ns, h => by cases h; rfl
  | .bl i :: l, ns, h => by
    obtain ⟨ms, e, rfl⟩ := Option.map_eq_some_iff.mp (show (boolsOf l).map (i :: ·) = some ns from h)
    rw [boolsOf_eq e, List.map_cons]
  | .non :: _, _, h => nomatch h
  | .int _ :: _, _, h => nomatch h
  | .str _ :: _, _, h => nomatch h
  | .lst _ :: _, _, h => nomatch h
  | .tup _ :: _, _, h => nomatch h
  | .raw _ :: _, _, h => nomatch h
/-- the greatest, the least -/
def maxI : List Int → Int
  | [] => 0
  | i :: l => l.foldl (fun a b => if b > a then b else a) i
def minI : List Int → Int
  | [] => 0
  | i :: l => l.foldl (fun a b => if b < a then b else a) i
theorem foldl_max (l : List Int) (i : Int) : (l.foldl (fun a b => if b > a then b else a) i = i ∨ l.foldl (fun a b => if b > a then b else a) i ∈ l) ∧ i ≤ l.foldl (fun a b => if b > a then b else a) i ∧ ∀ y ∈ l, y ≤ l.foldl (fun a b => if b > a then b else a) i := by
  induction l generalizing i with
  | nil => exact ⟨Or.inl rfl, Int.le_refl _, fun y hy => nomatch hy⟩
  | cons b l ih =>
    obtain ⟨h1, h2, h3⟩ := ih (if b > i then b else i)
    rw [List.foldl_cons]
    refine ⟨?_, ?_, fun y hy => ?_⟩
    · rcases h1 with h1 | h1
      · by_cases z : b > i
        · rw [if_pos z] at h1 ⊢
          exact Or.inr (by rw [h1]; exact List.mem_cons_self)
        · rw [if_neg z] at h1 ⊢
          exact Or.inl h1
      · exact Or.inr (List.mem_cons_of_mem _ h1)
    · by_cases z : b > i
      · rw [if_pos z] at h2 ⊢
        omega
      · rw [if_neg z] at h2 ⊢
        omega
    · rcases List.mem_cons.mp hy with e | hy
      · subst e
        by_cases z : y > i
        · rw [if_pos z] at h2 ⊢
          omega
        · rw [if_neg z] at h2 ⊢
          omega
      · exact h3 y hy
theorem foldl_min (l : List Int) (i : Int) : (l.foldl (fun a b => if b < a then b else a) i = i ∨ l.foldl (fun a b => if b < a then b else a) i ∈ l) ∧ l.foldl (fun a b => if b < a then b else a) i ≤ i ∧ ∀ y ∈ l, l.foldl (fun a b => if b < a then b else a) i ≤ y := by
  induction l generalizing i with
  | nil => exact ⟨Or.inl rfl, Int.le_refl _, fun y hy => nomatch hy⟩
  | cons b l ih =>
    obtain ⟨h1, h2, h3⟩ := ih (if b < i then b else i)
    rw [List.foldl_cons]
    refine ⟨?_, ?_, fun y hy => ?_⟩
    · rcases h1 with h1 | h1
      · by_cases z : b < i
        · rw [if_pos z] at h1 ⊢
          exact Or.inr (by rw [h1]; exact List.mem_cons_self)
        · rw [if_neg z] at h1 ⊢
          exact Or.inl h1
      · exact Or.inr (List.mem_cons_of_mem _ h1)
    · by_cases z : b < i
      · rw [if_pos z] at h2 ⊢
        omega
      · rw [if_neg z] at h2 ⊢
        omega
    · rcases List.mem_cons.mp hy with e | hy
      · subst e
        by_cases z : y < i
        · rw [if_pos z] at h2 ⊢
          omega
        · rw [if_neg z] at h2 ⊢
          omega
      · exact h3 y hy
theorem maxI_mem {l : List Int} (h : l ≠ []) : maxI l ∈ l := by
  cases l with
  | nil => exact absurd rfl h
  | cons i l =>
    rcases (foldl_max l i).1 with e | e
    · show l.foldl _ i ∈ _
      rw [e]
      exact List.mem_cons_self
    · exact List.mem_cons_of_mem _ e
theorem maxI_ge {l : List Int} {y : Int} (h : y ∈ l) : y ≤ maxI l := by
  cases l with
  | nil => cases h
  | cons i l =>
    rcases List.mem_cons.mp h with e | e
    · rw [e]
      exact (foldl_max l i).2.1
    · exact (foldl_max l i).2.2 y e
theorem minI_mem {l : List Int} (h : l ≠ []) : minI l ∈ l := by
  cases l with
  | nil => exact absurd rfl h
  | cons i l =>
    rcases (foldl_min l i).1 with e | e
    · show l.foldl _ i ∈ _
      rw [e]
      exact List.mem_cons_self
    · exact List.mem_cons_of_mem _ e
theorem minI_le {l : List Int} {y : Int} (h : y ∈ l) : minI l ≤ y := by
  cases l with
  | nil => cases h
  | cons i l =>
    rcases List.mem_cons.mp h with e | e
    · rw [e]
      exact (foldl_min l i).2.1
    · exact (foldl_min l i).2.2 y e
def gMaxL : List Dt → Option Dt
  | [.lst l] => (intsOf l).bind fun ns => if ns.isEmpty then none else some (.int (maxI ns))
  | _ => none
def gMinL : List Dt → Option Dt
  | [.lst l] => (intsOf l).bind fun ns => if ns.isEmpty then none else some (.int (minI ns))
  | _ => none
theorem listArg {K : PySem.W.Frag} {H : Hp} {l : List Dt} {xs : List V} (r : Reps K H [.lst l] xs) : ∃ a ys, xs = [.ref a] ∧ SqL K H a ys ∧ Reps K H l ys := by
  obtain ⟨x, rfl, a, ys, rfl, h1, h2⟩ := rep1 r
  exact ⟨a, ys, rfl, h1, h2⟩
theorem cs_maxL (hc : X.calm = true) : CallS X (.builtin "max") gMaxL := by
  refine ⟨_, cr_max hc, fun ds d e H xs Q r q => ?_⟩
  unfold gMaxL at e
  split at e
  · rename_i l
    obtain ⟨ns, e1, e2⟩ := Option.bind_eq_some_iff.mp e
    cases ns with
    | nil => cases e2
    | cons n ns =>
      cases e2
      obtain ⟨a, ys, rfl, h1, h2⟩ := listArg r
      rw [intsOf_eq e1] at h2
      rw [Reps.ints h2] at h1
      refine ⟨a, n :: ns, rfl, h1, Nat.succ_pos _, fun m hm hle => ?_⟩
      have z : m = maxI (n :: ns) := by
        have z1 := hle _ (maxI_mem (List.cons_ne_nil n ns))
        have z2 := maxI_ge hm
        omega
      rw [z]
      exact q _ fun _ => rfl
  · cases e
theorem cs_minL (hc : X.calm = true) : CallS X (.builtin "min") gMinL := by
  refine ⟨_, cr_min hc, fun ds d e H xs Q r q => ?_⟩
  unfold gMinL at e
  split at e
  · rename_i l
    obtain ⟨ns, e1, e2⟩ := Option.bind_eq_some_iff.mp e
    cases ns with
    | nil => cases e2
    | cons n ns =>
      cases e2
      obtain ⟨a, ys, rfl, h1, h2⟩ := listArg r
      rw [intsOf_eq e1] at h2
      rw [Reps.ints h2] at h1
      refine ⟨a, n :: ns, rfl, h1, Nat.succ_pos _, fun m hm hle => ?_⟩
      have z : m = minI (n :: ns) := by
        have z1 := hle _ (minI_mem (List.cons_ne_nil n ns))
        have z2 := minI_le hm
        omega
      rw [z]
      exact q _ fun _ => rfl
  · cases e
def gMax (l : List Dt) : Option Dt := (gMax2 l).or (gMaxL l)
def gMin (l : List Dt) : Option Dt := (gMin2 l).or (gMinL l)
theorem cs_max (hc : X.calm = true) : CallS X (.builtin "max") gMax := (cs_max2 hc).or (cs_maxL hc)
theorem cs_min (hc : X.calm = true) : CallS X (.builtin "min") gMin := (cs_min2 hc).or (cs_minL hc)
def gSum : List Dt → Option Dt
  | [.lst l] => (intsOf l).map fun ns => .int ns.sum
  | _ => none
def gAll : List Dt → Option Dt
  | [.lst l] => (boolsOf l).map fun ns => .bl (ns.all id)
  | _ => none
def gAny : List Dt → Option Dt
  | [.lst l] => (boolsOf l).map fun ns => .bl (ns.any id)
  | _ => none
theorem cs_all (hc : X.calm = true) : CallS X (.builtin "all") gAll := by
  refine ⟨_, cr_all hc, fun ds d e H xs Q r q => ?_⟩
  unfold gAll at e
  split at e
  · rename_i l
    obtain ⟨ns, e1, rfl⟩ := Option.map_eq_some_iff.mp e
    obtain ⟨a, ys, rfl, h1, h2⟩ := listArg r
    rw [boolsOf_eq e1] at h2
    rw [Reps.bools h2] at h1
    exact ⟨a, ns, rfl, h1, q _ fun _ => rfl⟩
  · cases e
def gLen : List Dt → Option Dt
  | [.lst l] => some (.int l.length)
  | [.tup l] => some (.int l.length)
  | [.str s] => if s.length ≤ sizeLine then some (.int s.length) else none
  | _ => none
theorem cs_len : CallS X (.builtin "len") gLen := by
  refine ⟨_, call_len, fun ds d e H xs Q r q => ?_⟩
  unfold gLen at e
  split at e
  · rename_i l
    cases e
    obtain ⟨x, rfl, a, ys, rfl, h1, h2⟩ := rep1 r
    refine ⟨_, l.length, rfl, Or.inl ⟨ys, h1, h2.length⟩, q _ fun _ => rfl⟩
  · rename_i l
    cases e
    obtain ⟨x, rfl, a, ys, rfl, h1, h2⟩ := rep1 r
    refine ⟨_, l.length, rfl, Or.inr ⟨ys, h1, h2.length⟩, q _ fun _ => rfl⟩
  · rename_i s
    by_cases z : s.length ≤ sizeLine
    · rw [if_pos z] at e
      cases e
      obtain ⟨x, rfl, h1⟩ := rep1 r
      rw [show x = _ from h1]
      exact ⟨_, s.length, rfl, ⟨z, rfl⟩, q _ fun _ => rfl⟩
    · rw [if_neg z] at e
      cases e
  · cases e
def gInt : List Dt → Option Dt
  | [.int i] => some (.int i)
  | [.bl b] => some (.int (if b then 1 else 0))
  | _ => none
theorem cs_int : CallS X (.type "int") gInt := by
  refine ⟨_, call_int1, fun ds d e H xs Q r q => ?_⟩
  unfold gInt at e
  split at e
  · cases e
    obtain ⟨x, rfl, h1⟩ := rep1 r
    exact Or.inl ⟨_, by rw [show x = _ from h1], q _ fun _ => rfl⟩
  · cases e
    obtain ⟨x, rfl, h1⟩ := rep1 r
    exact Or.inr ⟨_, by rw [show x = _ from h1], q _ fun _ => rfl⟩
  · cases e
def gGcd : List Dt → Option Dt
  | [.int i, .int j] => some (.int ((Nat.gcd i.natAbs j.natAbs : Nat) : Int))
  | _ => none
theorem cs_gcd : CallS X (.builtin "math.gcd") gGcd := by
  refine ⟨_, cr_gcd, fun ds d e H xs Q r q => ?_⟩
  unfold gGcd at e
  split at e
  · cases e
    obtain ⟨x, y, rfl, h1, h2⟩ := rep2 r
    exact ⟨_, _, by rw [show x = _ from h1, show y = _ from h2], q _ fun _ => rfl⟩
  · cases e
def gIsqrt : List Dt → Option Dt
  | [.int i] => if (decide (0 ≤ i) && decide (i.toNat.log2 < 13000)) = true then some (.int ((Float64.isqrt i.toNat : Nat) : Int)) else none
  | _ => none
/-- repr: of data without dicts, nothing being shown -/
def shw (d : Dt) : Option Str := match toP d with
  | some p => if (p.showable && (!p.hasDict && (decide (p.depth ≤ 60) && decide (p.shown.length ≤ sizeLine)))) = true then some p.shown else none
  | none => none
def gRepr : List Dt → Option Dt
  | [d] => (shw d).map Dt.str
  | _ => none
theorem cs_repr {k : Nat} (hr : Room k X.A) (hg : X.A.guards = some []) : CallS X (.builtin "repr") gRepr := by
  refine ⟨fun xs H Q => ∃ a p, xs = [a] ∧ Dp X.K H a p ∧ p.showable = true ∧ p.hasDict = false ∧ p.depth ≤ 60 ∧ p.shown.length ≤ sizeLine ∧ Q (.str p.shown) H, ?_, fun ds d e H xs Q r q => ?_⟩
  · intro pins s σ H xs us Q I r h
    obtain ⟨a, p, rfl, hd, h1, h2, h3, h4, q⟩ := h
    obtain ⟨u, rfl, ru⟩ := vals1 r
    obtain ⟨as, rd⟩ := Dp.reads I p _ u hd ru
    have hu := hr.units
    have big : ∀ a : Addr, u = .ref a → wpAny (model X.prog X.w) X.A (call (.builtin "repr") [u]) (EP X pins σ Q) X.xe s := fun a e => by
      subst e
      exact PySem.repr_of_reads' rd h1 (PySem.PyData.noDict_hsm h2) hg (by omega) (fun _ _ z => z) (fun h' u tk kk => ⟨.str p.shown, H, I.kept kk, ⟨_, rfl⟩, q⟩) h4
    have kk : Inv X pins σ H { s with toks := s.toks + 1 } := I.kept fun b o e => e
    cases hd with
    | non =>
      obtain rfl : u = .none := ru
      simp only [PyData.shown] at q
      exact PySem.P.repr_of_none ⟨.str _, H, kk, ⟨_, rfl⟩, q⟩
    | bl b =>
      obtain rfl : u = .bool b := ru
      simp only [PyData.shown] at q
      exact PySem.P.repr_of_bool ⟨.str _, H, kk, ⟨_, rfl⟩, q⟩
    | int i =>
      obtain ⟨t, rfl⟩ := (show ∃ t, u = .int i t from ru)
      simp only [PyData.shown] at q
      exact PySem.P.repr_of_int (of_decide_eq_true h1) ⟨.str _, H, kk, ⟨_, rfl⟩, q⟩
    | str x =>
      obtain ⟨t, rfl⟩ := (show ∃ t, u = .str x t from ru)
      simp only [PyData.shown] at q h4
      exact PySem.P.repr_of_str ⟨.str _, H, kk, ⟨_, rfl⟩, q⟩ h4
    | lst _ _ => exact big _ ru
    | tup _ _ => exact big _ ru
  · unfold gRepr at e
    split at e
    · rename_i d0
      obtain ⟨x, rfl, rx⟩ := rep1 r
      obtain ⟨s, e1, rfl⟩ := Option.map_eq_some_iff.mp e
      unfold shw at e1
      split at e1
      · rename_i p e2
        by_cases z : (p.showable && (!p.hasDict && (decide (p.depth ≤ 60) && decide (p.shown.length ≤ sizeLine)))) = true
        · rw [if_pos z] at e1
          cases e1
          obtain ⟨z1, z⟩ := Bool.and_eq_true_iff.mp z
          obtain ⟨z2, z⟩ := Bool.and_eq_true_iff.mp z
          obtain ⟨z3, z4⟩ := Bool.and_eq_true_iff.mp z
          exact ⟨x, p, rfl, Rep.dp _ rx e2, z1, by simpa using z2, of_decide_eq_true z3, of_decide_eq_true z4, q _ fun _ => rfl⟩
        · rw [if_neg z] at e1
          cases e1
      · cases e1
    · cases e
end

/-! ### isinstance -/
def tyName : Dt → Option String
  | .non => some "NoneType"
  | .bl _ => some "bool"
  | .int _ => some "int"
  | .str _ => some "str"
  | .lst _ => some "list"
  | .tup _ => some "tuple"
  | .raw _ => none
theorem tyName_ok {K : PySem.W.Frag} {H : Hp} {d : Dt} {v : V} {n : String} (r : Rep K H d v) (e : tyName d = some n) : TyX K H v (.type n) := by
  cases d with
  | non => cases e; rw [show v = _ from r]; exact .base .non
  | bl b => cases e; rw [show v = _ from r]; exact .base (.bl b)
  | int b => cases e; rw [show v = _ from r]; exact .base (.int b)
  | str b => cases e; rw [show v = _ from r]; exact .base (.str b)
  | lst l =>
    cases e
    obtain ⟨a, xs, rfl, h, _⟩ := r
    rcases h with (h | ⟨o, h⟩) | ⟨o, its, m, h1, h2, _⟩
    · exact .base (.lst h)
    · exact .base (.frz h)
    · exact .kList h1 h2
  | tup l =>
    cases e
    obtain ⟨a, xs, rfl, h, _⟩ := r
    rcases h with (h | ⟨o, h⟩) | ⟨o, its, m, h1, h2, _⟩
    · exact .base (.tup h)
    · exact .fTuple h
    · exact .kTuple h1 h2
  | raw u => cases e
section
variable {X : Cx} {F : Fr0} {W : WX} {a b : Expr} {pos p q : Pos} {x T : Str}
def isT (n : String) (d : Dt) : Option Bool := (tyName d).bind fun m => kitB m n
def mIsi (n : String) (ma : M Dt) : M Dt := bnd ma fun d => opt ((isT n d).map Dt.bl)
theorem pd_isi {n : String} {ma : M Dt} (hm : X.mg "isinstance" = none) (hT : X.mg T = none) (ha : PD X F W a ma) (hvT : bootBuiltins T = some (.type n) := by decide +kernel) (hg : Gl X "isinstance" := by rfl) (hgT : Gl X T := by rfl) (hnT : T ≠ "__name__" := by decide) (hdT : (T == ("__debug__" : Str)) = false := by decide)
    (he : starEach (a :: [.Name T q]) X.env = (false, eval a X.env) :: starEach [.Name T q] X.env := by rfl) (he2 : starEach [.Name T q] X.env = (false, eval (.Name T q) X.env) :: starEach [] X.env := by rfl) (hpl : (backTo pos (starEach [.Name T q] X.env)).any (·.1) = false := by rfl) :
    PD X F W (.Call (.Name "isinstance" p) [a, .Name T q] [] pos) (mIsi n ma) := by
  refine pe_imp (pe_callB call_isi hg hm (by decide +kernel) (pa_cons ha (pa_cons (pe_bltn (v := .ty n) hgT hT hvT rfl hnT hdT) pa_nil he2) he) (by decide) (by decide) he hpl) fun σ H Q h => ?_
  obtain ⟨ρ, θ, Hs, st, h⟩ := h
  refine then_D OkD.anti st h fun v d H1 Hs1 θ1 s1 st1 r1 h => ?_
  obtain ⟨d', e, q'⟩ := post_opt h
  obtain ⟨k, e0, rfl⟩ := Option.map_eq_some_iff.mp e
  obtain ⟨m, e1, e2⟩ := Option.bind_eq_some_iff.mp e0
  exact ⟨v, .ty n, .type m, .type n, k, rfl, .ty n, tyName_ok (Rep.mono st1.sub d r1) e1, kit_ty e2, fin_D q' st1 rfl⟩

/-! ### items -/
theorem reps_atI {K : PySem.W.Frag} {H : Hp} {l : List Dt} {xs : List V} {i : Int} {d : Dt} (h : Reps K H l xs) (e : atI l i = some d) : ∃ v, atI xs i = some v ∧ Rep K H d v := by
  unfold atI at e ⊢
  rw [h.length] at e
  obtain ⟨j, e1, e2⟩ := Option.bind_eq_some_iff.mp e
  obtain ⟨v, e3, e4⟩ := h.get e2
  exact ⟨v, by rw [e1]; exact e3, e4⟩
def gIx : Dt → Dt → Option Dt
  | .lst l, .int i => atI l i
  | .tup l, .int i => atI l i
  | .str z, .int i => if z.length ≤ sizeLine then (atI z.cps.toList i).map fun c => .str ⟨#[c]⟩ else none
  | _, _ => none
theorem gIx_run {K : PySem.W.Frag} (a b d : Dt) (e : gIx a b = some d) (Hs H : Hp) (x y : V) (Q : VK) (s : Same Hs H) (ra : Rep K Hs a x) (rb : Rep K Hs b y) (q : ∀ v Hs' H', Grow Hs H Hs' H' → Rep K Hs' d v → Q v H') : rIx K x y H Q := by
  unfold gIx at e
  split at e
  · obtain ⟨p, xs, rfl, h1, h2⟩ := ra
    obtain ⟨v, e1, e2⟩ := reps_atI h2 e
    exact Or.inl ⟨p, xs, _, v, rfl, rb, s.seq h1, e1, q v Hs H (Grow.refl s) e2⟩
  · obtain ⟨p, xs, rfl, h1, h2⟩ := ra
    obtain ⟨v, e1, e2⟩ := reps_atI h2 e
    exact Or.inr (Or.inl ⟨p, xs, _, v, rfl, rb, sqt_mono s h1, e1, q v Hs H (Grow.refl s) e2⟩)
  · rename_i z i
    by_cases hz : z.length ≤ sizeLine
    · rw [if_pos hz] at e
      obtain ⟨c, e1, rfl⟩ := Option.map_eq_some_iff.mp e
      exact Or.inr (Or.inr ⟨z, i, c, ra, rb, hz, e1, q _ Hs H (Grow.refl s) rfl⟩)
    · rw [if_neg hz] at e
      cases e
  · cases e
theorem pd_ix {ma mb : M Dt} (ha : PD X F W a ma) (hb : PD X F W b mb) (hs : PlainIx b := by intro _ _; rfl) : PD X F W (.Subscript a b pos) (mOp gIx ma mb) :=
  pe_imp (pe_ix ix_seq ha hb hs) fun σ H Q h => op_run (f := binaryOp .Add) gIx_run h
end
end Pd


namespace Pd
open PySem PySem.Spec PyProof.Rows L2
/-! ### targets -/
inductive Tg1 where
  | n (i : Nat) | t (is : List Nat)
inductive Tgt where
  | n (i : Nat) | t (is : List Nat) | m (ts : List Tg1)
def bind1 : Tg1 → Dt → DEnv → Option DEnv
  | .n i, d, ρ => some (ρ.set i (some (.dat d)))
  | .t is, .tup l, ρ => if l.length = is.length then some ((is.zip l).foldl (fun ρ p => ρ.set p.1 (some (.dat p.2))) ρ) else none
  | .t _, _, _ => none
def bindM : List Tg1 → List Dt → DEnv → Option DEnv
  | [], [], ρ => some ρ
  | t :: ts, d :: ds, ρ => (bind1 t d ρ).bind (bindM ts ds)
  | _, _, _ => none
def bindT : Tgt → Dt → DEnv → Option DEnv
  | .n i, d, ρ => some (ρ.set i (some (.dat d)))
  | .t is, .tup l, ρ => if l.length = is.length then some ((is.zip l).foldl (fun ρ p => ρ.set p.1 (some (.dat p.2))) ρ) else none
  | .m ts, .tup l, ρ => bindM ts l ρ
  | _, _, _ => none
def in1 : Tg1 → Nat → Prop
  | .n k, i => i = k
  | .t is, i => i ∈ is
def inT : Tgt → Nat → Prop
  | .n k, i => i = k
  | .t is, i => i ∈ is
  | .m ts, i => ∃ t ∈ ts, in1 t i
/-- a target with its reading -/
def PGT (X : Cx) (tg : Expr) (T : Tgt) : Prop := ∃ g : TG, PG X tg g ∧ ∀ (F : Fr0) (σ : L2.St) (H Hs : Hp) (ρ ρ' : DEnv) (θ : Pot) (d : Dt) (v : V) (Q : L2.St → Hp → Prop), StOk X.K F σ H Hs ρ θ → Rep X.K Hs d v → bindT T d ρ = some ρ' → (∀ σ', StOk X.K F σ' H Hs ρ' θ → (∀ j, (∀ i, inT T i → i ≠ j) → σ'[j]? = σ[j]?) → σ'.length = σ.length → Q σ' H) → g v σ H Q
def gNs : List Nat → TGs
  | [] => gNil
  | i :: is => gCons (gName i) (gNs is)
def PGTs (X : Cx) (es : List Expr) (is : List Nat) : Prop := PGs X es (gNs is)
section
variable {X : Cx} {es : List Expr} {pos : Pos}
theorem pgts_nil : PGTs X [] [] := pgs_nil
theorem pgts_cons {i : Nat} {x : Str} {is : List Nat} (hN : X.N.Nodup) (h : PGTs X es is) (hi : X.N[i]? = some x := by rfl) (hx : Loc X.env.scope x := by first | exact Or.inl rfl | exact Or.inr rfl)
    (hf : X.fn x = true ∨ X.env.scope.names.lookup x = some .local := by first | exact .inl rfl | exact .inr rfl)
    (hs : (assignEach (.Name x pos :: es) X.env).map (·.2) = assign (.Name x pos) X.env :: (assignEach es X.env).map (·.2) := by rfl) : PGTs X (.Name x pos :: es) (i :: is) := pgs_cons (pg_name hN hi hx hf) h hs
theorem pgt_name {i : Nat} {x : Str} (hN : X.N.Nodup) (hi : X.N[i]? = some x := by rfl) (hx : Loc X.env.scope x := by first | exact Or.inl rfl | exact Or.inr rfl)
    (hf : X.fn x = true ∨ X.env.scope.names.lookup x = some .local := by first | exact .inl rfl | exact .inr rfl) : PGT X (.Name x pos) (.n i) := by
  refine ⟨_, pg_name hN hi hx hf, fun F σ H Hs ρ ρ' θ d v Q st r e q => ?_⟩
  cases e
  exact q _ (st_set st i r) (fun j hj => List.getElem?_set_ne (hj i rfl)) (List.length_set ..)
theorem gNs_run {K : PySem.W.Frag} {F : Fr0} : ∀ {is : List Nat} {l : List Dt} {xs : List V} {σ : L2.St} {H Hs : Hp} {ρ : DEnv} {θ : Pot} {Q : L2.St → Hp → Prop}, Reps K Hs l xs → l.length = is.length → StOk K F σ H Hs ρ θ →
    (∀ σ', StOk K F σ' H Hs ((is.zip l).foldl (fun ρ p => ρ.set p.1 (some (.dat p.2))) ρ) θ → (∀ j, (∀ i, i ∈ is → i ≠ j) → σ'[j]? = σ[j]?) → σ'.length = σ.length → Q σ' H) → gNs is xs σ H Q
  | [], l, xs, σ, H, Hs, ρ, θ, Q, r, e, st, q => by
    match l, e with
    | [], _ =>
      rw [show xs = [] from r]
      exact ⟨rfl, q σ st (fun _ _ => rfl) rfl⟩
  | i :: is, l, xs, σ, H, Hs, ρ, θ, Q, r, e, st, q => by
    match l, e with
    | d :: ds, e =>
      obtain ⟨x, r', rfl, h1, h2⟩ := r
      refine ⟨x, r', rfl, ?_⟩
      exact gNs_run (K := K) (F := F) h2 (by simpa using e) (st_set st i h1) fun σ' st' hj hl => q σ' st' (fun j hh => (hj j fun k hk => hh k (List.mem_cons_of_mem _ hk)).trans (List.getElem?_set_ne (hh i List.mem_cons_self))) (hl.trans (List.length_set ..))
theorem pgt_tup {is : List Nat} {k : Nat} {n : Nat} (hc : X.calm = true) (h : PGTs X es is) (hlen : is.length = n := by rfl) (hn : (assignEach es X.env).length = n := by rfl) (hst : (assignEach es X.env).findIdx? (·.1) = none := by rfl) : PGT X (.Tuple es k pos) (.t is) := by
  refine ⟨_, pg_tup hc h hn hst, fun F σ H Hs ρ ρ' θ d v Q st r e q => ?_⟩
  cases d with
  | tup l =>
    have e : (if l.length = is.length then some ((is.zip l).foldl (fun ρ p => ρ.set p.1 (some (.dat p.2))) ρ) else none) = some ρ' := e
    by_cases z : l.length = is.length
    · rw [if_pos z] at e
      cases e
      obtain ⟨a, xs, rfl, h3, h4⟩ := r
      refine ⟨a, xs, rfl, sqt_mono st.sub h3, by rw [← h4.length, z, hlen], ?_⟩
      exact gNs_run h4 z st fun σ' st' hj hl => q σ' st' hj hl
    · rw [if_neg z] at e
      cases e
  | _ => cases e
def g1 (K : PySem.W.Frag) : Tg1 → TG
  | .n i => gName i
  | .t is => gTup K is.length (gNs is)
def gMs (K : PySem.W.Frag) : List Tg1 → TGs
  | [] => gNil
  | t :: ts => gCons (g1 K t) (gMs K ts)
def PGMs (X : Cx) (es : List Expr) (ts : List Tg1) : Prop := PGs X es (gMs X.K ts)
theorem pgms_nil : PGMs X [] [] := pgs_nil
theorem pgms_n {i : Nat} {x : Str} {ts : List Tg1} (hN : X.N.Nodup) (h : PGMs X es ts) (hi : X.N[i]? = some x := by rfl) (hx : Loc X.env.scope x := by first | exact Or.inl rfl | exact Or.inr rfl)
    (hf : X.fn x = true ∨ X.env.scope.names.lookup x = some .local := by first | exact .inl rfl | exact .inr rfl)
    (hs : (assignEach (.Name x pos :: es) X.env).map (·.2) = assign (.Name x pos) X.env :: (assignEach es X.env).map (·.2) := by rfl) : PGMs X (.Name x pos :: es) (.n i :: ts) := pgs_cons (pg_name hN hi hx hf) h hs
theorem pgms_t {is : List Nat} {k : Nat} {es2 : List Expr} {ts : List Tg1} (hc : X.calm = true) (h2 : PGTs X es2 is) (h : PGMs X es ts) (hn : (assignEach es2 X.env).length = is.length := by rfl) (hst : (assignEach es2 X.env).findIdx? (·.1) = none := by rfl)
    (hs : (assignEach (.Tuple es2 k pos :: es) X.env).map (·.2) = assign (.Tuple es2 k pos) X.env :: (assignEach es X.env).map (·.2) := by rfl) : PGMs X (.Tuple es2 k pos :: es) (.t is :: ts) := pgs_cons (pg_tup hc h2 hn hst) h hs
theorem g1_run {K : PySem.W.Frag} {F : Fr0} {t : Tg1} {d : Dt} {v : V} {σ : L2.St} {H Hs : Hp} {ρ ρ' : DEnv} {θ : Pot} {Q : L2.St → Hp → Prop} (st : StOk K F σ H Hs ρ θ) (r : Rep K Hs d v) (e : bind1 t d ρ = some ρ')
    (q : ∀ σ', StOk K F σ' H Hs ρ' θ → (∀ j, (∀ i, in1 t i → i ≠ j) → σ'[j]? = σ[j]?) → σ'.length = σ.length → Q σ' H) : g1 K t v σ H Q := by
  cases t with
  | n i =>
    cases e
    exact q _ (st_set st i r) (fun j hj => List.getElem?_set_ne (hj i rfl)) (List.length_set ..)
  | t is =>
    cases d with
    | tup l =>
      have e : (if l.length = is.length then some ((is.zip l).foldl (fun ρ p => ρ.set p.1 (some (.dat p.2))) ρ) else none) = some ρ' := e
      by_cases z : l.length = is.length
      · rw [if_pos z] at e
        cases e
        obtain ⟨a, xs, rfl, h3, h4⟩ := r
        refine ⟨a, xs, rfl, sqt_mono st.sub h3, by rw [← h4.length, z], ?_⟩
        exact gNs_run h4 z st fun σ' st' hj hl => q σ' st' hj hl
      · rw [if_neg z] at e
        cases e
    | _ => cases e
theorem gMs_run {K : PySem.W.Frag} {F : Fr0} : ∀ {ts : List Tg1} {l : List Dt} {xs : List V} {σ : L2.St} {H Hs : Hp} {ρ ρ' : DEnv} {θ : Pot} {Q : L2.St → Hp → Prop}, Reps K Hs l xs → bindM ts l ρ = some ρ' → StOk K F σ H Hs ρ θ →
    (∀ σ', StOk K F σ' H Hs ρ' θ → (∀ j, (∀ i, (∃ t ∈ ts, in1 t i) → i ≠ j) → σ'[j]? = σ[j]?) → σ'.length = σ.length → Q σ' H) → gMs K ts xs σ H Q
  | [], l, xs, σ, H, Hs, ρ, ρ', θ, Q, r, e, st, q => by
    match l, e with
    | [], e =>
      cases e
      rw [show xs = [] from r]
      exact ⟨rfl, q σ st (fun _ _ => rfl) rfl⟩
    | _ :: _, e => cases e
  | t :: ts, l, xs, σ, H, Hs, ρ, ρ', θ, Q, r, e, st, q => by
    match l, e with
    | [], e => cases e
    | d :: ds, e =>
      obtain ⟨x, r', rfl, h1, h2⟩ := r
      have e : (bind1 t d ρ).bind (bindM ts ds) = some ρ' := e
      obtain ⟨ρ1, e1, e2⟩ := Option.bind_eq_some_iff.mp e
      refine ⟨x, r', rfl, ?_⟩
      refine g1_run st h1 e1 fun σ1 st1 hj1 hl1 => ?_
      exact gMs_run h2 e2 st1 fun σ' st' hj hl => q σ' st' (fun j hh => (hj j fun k hk => hh k (by obtain ⟨u, h1, h2⟩ := hk; exact ⟨u, List.mem_cons_of_mem _ h1, h2⟩)).trans (hj1 j fun k hk => hh k ⟨t, List.mem_cons_self, hk⟩)) (hl.trans hl1)
theorem bindM_len : ∀ {ts : List Tg1} {l : List Dt} {ρ ρ' : DEnv}, bindM ts l ρ = some ρ' → l.length = ts.length
  | [], [], _, _, _ => rfl
  | [], _ :: _, _, _, e => by cases e
  | _ :: _, [], _, _, e => by cases e
  | t :: ts, d :: ds, ρ, ρ', e => by
    have e : (bind1 t d ρ).bind (bindM ts ds) = some ρ' := e
    obtain ⟨ρ1, e1, e2⟩ := Option.bind_eq_some_iff.mp e
    rw [List.length_cons, List.length_cons, bindM_len e2]
theorem pgt_mix {ts : List Tg1} {k : Nat} {n : Nat} (hc : X.calm = true) (h : PGMs X es ts) (hlen : ts.length = n := by rfl) (hn : (assignEach es X.env).length = n := by rfl) (hst : (assignEach es X.env).findIdx? (·.1) = none := by rfl) : PGT X (.Tuple es k pos) (.m ts) := by
  refine ⟨_, pg_tup hc h hn hst, fun F σ H Hs ρ ρ' θ d v Q st r e q => ?_⟩
  cases d with
  | tup l =>
    have e : bindM ts l ρ = some ρ' := e
    obtain ⟨a, xs, rfl, h3, h4⟩ := r
    refine ⟨a, xs, rfl, sqt_mono st.sub h3, ?_, ?_⟩
    · rw [← h4.length, ← hlen]
      exact bindM_len e
    · exact gMs_run h4 e st fun σ' st' hj hl => q σ' st' hj hl
  | _ => cases e
/-- target = e -/
def mAsg (T : Tgt) (ma : M Dt) : M Out := bnd ma fun d ρ θ => match bindT T d ρ with
  | some ρ' => .ok (.next ρ') θ
  | none => .bad
theorem psd_asg {F : Fr0} {W : WX} {tg e : Expr} {T : Tgt} {ma : M Dt} (ha : PD X F W e ma) (hg : PGT X tg T) (hs : swapsWithSole [tg] e pos.line X.env = pure false := by rfl) (hw : swappedStores [tg] e X.env = pure none := by rfl)
    (h1 : (assignEach [tg] X.env).map (·.2) = [assign tg X.env] := by rfl) : PSD X F W (.Assign [tg] e pos) (mAsg T ma) := by
  obtain ⟨g, pg, k⟩ := hg
  refine ps_imp (ps_asg ha pg hs hw h1) fun D σ H q => ?_
  obtain ⟨ρ, θ, Hs, st, q⟩ := q
  refine then_D OkS.anti st q fun v d H1 Hs1 θ1 s1 st1 r1 h => ?_
  cases e1 : bindT T d ρ with
  | none => rw [e1] at h; exact h.elim
  | some ρ' =>
    rw [e1] at h
    exact k F σ H1 Hs1 ρ ρ' θ1 d v _ st1 r1 e1 fun σ' st' _ _ => h σ' H1 Hs1 (Same.refl _) st'
end

/-! ### what is walked -/
/-- an iterator gives these items -/
structure ItD (K : PySem.W.Frag) (J : It) (l : List Dt) (Hs0 : Hp) : Prop where
  go : ∀ (i : Nat) (H Hs : Hp), i < l.length → Same Hs0 Hs → Same Hs H → J.go i H
  yld : ∀ (i : Nat) (H Hs : Hp) (x : V) (H' : Hp) (d : Dt), l[i]? = some d → Same Hs0 Hs → Same Hs H → J.yld i H x H' → ∃ Hs', Grow Hs H Hs' H' ∧ Rep K Hs' d x
  stop : ∀ (H Hs : Hp), Same Hs0 Hs → Same Hs H → J.stop l.length H
def OkI (X : Cx) (F : Fr0) (σ : L2.St) (ρ : DEnv) (R : It → Hp → Prop) (Hs : Hp) : List Dt → Pot → Prop := fun l θ' => ∀ J H' Hs', Same Hs Hs' → StOk X.K F σ H' Hs' ρ θ' → ItD X.K J l Hs' → R J H'
theorem OkI.anti {X : Cx} {F : Fr0} {σ : L2.St} {ρ : DEnv} {R : It → Hp → Prop} {Hs Hs1 : Hp} (s : Same Hs Hs1) : ∀ d θ, OkI X F σ ρ R Hs d θ → OkI X F σ ρ R Hs1 d θ := fun _ _ h J H' Hs' s' => h J H' Hs' (s.trans s')
def tI (X : Cx) (F : Fr0) (W : WX) (m : M (List Dt)) : TI := fun σ H R => ∃ ρ θ Hs, StOk X.K F σ H Hs ρ θ ∧ Post (m ρ θ) (OkI X F σ ρ R Hs) (ExW X F W Hs)
def PID (X : Cx) (F : Fr0) (W : WX) (tg iter : Expr) (m : M (List Dt)) : Prop := PI X tg iter (tI X F W m)
theorem pi_imp {X : Cx} {tg iter : Expr} {t t' : TI} (h : PI X tg iter t) (i : ∀ σ H R, t' σ H R → t σ H R) : PI X tg iter t' := ⟨fun pins s σ H R I q => h.run pins s σ H R I (i σ H R q)⟩
section
variable {X : Cx} {F : Fr0} {W : WX} {tg a b c : Expr} {es : List Expr} {pos p : Pos}
/-- a list, a tuple -/
def iSeq (K : PySem.W.Frag) (tl : TE) : TI := fun σ H R => tl σ H fun x H1 => ∃ a, x = .ref a ∧ ((∃ xs, SqL K H1 a xs ∧ R (Itl K a) H1) ∨ (∃ xs, SqT K H1 a xs ∧ R (Itt K a) H1))
theorem pi_seq {l : Expr} {tl : TE} (hl : PE X l tl) : PI X tg l (iSeq X.K tl) := by
  refine ⟨fun pins s σ H R I h => ?_⟩
  refine thn (hl.run pins s σ H _ I h) fun v s1 ⟨x, H1, I1, r1, q1⟩ => ?_
  obtain ⟨a, rfl, q1⟩ := q1
  cases r1
  have fresh : ∀ {o : Obj}, ∀ b ∈ [s1.heap.objs.size], FpOk X pins H1 b := fun {o} b hb => by
    have e := List.mem_singleton.mp hb
    subst e
    exact I1.fpOk (Nat.le_refl _) (I1.hok.fresh (Nat.le_refl _))
  rcases q1 with ⟨xs, hq, q⟩ | ⟨xs, hq, q⟩
  · obtain ⟨its, rv, pl, hz⟩ := I1.list hq
    refine wpAny_pyIter_list pl.isList ?_
    exact ⟨_, [s1.heap.objs.size], _, Itl X.K a, H1, rfl, I1.kept (t' := s1.toks) fun b o z => Heap.get?_push_of_some _ z, turn_list a _, ⟨_, Heap.get?_push_size _ rfl, rfl, rfl⟩, fresh (o := default), q⟩
  · obtain ⟨its, rv, pl, hz⟩ := I1.tuple hq
    refine wpAny_pyIter_tuple (show s1.heap.IsTuple a its.toArray from pl) ?_
    exact ⟨_, [s1.heap.objs.size], _, Itt X.K a, H1, rfl, I1.kept (t' := s1.toks) fun b o z => Heap.get?_push_of_some _ z, turn_tuple a _, ⟨_, Heap.get?_push_size _ rfl, rfl, rfl⟩, fresh (o := default), q⟩
def seqOf : Dt → Option (List Dt)
  | .lst l => some l
  | .tup l => some l
  | _ => none
theorem itd_list {K : PySem.W.Frag} {Hs0 : Hp} {q : Addr} {xs : List V} {l : List Dt} (h : SqL K Hs0 q xs) (r : Reps K Hs0 l xs) : ItD K (Itl K q) l Hs0 where
  go := fun i H Hs hi s1 s2 => by
    rw [r.length] at hi
    exact ⟨xs, xs[i], s2.seq (s1.seq h), List.getElem?_eq_getElem hi⟩
  yld := fun i H Hs x H' d e s1 s2 y => by
    obtain ⟨rfl, y⟩ := y
    obtain ⟨v, e1, e2⟩ := r.get e
    have z := y xs (s2.seq (s1.seq h))
    rw [e1] at z
    cases z
    exact ⟨Hs, Grow.refl s2, Rep.mono s1 d e2⟩
  stop := fun H Hs s1 s2 => ⟨xs, s2.seq (s1.seq h), Nat.le_of_eq r.length.symm⟩
theorem itd_tup {K : PySem.W.Frag} {Hs0 : Hp} {q : Addr} {xs : List V} {l : List Dt} (h : SqT K Hs0 q xs) (r : Reps K Hs0 l xs) : ItD K (Itt K q) l Hs0 where
  go := fun i H Hs hi s1 s2 => by
    rw [r.length] at hi
    exact ⟨xs, xs[i], sqt_mono s2 (sqt_mono s1 h), List.getElem?_eq_getElem hi⟩
  yld := fun i H Hs x H' d e s1 s2 y => by
    obtain ⟨rfl, y⟩ := y
    obtain ⟨v, e1, e2⟩ := r.get e
    have z := y xs (sqt_mono s2 (sqt_mono s1 h))
    rw [e1] at z
    cases z
    exact ⟨Hs, Grow.refl s2, Rep.mono s1 d e2⟩
  stop := fun H Hs s1 s2 => ⟨xs, sqt_mono s2 (sqt_mono s1 h), Nat.le_of_eq r.length.symm⟩
def mSeqI (ma : M Dt) : M (List Dt) := bnd ma fun d => opt (seqOf d)
theorem pid_seq {ma : M Dt} (ha : PD X F W a ma) : PID X F W tg a (mSeqI ma) := by
  refine pi_imp (pi_seq ha) fun σ H R h => ?_
  obtain ⟨ρ, θ, Hs, st, h⟩ := h
  refine then_D OkI.anti st h fun v d H1 Hs1 θ1 s1 st1 r1 h => ?_
  obtain ⟨l, e, q⟩ := post_opt h
  cases d with
  | lst l' =>
    cases e
    obtain ⟨q1, xs, rfl, h1, h2⟩ := r1
    exact ⟨q1, rfl, Or.inl ⟨xs, st1.sub.seq h1, q _ H1 Hs1 (Same.refl _) st1 (itd_list h1 h2)⟩⟩
  | tup l' =>
    cases e
    obtain ⟨q1, xs, rfl, h1, h2⟩ := r1
    exact ⟨q1, rfl, Or.inr ⟨xs, sqt_mono st1.sub h1, q _ H1 Hs1 (Same.refl _) st1 (itd_tup h1 h2)⟩⟩
  | _ => cases e
/-- ranges -/
def rngL (lo : Int) (n : Nat) : List Dt := (List.range n).map fun i : Nat => .int (lo + i)
theorem rngL_at {lo : Int} {n i : Nat} {d : Dt} (h : (rngL lo n)[i]? = some d) : d = .int (lo + i) := by
  unfold rngL at h
  rw [List.getElem?_map] at h
  obtain ⟨j, e1, rfl⟩ := Option.map_eq_some_iff.mp h
  obtain ⟨h1, h2⟩ := List.getElem?_eq_some_iff.mp e1
  rw [List.getElem_range] at h2
  rw [h2]
theorem itd_rng {K : PySem.W.Frag} {Hs0 : Hp} {lo : Int} {n : Nat} : ItD K (Itr lo n) (rngL lo n) Hs0 where
  go := fun i H Hs hi _ _ => by
    have h : i < n := by simpa [rngL] using hi
    exact h
  yld := fun i H Hs x H' d e _ s2 y => by
    obtain ⟨rfl, rfl⟩ := y
    rw [rngL_at e]
    exact ⟨Hs, Grow.refl s2, rfl⟩
  stop := fun H Hs _ _ => by simp [rngL, Itr]
def bnd62 (i : Int) : Bool := decide (-(2 ^ 62) ≤ i) && decide (i < 2 ^ 62)
def rng1 : List Dt → Option (List Dt)
  | [.int j] => if bnd62 j = true then some (rngL 0 j.toNat) else none
  | _ => none
def rng2 : List Dt → Option (List Dt)
  | [.int i, .int j] => if (bnd62 i && bnd62 j) = true then some (rngL i (j - i).toNat) else none
  | _ => none
def mRng (g : List Dt → Option (List Dt)) (ml : M (List Dt)) : M (List Dt) := bnd ml fun l => opt (g l)
theorem bnd62_ok {i : Int} (h : bnd62 i = true) : -(2 ^ 62) ≤ i ∧ i < 2 ^ 62 := by
  obtain ⟨h1, h2⟩ := Bool.and_eq_true_iff.mp h
  exact ⟨of_decide_eq_true h1, of_decide_eq_true h2⟩
theorem pid_rng1 {ml : M (List Dt)} (hm : X.mg "range" = none) (ha : PAD X F W [a] ml) (hg : Gl X "range" := by rfl) (hs : starEach [a] X.env = [(false, eval a X.env)] := by rfl) : PID X F W tg (.Call (.Name "range" p) [a] [] pos) (mRng rng1 ml) := by
  refine pi_imp (pi_range1 hg hm ha hs) fun σ H R h => ?_
  obtain ⟨ρ, θ, Hs, st, h⟩ := h
  refine then_A OkI.anti st h fun xs l H1 Hs1 θ1 s1 st1 r1 h => ?_
  obtain ⟨l', e, q⟩ := post_opt h
  unfold rng1 at e
  split at e
  · rename_i j
    by_cases z : bnd62 j = true
    · rw [if_pos z] at e
      cases e
      obtain ⟨x, rfl, h1⟩ := rep1 r1
      obtain ⟨z1, z2⟩ := bnd62_ok z
      exact ⟨j, by rw [show x = _ from h1], z1, z2, q _ H1 Hs1 (Same.refl _) st1 itd_rng⟩
    · rw [if_neg z] at e
      cases e
  · cases e
theorem pid_rng2 {ml : M (List Dt)} (hm : X.mg "range" = none) (ha : PAD X F W [a, b] ml) (hg : Gl X "range" := by rfl) (hs : starEach [a, b] X.env = [(false, eval a X.env), (false, eval b X.env)] := by rfl) (hs2 : starEach [b] X.env = [(false, eval b X.env)] := by rfl) :
    PID X F W tg (.Call (.Name "range" p) [a, b] [] pos) (mRng rng2 ml) := by
  refine pi_imp (pi_range2 hg hm ha hs hs2) fun σ H R h => ?_
  obtain ⟨ρ, θ, Hs, st, h⟩ := h
  refine then_A OkI.anti st h fun xs l H1 Hs1 θ1 s1 st1 r1 h => ?_
  obtain ⟨l', e, q⟩ := post_opt h
  unfold rng2 at e
  split at e
  · rename_i i j
    by_cases z : (bnd62 i && bnd62 j) = true
    · rw [if_pos z] at e
      cases e
      obtain ⟨x, y, rfl, h1, h2⟩ := rep2 r1
      obtain ⟨z1, z2⟩ := Bool.and_eq_true_iff.mp z
      obtain ⟨z3, z4⟩ := bnd62_ok z1
      obtain ⟨z5, z6⟩ := bnd62_ok z2
      exact ⟨i, j, by rw [show x = _ from h1, show y = _ from h2], ⟨z3, z4, z5, z6⟩, q _ H1 Hs1 (Same.refl _) st1 itd_rng⟩
    · rw [if_neg z] at e
      cases e
  · cases e

/-! ### for -/
def forGo (T : Tgt) (body : M Out) : List Dt → M Out
  | [] => mNext
  | d :: ds => fun ρ θ => match bindT T d ρ with
    | none => .bad
    | some ρ1 => match body ρ1 θ with
      | .ok (.next ρ2) θ2 => forGo T body ds ρ2 θ2
      | .ok (.cnt ρ2) θ2 => forGo T body ds ρ2 θ2
      | .ok (.brk ρ2) θ2 => .ok (.next ρ2) θ2
      | r => r
def mFor (T : Tgt) (ms : M (List Dt)) (body : M Out) : M Out := bnd ms fun l => forGo T body l
theorem psd_for {iter : Expr} {body : List Stmt} {T : Tgt} {ms : M (List Dt)} {mb : M Out} (hp : PassesOwn (model X.prog X.w) X.A X.env X.xe) (hc : X.calm = true) (hi : PID X F W tg iter ms) (hg : PGT X tg T) (hb : PSDs X F W body mb)
    (hs : ∀ x, foldedSetIterable iter X.env x = pure x := by intro _; rfl) : PSD X F W (.For tg iter body [] pos) (mFor T ms mb) := by
  obtain ⟨g, pg, k⟩ := hg
  refine ps_imp (ps_for hp hc hi pg hb hs) fun Ds σ H h => ?_
  obtain ⟨ρ, θ, Hs, st, h⟩ := h
  refine ⟨ρ, θ, Hs, st, (post_bnd h).imp (fun l θ1 q J H1 Hs1 s1 st1 it => ?_) fun _ _ _ z => z⟩
  refine ⟨fun i m σ' H' => m = l.length - i ∧ i ≤ l.length ∧ ∃ Hs' ρ' θ', Same Hs1 Hs' ∧ StOk X.K F σ' H' Hs' ρ' θ' ∧ Post (forGo T mb (l.drop i) ρ' θ') (OkS X F Ds Hs') (ExW X F W Hs'), ⟨l.length, rfl, Nat.zero_le _, Hs1, ρ, θ1, Same.refl _, st1, q.imp (OkS.anti s1) (ExW.anti s1)⟩, ?_⟩
  rintro i m σ' H' ⟨rfl, hi', Hs', ρ', θ', s2, st2, q2⟩
  by_cases hlt : i < l.length
  · refine Or.inr ⟨it.go i H' Hs' hlt s2 st2.sub, fun σ3 H3 => ∃ Hs3 ρ3 θ3, Same Hs1 Hs3 ∧ StOk X.K F σ3 H3 Hs3 ρ3 θ3 ∧ Post (forGo T mb (l.drop (i + 1)) ρ3 θ3) (OkS X F Ds Hs3) (ExW X F W Hs3), fun σ3 H3 h3 => ⟨l.length - (i + 1), by omega, rfl, hlt, h3⟩, fun x H4 y => ?_⟩
    obtain ⟨Hs4, g4, r4⟩ := it.yld i H' Hs' x H4 l[i] (List.getElem?_eq_getElem hlt) s2 st2.sub y
    have st4 := st2.grow g4
    rw [List.drop_eq_getElem_cons hlt] at q2
    unfold forGo at q2
    cases eb : bindT T l[i] ρ' with
    | none => rw [eb] at q2; exact q2.elim
    | some ρ5 =>
      rw [eb] at q2
      refine k F σ' H4 Hs4 ρ' ρ5 θ' l[i] x _ st4 r4 eb fun σ5 st5 _ _ => ⟨ρ5, θ', Hs4, st5, ?_⟩
      dsimp only at q2
      have s4 := s2.trans g4.s
      cases em : mb ρ5 θ' with
      | ok o θ6 =>
        rw [em] at q2
        cases o with
        | next ρ6 => exact fun σ7 H7 Hs7 s7 st7 => ⟨Hs7, ρ6, θ6, s4.trans s7, st7, q2.imp (OkS.anti (g4.s.trans s7)) (ExW.anti (g4.s.trans s7))⟩
        | cnt ρ6 => exact fun σ7 H7 Hs7 s7 st7 => ⟨Hs7, ρ6, θ6, s4.trans s7, st7, q2.imp (OkS.anti (g4.s.trans s7)) (ExW.anti (g4.s.trans s7))⟩
        | brk ρ6 => exact fun σ7 H7 Hs7 s7 st7 => q2 σ7 H7 Hs7 (g4.s.trans s7) st7
        | ret r =>
          cases r with
          | d d => exact fun σ7 H7 Hs7 s7 => q2 σ7 H7 Hs7 (g4.s.trans s7)
          | o l => exact fun σ7 H7 Hs7 s7 => q2 σ7 H7 Hs7 (g4.s.trans s7)
      | exn x6 ρ6 θ6 => rw [em] at q2; exact ExW.anti g4.s _ _ _ q2
      | bad => rw [em] at q2; exact q2.elim
  · have e : i = l.length := by omega
    subst e
    rw [List.drop_length] at q2
    exact Or.inl ⟨it.stop H' Hs' s2 st2.sub, q2 σ' H' Hs' (Same.refl _) st2⟩

/-! ### while -/
def whileGo (c : M Bool) (body : M Out) : Nat → M Out
  | 0 => bad
  | n + 1 => fun ρ θ => match c ρ θ with
    | .ok true θ1 => match body ρ θ1 with
      | .ok (.next ρ2) θ2 => whileGo c body n ρ2 θ2
      | .ok (.cnt ρ2) θ2 => whileGo c body n ρ2 θ2
      | .ok (.brk ρ2) θ2 => .ok (.next ρ2) θ2
      | r => r
    | .ok false θ1 => .ok (.next ρ) θ1
    | .exn e ρ' θ' => .exn e ρ' θ'
    | .bad => .bad
theorem psd_while (n : Nat) {c : Expr} {body : List Stmt} {mc : M Bool} {mb : M Out} (hp : PassesOwn (model X.prog X.w) X.A X.env X.xe) (hc : PTD X F W c mc) (hb : PSDs X F W body mb) : PSD X F W (.While c body [] pos) (whileGo mc mb n) := by
  refine ps_imp (ps_while hp hc hb) fun Ds σ H h => ?_
  obtain ⟨ρ, θ, Hs, st, h⟩ := h
  refine ⟨fun m σ' H' => ∃ Hs' ρ' θ', Same Hs Hs' ∧ StOk X.K F σ' H' Hs' ρ' θ' ∧ Post (whileGo mc mb m ρ' θ') (OkS X F Ds Hs') (ExW X F W Hs'), ⟨n, Hs, ρ, θ, Same.refl _, st, h⟩, ?_⟩
  rintro m σ' H' ⟨Hs', ρ', θ', s1, st1, q⟩
  cases m with
  | zero => exact q.elim
  | succ m =>
    unfold whileGo at q
    refine ⟨ρ', θ', Hs', st1, ?_⟩
    cases ec : mc ρ' θ' with
    | ok b θ1 =>
      rw [ec] at q
      intro H2 Hs2 s2 st2
      cases b with
      | false => exact iteF (q σ' H2 Hs2 s2 st2)
      | true =>
        refine iteT ⟨fun σ3 H3 => ∃ Hs3 ρ3 θ3, Same Hs Hs3 ∧ StOk X.K F σ3 H3 Hs3 ρ3 θ3 ∧ Post (whileGo mc mb m ρ3 θ3) (OkS X F Ds Hs3) (ExW X F W Hs3), fun σ3 H3 h3 => ⟨m, Nat.lt_succ_self _, h3⟩, ρ', θ1, Hs2, st2, ?_⟩
        dsimp only at q
        cases em : mb ρ' θ1 with
        | ok o θ6 =>
          rw [em] at q
          cases o with
          | next ρ6 => exact fun σ7 H7 Hs7 s7 st7 => ⟨Hs7, ρ6, θ6, (s1.trans s2).trans s7, st7, q.imp (OkS.anti (s2.trans s7)) (ExW.anti (s2.trans s7))⟩
          | cnt ρ6 => exact fun σ7 H7 Hs7 s7 st7 => ⟨Hs7, ρ6, θ6, (s1.trans s2).trans s7, st7, q.imp (OkS.anti (s2.trans s7)) (ExW.anti (s2.trans s7))⟩
          | brk ρ6 => exact fun σ7 H7 Hs7 s7 st7 => q σ7 H7 Hs7 (s2.trans s7) st7
          | ret r =>
            cases r with
            | d d => exact fun σ7 H7 Hs7 s7 => q σ7 H7 Hs7 (s2.trans s7)
            | o l => exact fun σ7 H7 Hs7 s7 => q σ7 H7 Hs7 (s2.trans s7)
        | exn x6 ρ6 θ6 => rw [em] at q; exact ExW.anti s2 _ _ _ q
        | bad => rw [em] at q; exact q.elim
    | exn x6 ρ6 θ6 => rw [ec] at q; exact q
    | bad => rw [ec] at q; exact q.elim

/-! ### lists of one's own -/
/-- a name's own list becomes data ahead of a statement -/
def frz (i : Nat) (ρ : DEnv) : DEnv := match ρ[i]? with
  | some (some (.own l)) => ρ.set i (some (.dat (.lst l)))
  | _ => ρ
def mFrz (i : Nat) (m : M Out) : M Out := fun ρ θ => m (frz i ρ) θ
theorem getElem?_set_self_of {α : Type} {l : List α} {i : Nat} {x : α} (h : l[i]? = some x) : l.set i x = l := by
  apply List.ext_getElem?
  intro j
  by_cases e : i = j
  · subst e
    rw [List.getElem?_set]
    have q : i < l.length := (List.getElem?_eq_some_iff.mp h).1
    simp only [q, if_true]
    exact h.symm
  · rw [List.getElem?_set_ne e]
theorem set_none_at {ρ : DEnv} {i j : Nat} {x : Ent} (q : (ρ.set i none)[j]? = some (some x)) : i ≠ j ∧ ρ[j]? = some (some x) := by
  by_cases k : i = j
  · subst k
    rw [List.getElem?_set] at q
    by_cases z : i < ρ.length
    · simp only [z, if_true] at q
      cases q
    · simp only [z, if_false, if_true] at q
      cases q
  · rw [List.getElem?_set_ne k] at q
    exact ⟨k, q⟩
theorem st_frz (i : Nat) {σ : L2.St} {H Hs : Hp} {ρ : DEnv} {θ : Pot} (st : StOk X.K F σ H Hs ρ θ) : ∃ Hs', Same Hs Hs' ∧ StOk X.K F σ H Hs' (frz i ρ) θ := by
  unfold frz
  split
  · rename_i l e
    obtain ⟨a, xs, e1, e2, e3, e4, e5, e6⟩ := st.own i l e
    have st1 : StOk X.K F σ H Hs (ρ.set i none) θ := by
      exact ⟨st.sub, st.hap, st.pot, st.old, st.frs, fun j d z => st.dat j d (set_none_at z).2, fun j m z => st.own j m (set_none_at z).2, fun j k m m' b z1 z2 => st.sep j k m m' b (set_none_at z1).2 (set_none_at z2).2, fun j z => st.pt j (set_none_at z).2, by rw [List.length_set]; exact st.len⟩
    have st2 := st_freeze st1 e2 e4 e5 e6 fun j m z q => by
      obtain ⟨k, z⟩ := set_none_at z
      exact k (st.sep i j l m a e z e1 q)
    have st3 := st_set st2 i (d := .lst l) (v := .ref a) ⟨a, xs, rfl, SqL.of upd_same, Reps.mono (same_upd e4) l e3⟩
    rw [List.set_set] at st3
    rw [getElem?_set_self_of e1] at st3
    exact ⟨_, same_upd e4, st3⟩
  · exact ⟨Hs, Same.refl _, st⟩
theorem psd_frz (i : Nat) {st : Stmt} {m : M Out} (h : PSD X F W st m) : PSD X F W st (mFrz i m) := by
  refine ps_imp h fun D σ H q => ?_
  obtain ⟨ρ, θ, Hs, st0, q⟩ := q
  obtain ⟨Hs1, s1, st1⟩ := st_frz i st0
  exact ⟨_, θ, Hs1, st1, q.imp (OkS.anti s1) (ExW.anti s1)⟩
/-- a change of a list of one's own in slot i -/
theorem st_own {σ : L2.St} {H Hs : Hp} {ρ : DEnv} {θ : Pot} (st : StOk X.K F σ H Hs ρ θ) {i : Nat} {l m : List Dt} {a : Addr} {xs ys : List V} (e : ρ[i]? = some (some (.own l))) (e1 : σ[i]? = some (some (.ref a))) (e2 : H a = some (.lst xs)) (r : Reps X.K Hs m ys) :
    StOk X.K F σ (upd H a (.lst ys)) Hs (ρ.set i (some (.own m))) θ := by
  obtain ⟨a', xs', f1, f2, f3, f4, f5, f6⟩ := st.own i l e
  rw [e1] at f1
  cases f1
  have z : ∀ b u, Hs b = some u → b ≠ a := fun b u q k => by rw [k, f4] at q; cases q
  have st1 : StOk X.K F σ (upd H a (.lst ys)) Hs (ρ.set i none) θ := by
    refine ⟨fun b u q => by rw [upd_ne (z b u q)]; exact st.sub b u q, st.hap, fun p q => ?_, fun b o h1 h2 => ?_, st.frs, fun j d q => st.dat j d (set_none_at q).2, fun j m' q => ?_, fun j k m1 m2 b q1 q2 => st.sep j k m1 m2 b (set_none_at q1).2 (set_none_at q2).2, fun j q => st.pt j (set_none_at q).2, by rw [List.length_set]; exact st.len⟩
    · rw [upd_ne (fun k => f6 (by rw [← k]; exact q))]
      exact st.pot p q
    · rw [upd_ne (fun k => by rw [k, f5] at h2; cases h2)]
      exact st.old b o h1 h2
    · obtain ⟨k, q⟩ := set_none_at q
      obtain ⟨b, zs, g1, g2, g3⟩ := st.own j m' q
      have ne : b ≠ a := fun w => k (st.sep i j l m' a e q e1 (by rw [← w]; exact g1))
      exact ⟨b, zs, g1, by rw [upd_ne ne]; exact g2, g3⟩
  have st2 := st_setO st1 i (a := a) (xs := ys) (m := m) upd_same r f4 f5 f6 fun j m' k q w => by
    rw [List.getElem?_set_ne (Ne.symm k)] at q
    exact k (st.sep i j l m' a e q e1 w).symm
  rw [List.set_set, getElem?_set_self_of e1] at st2
  exact st2
theorem st_own_at {σ : L2.St} {H Hs : Hp} {ρ : DEnv} {θ : Pot} (st : StOk X.K F σ H Hs ρ θ) {i : Nat} {l : List Dt} (e : ρ[i]? = some (some (.own l))) : ∃ a xs, σ[i]? = some (some (.ref a)) ∧ H a = some (.lst xs) ∧ Reps X.K Hs l xs := by
  obtain ⟨a, xs, e1, e2, e3, _⟩ := st.own i l e
  exact ⟨a, xs, e1, e2, e3⟩
def bigL : Nat := 1000000
/-- x.append(e) -/
def mApp (i : Nat) (ma : M Dt) : M Out := fun ρ θ => match ρ[i]? with
  | some (some (.own l)) => bnd ma (fun d ρ θ => if l.length < bigL then .ok (.next (ρ.set i (some (.own (l ++ [d]))))) θ else .bad) ρ θ
  | _ => .bad
theorem bigL_ok {n : Nat} (h : n < bigL) : n < sizeLine := Nat.lt_trans h (by decide)
theorem psd_app (i : Nat) {y : Str} {ma : M Dt} {q : Pos} {apos cpos : Pos} (ha : PD X F W a ma) (hN : X.N[i]? = some y := by rfl) (hv : Vis X.env.scope y := by first | exact Or.inl rfl | exact Or.inr (Or.inl rfl) | exact Or.inr (Or.inr rfl)) (hd : (y == ("__debug__" : Str)) = false := by decide)
    (hcd : (y == ("__classdict__" : Str)) = false := by decide)
    (hbase : attributeBase (.Name y q) "append" X.env (eval (.Name y q) X.env) = eval (.Name y q) X.env := by rfl)
    (hfew : ((backTo cpos (starEach (a :: []) X.env)).all (fun x => !x.1) && (backToKw cpos (keywordEach [] X.env)).all (fun x => x.1.isSome)
      && decide ((a :: []).length + ([] : List Keyword).length + (if ([] : List Keyword).isEmpty then 0 else 1) < 30)) = true := by rfl)
    (hline : (apos.endLine == cpos.line) = true := by rfl) (hs1 : starEach (a :: []) X.env = (false, eval a X.env) :: starEach [] X.env := by rfl) (hplain : (backTo cpos (starEach [] X.env)).any (·.1) = false := by rfl)
    (hs : swapsWith (.Call (.Attribute (.Name y q) "append" apos) [a] [] cpos) none pos.line X.env = pure false := by rfl) : PSD X F W (.Expr (.Call (.Attribute (.Name y q) "append" apos) [a] [] cpos) pos) (mApp i ma) := by
  refine ps_imp (ps_expr (pe_bm PySem.F.plainAttrs_list PySem.F.slot_list_append PySem.F.type_list_append mt_append (pe_var hN hv hd hcd) (pa_cons ha pa_nil hs1) hbase hfew hline hs1 hplain) hs) fun D σ H h => ?_
  obtain ⟨ρ, θ, Hs, st, h⟩ := h
  unfold mApp at h
  split at h
  · rename_i l eo
    obtain ⟨p0, xs0, e1, e2, e3⟩ := st_own_at st eo
    refine ⟨.ref p0, e1, Or.inl ⟨rfl, xs0, SqL.of e2⟩, ?_⟩
    refine then_D OkS.anti st h fun v d H1 Hs1 θ1 s1 st1 r1 h => ?_
    by_cases z : l.length < bigL
    · rw [if_pos z] at h
      obtain ⟨p1, xs, f1, f2, f3⟩ := st_own_at st1 eo
      rw [e1] at f1
      cases f1
      refine ⟨p0, xs, v, rfl, rfl, f2, by rw [← f3.length]; exact bigL_ok z, ?_⟩
      exact h σ _ Hs1 (Same.refl _) (st_own st1 eo e1 f2 (f3.append (Reps.cons r1 Reps.nil)))
    · rw [if_neg z] at h
      exact h.elim
  · exact h.elim
/-- x[e] = v, x a list of one's own -/
def mSetI (i : Nat) (mb ma : M Dt) : M Out := bnd ma fun d => fun ρ θ => match ρ[i]? with
  | some (some (.own l)) => bnd mb (fun k ρ θ => match k with
    | .int j => match ixN l.length j with
      | some n => .ok (.next (ρ.set i (some (.own (l.set n d))))) θ
      | none => .bad
    | _ => .bad) ρ θ
  | _ => .bad
theorem psd_setI (i : Nat) {y : Str} {ma mb : M Dt} {q spos : Pos} (ha : PD X F W a ma) (hb : PD X F W b mb) (hN : X.N[i]? = some y := by rfl) (hv : Vis X.env.scope y := by first | exact Or.inl rfl | exact Or.inr (Or.inl rfl) | exact Or.inr (Or.inr rfl)) (hd : (y == ("__debug__" : Str)) = false := by decide)
    (hcd : (y == ("__classdict__" : Str)) = false := by decide)
    (has : ∀ v, assign (.Subscript (.Name y q) b spos) X.env v = (do
      let ov ← holding [v] (eval (.Name y q) X.env)
      let iv ← holding [v, ov] (eval b X.env)
      standAt spos
      holding [v, ov, iv] (setItem ov iv v)
      release [v, ov, iv] []) := by intro _; rfl)
    (hs : swapsWithSole [.Subscript (.Name y q) b spos] a pos.line X.env = pure false := by rfl) (hw : swappedStores [.Subscript (.Name y q) b spos] a X.env = pure none := by rfl)
    (h1 : (assignEach [.Subscript (.Name y q) b spos] X.env).map (·.2) = [assign (.Subscript (.Name y q) b spos) X.env] := by rfl) : PSD X F W (.Assign [.Subscript (.Name y q) b spos] a pos) (mSetI i mb ma) := by
  refine ps_imp (ps_asg ha (pg_sub (pe_var hN hv hd hcd) hb set_list has) hs hw h1) fun D σ H h => ?_
  obtain ⟨ρ, θ, Hs, st, h⟩ := h
  refine then_D OkS.anti st h fun v d H1 Hs1 θ1 s1 st1 r1 h => ?_
  split at h
  · rename_i l eo
    obtain ⟨p0, xs0, e1, e2, e3⟩ := st_own_at st1 eo
    refine ⟨.ref p0, e1, ?_⟩
    refine then_D OkS.anti st1 h fun u k H2 Hs2 θ2 s2 st2 r2 h => ?_
    cases k with
    | int j =>
      dsimp only at h
      split at h
      · rename_i n en
        obtain ⟨p1, xs, f1, f2, f3⟩ := st_own_at st2 eo
        rw [e1] at f1
        cases f1
        refine ⟨p0, xs, j, n, rfl, r2, f2, by rw [← f3.length]; exact en, ?_⟩
        exact h σ _ Hs2 (Same.refl _) (st_own st2 eo e1 f2 (f3.set (Rep.mono s2 d r1) n))
      · exact h.elim
    | _ => exact h.elim
  · exact h.elim
/-- x[e], x a list of one's own -/
def mIxO (i : Nat) (mb : M Dt) : M Dt := fun ρ θ => match ρ[i]? with
  | some (some (.own l)) => bnd mb (fun k => opt (gIx (.lst l) k)) ρ θ
  | _ => .bad
theorem pd_ixO (i : Nat) {y : Str} {mb : M Dt} {q : Pos} (hb : PD X F W b mb) (hN : X.N[i]? = some y := by rfl) (hv : Vis X.env.scope y := by first | exact Or.inl rfl | exact Or.inr (Or.inl rfl) | exact Or.inr (Or.inr rfl)) (hd : (y == ("__debug__" : Str)) = false := by decide)
    (hcd : (y == ("__classdict__" : Str)) = false := by decide) (hs : PlainIx b := by intro _ _; rfl) : PD X F W (.Subscript (.Name y q) b pos) (mIxO i mb) := by
  refine pe_imp (pe_ix ix_seq (pe_var hN hv hd hcd) hb hs) fun σ H Q h => ?_
  obtain ⟨ρ, θ, Hs, st, h⟩ := h
  unfold mIxO at h
  split at h
  · rename_i l eo
    obtain ⟨p0, xs0, e1, e2, e3⟩ := st_own_at st eo
    refine ⟨.ref p0, e1, ?_⟩
    refine then_D OkD.anti st h fun u k H2 Hs2 θ2 s2 st2 r2 h => ?_
    obtain ⟨d, e, q⟩ := post_opt h
    obtain ⟨p1, xs, f1, f2, f3⟩ := st_own_at st2 eo
    rw [e1] at f1
    cases f1
    cases k with
    | int j =>
      obtain ⟨w, g1, g2⟩ := reps_atI f3 (show atI l j = some d from e)
      exact Or.inl ⟨p0, xs, j, w, rfl, r2, SqL.of f2, g1, fin_D q st2 g2⟩
    | _ => cases e
  · exact h.elim
end
end Pd


namespace Pd
open PySem PySem.Spec PyProof.Rows L2
/-! ### comprehensions -/
def hide (ρ : DEnv) : DEnv := ρ.map fun e => match e with
  | some (.own _) => none
  | e => e
def wipeD (ρ : DEnv) : List Nat → DEnv
  | [] => ρ
  | v :: vs => (wipeD ρ vs).set v none
theorem hide_at {ρ : DEnv} {i : Nat} {x : Ent} (h : (hide ρ)[i]? = some (some x)) : ρ[i]? = some (some x) ∧ ∀ l, x ≠ .own l := by
  unfold hide at h
  rw [List.getElem?_map] at h
  cases e : ρ[i]? with
  | none => rw [e] at h; cases h
  | some y =>
    rw [e] at h
    cases y with
    | none => cases h
    | some z =>
      cases z with
      | own l => cases h
      | dat d => cases h; exact ⟨rfl, fun l => nofun⟩
      | pot => cases h; exact ⟨rfl, fun l => nofun⟩
theorem wipeD_length (ρ : DEnv) : ∀ vs : List Nat, (wipeD ρ vs).length = ρ.length
  | [] => rfl
  | v :: vs => by unfold wipeD; rw [List.length_set, wipeD_length ρ vs]
theorem wipeD_at {ρ : DEnv} {i : Nat} {x : Ent} : ∀ {vs : List Nat}, (wipeD ρ vs)[i]? = some (some x) → ρ[i]? = some (some x) ∧ i ∉ vs
  | [], h => ⟨h, by simp⟩
  | v :: vs, h => by
    obtain ⟨h1, h2⟩ := set_none_at (ρ := wipeD ρ vs) h
    obtain ⟨h3, h4⟩ := wipeD_at h2
    exact ⟨h3, fun z => (List.mem_cons.mp z).elim (fun e => h1 e.symm) h4⟩
theorem wipe_keep {σ : L2.St} {i : Nat} : ∀ {vs : List Nat}, i ∉ vs → (wipe σ vs)[i]? = σ[i]?
  | [], _ => rfl
  | v :: vs, h => by
    show ((wipe σ vs).set v none)[i]? = _
    rw [List.getElem?_set_ne (fun e => h (by rw [e]; exact List.mem_cons_self)), wipe_keep fun z => h (List.mem_cons_of_mem _ z)]
theorem wipe_in {σ : L2.St} {i : Nat} : ∀ {vs : List Nat}, i ∈ vs → (wipe σ vs)[i]? = if i < σ.length then some none else none
  | v :: vs, h => by
    show ((wipe σ vs).set v none)[i]? = _
    by_cases e : v = i
    · subst e
      rw [List.getElem?_set, wipe_length]
      by_cases q : v < σ.length
      · simp only [q, if_true]
      · simp only [q, if_false, if_true]
    · rw [List.getElem?_set_ne e, wipe_in ((List.mem_cons.mp h).resolve_left fun z => e z.symm)]
/-- only the wiped places differ -/
theorem wipe_same {σ σ' : L2.St} {vs : List Nat} (hl : σ'.length = σ.length) (h : ∀ j, j ∉ vs → σ'[j]? = (wipe σ vs)[j]?) : wipe σ' vs = wipe σ vs := by
  apply List.ext_getElem?
  intro j
  by_cases q : j ∈ vs
  · rw [wipe_in q, wipe_in q, hl]
  · rw [wipe_keep q, h j q]
section
variable {K : PySem.W.Frag} {F : Fr0} {σ : L2.St} {H Hs H' Hs' : Hp} {ρ : DEnv} {θ : Pot}
theorem st_block (st : StOk K F σ H Hs ρ θ) (vs : List Nat) : StOk K ⟨F.ap, H, Hs⟩ (wipe σ vs) H Hs (wipeD (hide ρ) vs) θ where
  sub := st.sub
  hap := st.hap
  pot := st.pot
  old := fun b o _ h => h
  frs := fun b _ => rfl
  dat := fun i d e => by
    obtain ⟨e1, e2⟩ := wipeD_at e
    obtain ⟨v, e3, e4⟩ := st.dat i d (hide_at e1).1
    exact ⟨v, by rw [wipe_keep e2]; exact e3, e4⟩
  own := fun i l e => absurd rfl ((hide_at (wipeD_at e).1).2 l)
  sep := fun i j l m a e => absurd rfl ((hide_at (wipeD_at e).1).2 l)
  pt := fun i e => by
    obtain ⟨e1, e2⟩ := wipeD_at e
    obtain ⟨p, e3, e4⟩ := st.pt i (hide_at e1).1
    exact ⟨p, e3, by rw [wipe_keep e2]; exact e4⟩
  len := by
    rw [wipeD_length, wipe_length]
    unfold hide
    rw [List.length_map]
    exact st.len
theorem fnEnd_of {σ' : L2.St} {ρ' : DEnv} {θ' : Pot} (s : Same Hs Hs') (st : StOk K ⟨F.ap, H, Hs⟩ σ' H' Hs' ρ' θ') : FnEnd F.ap Hs H Hs' H' θ' := ⟨s, st.sub, st.hap, st.pot, st.old, st.frs⟩
end
/-- the rest of a comprehension -/
def compGo (T : Tgt) (vs : List Nat) (tt : M Bool) (elt : M Dt) : List Dt → M (List Dt)
  | [] => ret []
  | d :: ds => fun ρ θ => match bindT T d (wipeD (hide ρ) vs) with
    | none => .bad
    | some ρ1 => match tt ρ1 θ with
      | .ok true θ1 => match elt ρ1 θ1 with
        | .ok y θ2 => bnd (compGo T vs tt elt ds) (fun ys => ret (y :: ys)) ρ θ2
        | _ => .bad
      | .ok false θ1 => compGo T vs tt elt ds ρ θ1
      | _ => .bad
def mComp (T : Tgt) (vs : List Nat) (ms : M (List Dt)) (tt : M Bool) (elt : M Dt) : M (List Dt) := bnd ms fun l => if l.length < bigL then compGo T vs tt elt l else bad
abbrev W0 : WX := fun _ _ _ _ => False
def tt1 : M Bool := ret true
def PTsD (X : Cx) (F : Fr0) (W : WX) (es : List Expr) (m : M Bool) : Prop := PTs X es (tT X F W m)
theorem ptsd_nil {X : Cx} {F : Fr0} {W : WX} : PTsD X F W [] tt1 := by
  refine ⟨fun pins s σ H Q I h => ?_⟩
  obtain ⟨ρ, θ, Hs, st, h⟩ := h
  exact pts_nil.run pins s σ H Q I (fin_T h st)
/-- the targets' places are the block's own -/
def TgtIn (T : Tgt) (vs : List Nat) : Prop := match T with
  | .n i => i ∈ vs
  | .t is => ∀ i ∈ is, i ∈ vs
  | .m ts => ∀ t ∈ ts, ∀ i, in1 t i → i ∈ vs
def gOf (K : PySem.W.Frag) (T : Tgt) : TG := match T with
  | .n k => gName k
  | .t is => gTup K is.length (gNs is)
  | .m ts => gTup K ts.length (gMs K ts)
theorem gOf_run {K : PySem.W.Frag} {F : Fr0} {T : Tgt} {d : Dt} {v : V} {σ : L2.St} {H Hs : Hp} {ρ ρ' : DEnv} {θ : Pot} {Q : L2.St → Hp → Prop} (st : StOk K F σ H Hs ρ θ) (r : Rep K Hs d v) (e : bindT T d ρ = some ρ')
    (q : ∀ σ', StOk K F σ' H Hs ρ' θ → (∀ j, (∀ i, inT T i → i ≠ j) → σ'[j]? = σ[j]?) → σ'.length = σ.length → Q σ' H) : gOf K T v σ H Q := by
  cases T with
  | n k =>
    cases e
    exact q _ (st_set st k r) (fun j hj => List.getElem?_set_ne (hj k rfl)) (List.length_set ..)
  | t is =>
    cases d with
    | tup l => exact g1_run (t := .t is) st r e q
    | _ => cases e
  | m ts =>
    cases d with
    | tup l =>
      have e : bindM ts l ρ = some ρ' := e
      obtain ⟨a, xs, rfl, h3, h4⟩ := r
      exact ⟨a, xs, rfl, sqt_mono st.sub h3, by rw [← h4.length]; exact bindM_len e, gMs_run h4 e st fun σ' st' hj hl => q σ' st' hj hl⟩
    | _ => cases e
section
variable {X : Cx} {F : Fr0} {W : WX} {elt tg iter : Expr} {ifs : List Expr} {scope : Scope} {own : List (Str × Nat)} {pos : Pos} {T : Tgt} {ms : M (List Dt)} {mt : M Bool} {me : M Dt}
theorem comp_run {g : TG} {tt : TT} {te : TE} (hT : TgtIn T (own.map (·.2)))
    (hg : ∀ (F : Fr0) (σ : L2.St) (H Hs : Hp) (ρ ρ' : DEnv) (θ : Pot) (d : Dt) (v : V) (Q : L2.St → Hp → Prop), StOk X.K F σ H Hs ρ θ → Rep X.K Hs d v → bindT T d ρ = some ρ' → (∀ σ', StOk X.K F σ' H Hs ρ' θ → (∀ j, (∀ i, inT T i → i ≠ j) → σ'[j]? = σ[j]?) → σ'.length = σ.length → Q σ' H) → g v σ H Q)
    (ht : ∀ (F : Fr0) (σ : L2.St) (H : Hp) (Q : Bool → Hp → Prop), tT X F W0 mt σ H Q → tt σ H Q) (he : ∀ (F : Fr0) (σ : L2.St) (H : Hp) (Q : VK), tD X F W0 me σ H Q → te σ H Q)
    {σ : L2.St} {H : Hp} {Q : VK} (h : tO X F W (mComp T (own.map (·.2)) ms mt me) σ H Q) : tLc (tI X F W ms) g tt te (own.map (·.2)) σ H Q := by
  obtain ⟨ρ, θ, Hs, st, h⟩ := h
  refine ⟨ρ, θ, Hs, st, (post_bnd h).imp (fun l θ1 q J H1 Hs1 s1 st1 it D nD => ?_) fun _ _ _ z => z⟩
  by_cases hl : l.length < bigL
  · rw [if_pos hl] at q
    -- what holds between two turns
    have stD := st_new (o := .lst []) st1 nD
    refine ⟨fun i m H' => m = l.length - i ∧ i ≤ l.length ∧ ∃ Hs' θ' acc accD, Same Hs1 Hs' ∧ StOk X.K F σ H' Hs' ρ θ' ∧ H' D = some (.lst acc) ∧ Reps X.K Hs' accD acc ∧ Hs' D = none ∧ acc.length ≤ i ∧
      Post (compGo T (own.map (·.2)) mt me (l.drop i) ρ θ') (fun ys θ'' => OkO X F σ ρ Q Hs' (accD ++ ys) θ'') (ExW X F W Hs'), ⟨l.length, rfl, Nat.zero_le _, Hs1, θ1, [], [], Same.refl _, stD, upd_same, rfl, st1.sub.free nD, Nat.le_refl _, q.imp (fun ys θ'' z => OkO.anti s1 _ _ z) (ExW.anti s1)⟩, ?_⟩
    rintro i m H' ⟨rfl, hi', Hs', θ', acc, accD, s2, st2, hD, hacc, nD', la, q2⟩
    by_cases hlt : i < l.length
    · refine Or.inr ⟨it.go i H' Hs' hlt s2 st2.sub, fun H3 => ∃ Hs3 θ3 acc3 accD3, Same Hs1 Hs3 ∧ StOk X.K F σ H3 Hs3 ρ θ3 ∧ H3 D = some (.lst acc3) ∧ Reps X.K Hs3 accD3 acc3 ∧ Hs3 D = none ∧ acc3.length ≤ i + 1 ∧
        Post (compGo T (own.map (·.2)) mt me (l.drop (i + 1)) ρ θ3) (fun ys θ'' => OkO X F σ ρ Q Hs3 (accD3 ++ ys) θ'') (ExW X F W Hs3), fun H3 h3 => ⟨l.length - (i + 1), by omega, rfl, hlt, h3⟩, fun x H4 y => ?_⟩
      obtain ⟨Hs4, g4, r4⟩ := it.yld i H' Hs' x H4 l[i] (List.getElem?_eq_getElem hlt) s2 st2.sub y
      have st4 := st2.grow g4
      have hD4 : H4 D = some (.lst acc) := g4.h _ _ hD
      have nD4 : Hs4 D = none := (g4.n D (by rw [hD]; exact fun z => nomatch z)).trans nD'
      rw [List.drop_eq_getElem_cons hlt] at q2
      unfold compGo at q2
      cases eb : bindT T l[i] (wipeD (hide ρ) (own.map (·.2))) with
      | none => rw [eb] at q2; exact q2.elim
      | some ρ5 =>
        rw [eb] at q2
        refine hg ⟨F.ap, H4, Hs4⟩ _ H4 Hs4 _ ρ5 θ' l[i] x _ (st_block st4 _) r4 eb fun σ5 st5 hj hlen => ⟨?_, ?_⟩
        · refine wipe_same (by rw [hlen, wipe_length]) fun j hj2 => hj j fun k hk e => hj2 ?_
          rw [← e]
          cases T with
          | n k' => exact (show k = k' from hk) ▸ hT
          | t is => exact hT k hk
          | m ts =>
            obtain ⟨u, h1, h2⟩ := (show ∃ t ∈ ts, in1 t k from hk)
            exact hT u h1 k h2
        · dsimp only at q2
          refine ht ⟨F.ap, H4, Hs4⟩ σ5 H4 _ ⟨ρ5, θ', Hs4, st5, ?_⟩
          cases et : mt ρ5 θ' with
          | ok b θ6 =>
            rw [et] at q2
            intro H6 Hs6 s6 st6
            have fe6 := fnEnd_of (F := F) s6 st6
            have stO6 := st_end st4 fe6
            have apD : F.ap ≠ some D := ap_ne st1 nD
            have hD6 : H6 D = some (.lst acc) := fe6.old D _ apD hD4
            have nD6 : Hs6 D = none := (fe6.n D (by rw [hD4]; exact fun z => nomatch z)).trans nD4
            cases b with
            | false =>
              refine iteF ?_
              exact ⟨Hs6, θ6, acc, accD, s2.trans (g4.s.trans s6), stO6, hD6, Reps.mono (g4.s.trans s6) accD hacc, nD6, by omega, q2.imp (fun ys θ'' z => OkO.anti (g4.s.trans s6) _ _ z) (ExW.anti (g4.s.trans s6))⟩
            | true =>
              refine iteT ?_
              dsimp only at q2
              refine he ⟨F.ap, H4, Hs4⟩ σ5 H6 _ ⟨ρ5, θ6, Hs6, st6, ?_⟩
              cases ee : me ρ5 θ6 with
              | ok y θ7 =>
                rw [ee] at q2
                intro v H7 Hs7 s7 st7 r7
                have fe7 := fnEnd_of (F := F) (s6.trans s7) st7
                have stO7 := st_end st4 fe7
                have hD7 : H7 D = some (.lst acc) := fe7.old D _ apD hD4
                have nD7 : Hs7 D = none := (fe7.n D (by rw [hD4]; exact fun z => nomatch z)).trans nD4
                have s47 := g4.s.trans (s6.trans s7)
                refine ⟨acc, hD7, bigL_ok (by omega), Hs7, θ7, acc ++ [v], accD ++ [y], s2.trans s47, ?_, upd_same, (Reps.mono s47 accD hacc).append (Reps.cons r7 Reps.nil), nD7, by rw [List.length_append, List.length_singleton]; omega, ?_⟩
                · -- the list D has grown
                  have zD : ∀ b u, Hs7 b = some u → b ≠ D := fun b u w k => by rw [k, nD7] at w; cases w
                  have z0 : F.H0 D = none := h0_none st1 nD
                  refine ⟨fun b u w => by rw [upd_ne (zD b u w)]; exact stO7.sub b u w, stO7.hap, fun p w => ?_, fun b o w1 w2 => ?_, stO7.frs, stO7.dat, fun j m' w => ?_, stO7.sep, stO7.pt, stO7.len⟩
                  · rw [upd_ne (fun k => apD (by rw [← k]; exact w))]
                    exact stO7.pot p w
                  · rw [upd_ne (fun k => by rw [k, z0] at w2; cases w2)]
                    exact stO7.old b o w1 w2
                  · obtain ⟨b, zs, w1, w2, w3⟩ := stO7.own j m' w
                    obtain ⟨b', zs', w1', w2', _⟩ := st1.own j m' w
                    rw [w1] at w1'
                    cases w1'
                    have ne : b ≠ D := fun k => by rw [k, nD] at w2'; cases w2'
                    exact ⟨b, zs, w1, by rw [upd_ne ne]; exact w2, w3⟩
                · refine Post.imp (post_bnd q2) (fun ys θ'' z => ?_) fun _ _ _ z => ExW.anti s47 _ _ _ z
                  rw [List.append_assoc]
                  exact OkO.anti s47 _ _ z
              | exn x6 ρ6 θ7 => rw [ee] at q2; exact q2.elim
              | bad => rw [ee] at q2; exact q2.elim
          | exn x6 ρ6 θ6 => rw [et] at q2; exact q2.elim
          | bad => rw [et] at q2; exact q2.elim
    · have e : i = l.length := by omega
      subst e
      rw [List.drop_length] at q2
      have q3 : OkO X F σ ρ Q Hs' (accD ++ []) θ' := q2
      rw [List.append_nil] at q3
      refine Or.inl ⟨it.stop H' Hs' s2 st2.sub, q3 D acc H' Hs' (Same.refl _) st2 hD hacc nD' (h0_none st1 nD) (ap_ne st1 nD) fun j m' w z => own_ne st1 nD j m' w z⟩
  · rw [if_neg hl] at q
    exact q.elim
theorem po_comp (own : List (Str × Nat)) (T : Tgt) (hc : X.calm = true) (hN : X.N.Nodup) (hi : PID X F W tg iter ms) (ok : BlkOk X.N X.env.scope scope own) (hT : TgtIn T (own.map (·.2)))
    (hg : ∀ (s : Shared) (H : Hp) (C : Addr) (cl : List (Str × Addr)) (fp : List Addr), PG (X.blk s H scope (compEnvC scope cl C X.env) fp) tg (gOf X.K T))
    (ht : ∀ (F : Fr0) (s : Shared) (H : Hp) (C : Addr) (cl : List (Str × Addr)) (fp : List Addr), PTsD (X.blk s H scope (compEnvC scope cl C X.env) fp) F W0 ifs mt)
    (he : ∀ (F : Fr0) (s : Shared) (H : Hp) (C : Addr) (cl : List (Str × Addr)) (fp : List Addr), PD (X.blk s H scope (compEnvC scope cl C X.env) fp) F W0 elt me) (hs : ∀ x, foldedSetIterable iter X.env x = pure x := by intro _; rfl) :
    PO X F W (.ListComp elt [⟨tg, iter, ifs, 0⟩] scope pos) (mComp T (own.map (·.2)) ms mt me) := by
  -- one reading for all frames: what holds at some frame
  have ht' : ∀ (s : Shared) (H : Hp) (C : Addr) (cl : List (Str × Addr)) (fp : List Addr), PTs (X.blk s H scope (compEnvC scope cl C X.env) fp) ifs (fun σ H Q => ∃ F, tT X F W0 mt σ H Q) := fun s H C cl fp => ⟨fun pins s1 σ H1 Q I ⟨F1, h⟩ => (ht F1 s H C cl fp).run pins s1 σ H1 Q I h⟩
  have he' : ∀ (s : Shared) (H : Hp) (C : Addr) (cl : List (Str × Addr)) (fp : List Addr), PE (X.blk s H scope (compEnvC scope cl C X.env) fp) elt (fun σ H Q => ∃ F, tD X F W0 me σ H Q) := fun s H C cl fp => ⟨fun pins s1 σ H1 Q I ⟨F1, h⟩ => (he F1 s H C cl fp).run pins s1 σ H1 Q I h⟩
  refine pe_imp (pe_lc hc hN hi ok hg ht' he' hs) fun σ H Q h => ?_
  refine comp_run hT (fun F σ H Hs ρ ρ' θ d v Q st r e q => ?_) (fun F σ H Q h => ⟨F, h⟩) (fun F σ H Q h => ⟨F, h⟩) h
  exact gOf_run st r e q
end

/-! ### the pot -/
section
variable {X : Cx} {F : Fr0} {W : WX} {a b c : Expr} {pos q : Pos} {x y : Str}
theorem st_pot {σ : L2.St} {H Hs : Hp} {ρ : DEnv} {θ : Pot} (st : StOk X.K F σ H Hs ρ θ) {p : Addr} (e : F.ap = some p) (θ' : Pot) : StOk X.K F σ (upd H p (.lst [.int θ'.1, .int θ'.2])) Hs ρ θ' := by
  have z : ∀ b u, Hs b = some u → b ≠ p := fun b u w k => by rw [k, st.hap p e] at w; cases w
  refine ⟨fun b u w => by rw [upd_ne (z b u w)]; exact st.sub b u w, st.hap, fun r w => ?_, fun b o w1 w2 => ?_, st.frs, st.dat, fun j l w => ?_, st.sep, st.pt, st.len⟩
  · rw [e] at w
    cases w
    exact upd_same
  · rw [upd_ne (fun k => w1 (by rw [k]; exact e))]
    exact st.old b o w1 w2
  · obtain ⟨a, xs, e1, e2, e3, e4, e5, e6⟩ := st.own j l w
    exact ⟨a, xs, e1, by rw [upd_ne (fun k => e6 (by rw [k]; exact e))]; exact e2, e3, e4, e5, e6⟩
/-- pot[0], pot[1] -/
def mPotI (i : Nat) (k : Nat) : M Dt := fun ρ θ => match ρ[i]? with
  | some (some .pot) => .ok (.int (if k = 0 then θ.1 else θ.2)) θ
  | _ => .bad
theorem pd_potI (i k : Nat) {j : Nat} {p : Pos} (hk : k < 2 := by decide) (hN : X.N[i]? = some y := by rfl) (hv : Vis X.env.scope y := by first | exact Or.inl rfl | exact Or.inr (Or.inl rfl) | exact Or.inr (Or.inr rfl)) (hd : (y == ("__debug__" : Str)) = false := by decide)
    (hcd : (y == ("__classdict__" : Str)) = false := by decide) (hs : PlainIx (.Constant (.int (k : Int)) j p) := by intro _ _; rfl) : PD X F W (.Subscript (.Name y q) (.Constant (.int (k : Int)) j p) pos) (mPotI i k) := by
  refine pe_imp (pe_ix ix_list (pe_var hN hv hd hcd) pe_int hs) fun σ H Q h => ?_
  obtain ⟨ρ, θ, Hs, st, h⟩ := h
  unfold mPotI at h
  split at h
  · rename_i e
    obtain ⟨p0, e1, e2⟩ := st.pt i e
    refine ⟨_, e2, p0, _, _, .int (if k = 0 then θ.1 else θ.2), rfl, rfl, SqL.of (st.pot p0 e1), atI_nat ?_, fin_D h st rfl⟩
    match k, hk with
    | 0, _ => rfl
    | 1, _ => rfl
  · exact h.elim
/-- pot[1] = e -/
def mPotS (i : Nat) (ma : M Dt) : M Out := bnd ma fun d ρ θ => match d, ρ[i]? with
  | .int n, some (some .pot) => .ok (.next ρ) (θ.1, n)
  | _, _ => .bad
theorem psd_potS (i : Nat) {ma : M Dt} {j : Nat} {p spos : Pos} (ha : PD X F W a ma) (hN : X.N[i]? = some y := by rfl) (hv : Vis X.env.scope y := by first | exact Or.inl rfl | exact Or.inr (Or.inl rfl) | exact Or.inr (Or.inr rfl)) (hd : (y == ("__debug__" : Str)) = false := by decide)
    (hcd : (y == ("__classdict__" : Str)) = false := by decide)
    (has : ∀ v, assign (.Subscript (.Name y q) (.Constant (.int 1) j p) spos) X.env v = (do
      let ov ← holding [v] (eval (.Name y q) X.env)
      let iv ← holding [v, ov] (eval (.Constant (.int 1) j p) X.env)
      standAt spos
      holding [v, ov, iv] (setItem ov iv v)
      release [v, ov, iv] []) := by intro _; rfl)
    (hs : swapsWithSole [.Subscript (.Name y q) (.Constant (.int 1) j p) spos] a pos.line X.env = pure false := by rfl) (hw : swappedStores [.Subscript (.Name y q) (.Constant (.int 1) j p) spos] a X.env = pure none := by rfl)
    (h1 : (assignEach [.Subscript (.Name y q) (.Constant (.int 1) j p) spos] X.env).map (·.2) = [assign (.Subscript (.Name y q) (.Constant (.int 1) j p) spos) X.env] := by rfl) : PSD X F W (.Assign [.Subscript (.Name y q) (.Constant (.int 1) j p) spos] a pos) (mPotS i ma) := by
  refine ps_imp (ps_asg ha (pg_sub (pe_var hN hv hd hcd) pe_int set_list has) hs hw h1) fun D σ H h => ?_
  obtain ⟨ρ, θ, Hs, st, h⟩ := h
  refine then_D OkS.anti st h fun v d H1 Hs1 θ1 s1 st1 r1 h => ?_
  split at h
  · rename_i n e
    obtain ⟨p0, e1, e2⟩ := st1.pt i e
    refine ⟨_, e2, p0, _, 1, 1, rfl, rfl, st1.pot p0 e1, rfl, ?_⟩
    rw [show v = _ from r1]
    exact h σ _ Hs1 (Same.refl _) (st_pot st1 e1 (θ1.1, n))
  · exact h.elim
theorem call_divmodW : CallR X (.builtin "divmod") (fun xs H Q => ∃ i j, xs = [.int i, .int j] ∧ (0 < j ∧ j.natAbs.log2 < 9000) ∧ ∀ p, H p = none → Q (.ref p) (upd H p (.tup [.int (i / j), .int (i % j)]))) := by
  intro pins s σ H xs us Q I r h
  obtain ⟨i, j, rfl, ⟨h1, h2⟩, q⟩ := h
  obtain ⟨u, w', rfl, ⟨t, rfl⟩, ⟨t', rfl⟩⟩ := vals2 r
  have hj : j ≠ 0 := by omega
  refine divmod_int hj ?_ (.inl (PyProof.noPylong_of_log2 h2))
  rw [Int.fdiv_eq_ediv_of_nonneg i (Int.le_of_lt h1), Int.fmod_eq_emod_of_nonneg i (Int.le_of_lt h1)]
  refine ⟨.ref s.heap.objs.size, _, ?_, rfl, q _ (I.hok.fresh (Nat.le_refl _))⟩
  refine I.laid (fun b o e => Heap.get?_push_of_some _ e) (Nat.le_refl _) ⟨by show 2 ≤ sizeLine; decide, [.int (i / j) s.toks, .int (i % j) (s.toks + 1)], .cons ⟨_, rfl⟩ (.cons ⟨_, rfl⟩ .nil), ?_⟩
  exact ⟨_, Heap.get?_push_size s.heap rfl, rfl, 0, rfl⟩
/-- pot[0], x = divmod(pot[0], e) -/
def mPotD (i j : Nat) (mb : M Dt) : M Out := fun ρ θ => match ρ[i]? with
  | some (some .pot) => bnd mb (fun d ρ θ1 => match d with
    | .int n => if (decide (0 < n) && small n) = true then .ok (.next (ρ.set j (some (.dat (.int (θ.1 % n)))))) (θ.1 / n, θ1.2) else .bad
    | _ => .bad) ρ θ
  | _ => .bad
theorem psd_potD (i j : Nat) {mb : M Dt} {z : Str} {k1 k2 : Nat} {p1 p2 p3 p4 p5 p6 p7 p8 p9 : Pos} {kt : Nat} (hc : X.calm = true) (hNd : X.N.Nodup) (hm : X.mg "divmod" = none) (hb : PD X F W b mb) (hN : X.N[i]? = some y := by rfl) (hj : X.N[j]? = some z := by rfl) (hv : Vis X.env.scope y := by first | exact Or.inl rfl | exact Or.inr (Or.inl rfl) | exact Or.inr (Or.inr rfl)) (hd : (y == ("__debug__" : Str)) = false := by decide)
    (hcd : (y == ("__classdict__" : Str)) = false := by decide) (hx : Loc X.env.scope z := by first | exact Or.inl rfl | exact Or.inr rfl) (hf : X.fn z = true ∨ X.env.scope.names.lookup z = some .local := by first | exact .inl rfl | exact .inr rfl) (hg : Gl X "divmod" := by rfl)
    (has : ∀ v, assign (.Subscript (.Name y p1) (.Constant (.int 0) k1 p2) p3) X.env v = (do
      let ov ← holding [v] (eval (.Name y p1) X.env)
      let iv ← holding [v, ov] (eval (.Constant (.int 0) k1 p2) X.env)
      standAt p3
      holding [v, ov, iv] (setItem ov iv v)
      release [v, ov, iv] []) := by intro _; rfl)
    (hpx : PlainIx (.Constant (.int 0) k2 p8) := by intro _ _; rfl)
    (e1 : starEach [.Subscript (.Name y p7) (.Constant (.int 0) k2 p8) p9, b] X.env = (false, eval (.Subscript (.Name y p7) (.Constant (.int 0) k2 p8) p9) X.env) :: starEach [b] X.env := by rfl) (e2 : starEach [b] X.env = (false, eval b X.env) :: starEach [] X.env := by rfl) (hpl : (backTo p6 (starEach [b] X.env)).any (·.1) = false := by rfl)
    (g1 : (assignEach [.Subscript (.Name y p1) (.Constant (.int 0) k1 p2) p3, .Name z p4] X.env).map (·.2) = assign (.Subscript (.Name y p1) (.Constant (.int 0) k1 p2) p3) X.env :: (assignEach [.Name z p4] X.env).map (·.2) := by rfl)
    (g2 : (assignEach [.Name z p4] X.env).map (·.2) = assign (.Name z p4) X.env :: (assignEach [] X.env).map (·.2) := by rfl)
    (g3 : (assignEach [.Subscript (.Name y p1) (.Constant (.int 0) k1 p2) p3, .Name z p4] X.env).length = 2 := by rfl) (g4 : (assignEach [.Subscript (.Name y p1) (.Constant (.int 0) k1 p2) p3, .Name z p4] X.env).findIdx? (·.1) = none := by rfl)
    (hs : swapsWithSole [.Tuple [.Subscript (.Name y p1) (.Constant (.int 0) k1 p2) p3, .Name z p4] kt p5] (.Call (.Name "divmod" q) [.Subscript (.Name y p7) (.Constant (.int 0) k2 p8) p9, b] [] p6) pos.line X.env = pure false := by rfl)
    (hw : swappedStores [.Tuple [.Subscript (.Name y p1) (.Constant (.int 0) k1 p2) p3, .Name z p4] kt p5] (.Call (.Name "divmod" q) [.Subscript (.Name y p7) (.Constant (.int 0) k2 p8) p9, b] [] p6) X.env = pure none := by rfl)
    (h1 : (assignEach [.Tuple [.Subscript (.Name y p1) (.Constant (.int 0) k1 p2) p3, .Name z p4] kt p5] X.env).map (·.2) = [assign (.Tuple [.Subscript (.Name y p1) (.Constant (.int 0) k1 p2) p3, .Name z p4] kt p5) X.env] := by rfl) :
    PSD X F W (.Assign [.Tuple [.Subscript (.Name y p1) (.Constant (.int 0) k1 p2) p3, .Name z p4] kt p5] (.Call (.Name "divmod" q) [.Subscript (.Name y p7) (.Constant (.int 0) k2 p8) p9, b] [] p6) pos) (mPotD i j mb) := by
  have PY : ∀ {r : Pos}, PE X (.Name y r) (tVar i) := pe_var hN hv hd hcd
  refine ps_imp (ps_asg (pe_callB call_divmodW hg hm (by decide +kernel) (pa_cons (pe_ix ix_list PY pe_int hpx) (pa_cons hb pa_nil e2) e1) (by decide) (by decide) e1 hpl)
    (pg_tup hc (pgs_cons (pg_sub PY pe_int set_list has) (pgs_cons (pg_name hNd hj hx hf) pgs_nil g2) g1) g3 g4) hs hw h1) fun D σ H h => ?_
  obtain ⟨ρ, θ, Hs, st, h⟩ := h
  unfold mPotD at h
  split at h
  · rename_i e
    obtain ⟨p0, e3, e4⟩ := st.pt i e
    refine ⟨_, e4, p0, _, _, .int θ.1, rfl, rfl, SqL.of (st.pot p0 e3), rfl, ?_⟩
    refine then_D OkS.anti st h fun v d H1 Hs1 θ1 s1 st1 r1 h => ?_
    split at h
    · rename_i n
      by_cases w : (decide (0 < n) && small n) = true
      · rw [if_pos w] at h
        obtain ⟨w1, w2⟩ := Bool.and_eq_true_iff.mp w
        refine ⟨θ.1, n, by rw [show v = _ from r1], ⟨of_decide_eq_true w1, of_decide_eq_true w2⟩, fun p np => ?_⟩
        have st2 := st_new (o := .tup [.int (θ.1 / n), .int (θ.1 % n)]) st1 np
        refine ⟨p, _, rfl, Or.inl (Or.inl upd_same), rfl, ?_⟩
        refine ⟨_, _, rfl, ?_⟩
        obtain ⟨p1, e5, e6⟩ := st2.pt i e
        refine ⟨_, e6, p1, _, 0, 0, rfl, rfl, st2.pot p1 e5, rfl, ?_⟩
        refine ⟨_, _, rfl, rfl, ?_⟩
        exact h _ _ _ (Same.refl _) (st_set (st_pot st2 e5 (θ.1 / n, θ1.2)) j rfl)
      · rw [if_neg w] at h
        exact h.elim
    · exact h.elim
  · exact h.elim
end
end Pd


namespace Pd
open PySem PySem.Spec PyProof.Rows L2
/-! ### chains of any length -/
structure PCh (X : Cx) (ops : List CmpOp) (es : List Expr) (t : V → TE) : Prop where
  val : ∀ (pos : Pos) (pins : List (Addr × Obj)) (s : Shared) (σ : L2.St) (H : Hp) (x : V) (v : Value) (Q : VK), Inv X pins σ H s → RelV x v → t x σ H Q → wpAny (model X.prog X.w) X.A (compareChain pos v ops (evalEach es X.env)) (EP X pins σ Q) X.xe s
  tst : ∀ (pos : Pos) (pins : List (Addr × Obj)) (s : Shared) (σ : L2.St) (H : Hp) (x : V) (v : Value) (Q : Bool → Hp → Prop), Inv X pins σ H s → RelV x v → t x σ H (fun y H' => ∃ k, y = .bl k ∧ Q k H') → wpAny (model X.prog X.w) X.A (testChain pos v ops (evalEach es X.env)) (TP X pins σ Q) X.xe s
def tLast (r : R2) (tb : TE) : V → TE := fun x σ H Q => tb σ H fun y H2 => r x y H2 Q
def tLink (r : R2) (tb : TE) (u : V → TE) : V → TE := fun x σ H Q => tb σ H fun y H2 => r x y H2 fun z H3 => ∃ k, z = .bl k ∧ (if k = true then u y σ H3 Q else Q (.bl false) H3)
section
variable {X : Cx} {F : Fr0} {W : WX} {a b : Expr} {pos : Pos} {tb ta : TE} {u : V → TE}
theorem pch_last {op : CmpOp} {r : R2} (ho : OpR X (compareOp op) r) (hb : PE X b tb) : PCh X [op] [b] (tLast r tb) where
  val := fun pos pins s σ H x v Q I rx h => chain_last (thn (hb.run pins s σ H _ I h) fun w' s4 ⟨z', H4, I4, r4, q4⟩ => ho pins s4 σ H4 x z' v w' Q I4 rx r4 q4)
  tst := fun pos pins s σ H x v Q I rx h => test_last (thn (hb.run pins s σ H _ I h) fun w' s4 ⟨z', H4, I4, r4, q4⟩ => thn (ho pins s4 σ H4 x z' v w' _ I4 rx r4 q4) fun d' s5 ⟨z2, H5, I5, r5, k2, e2, q5⟩ => by
    subst e2
    cases r5
    exact wpAny_truthy_bool ⟨H5, I5, q5⟩)
theorem pch_link {op op' : CmpOp} {ops : List CmpOp} {e : Expr} {es : List Expr} {r : R2} (ho : OpR X (compareOp op) r) (hb : PE X b tb) (hr : PCh X (op' :: ops) (e :: es) u) : PCh X (op :: op' :: ops) (b :: e :: es) (tLink r tb u) where
  val := fun pos pins s σ H x v Q I rx h => chain_link (thn (hb.run pins s σ H _ I h) fun w s2 ⟨y, H2, I2, r2, q2⟩ => thn (ho pins s2 σ H2 x y v w _ I2 rx r2 q2) fun d s3 ⟨z, H3, I3, r3, k, e, q3⟩ => by
    subst e
    cases r3
    refine wpAny_truthy_bool ?_
    cases k with
    | false => exact ite_ff ⟨.bl false, H3, I3, rfl, q3⟩
    | true => exact ite_tt (hr.val pos pins s3 σ H3 y w Q I3 r2 q3))
  tst := fun pos pins s σ H x v Q I rx h => test_link (thn (hb.run pins s σ H _ I h) fun w s2 ⟨y, H2, I2, r2, q2⟩ => thn (ho pins s2 σ H2 x y v w _ I2 rx r2 q2) fun d s3 ⟨z, H3, I3, r3, k, e, q3⟩ => by
    subst e
    cases r3
    refine wpAny_truthy_bool ?_
    cases k with
    | false =>
      obtain ⟨k', e', q'⟩ := q3
      cases e'
      exact ite_ff ⟨H3, I3, q'⟩
    | true => exact ite_tt (hr.tst pos pins s3 σ H3 y w Q I3 r2 q3))
/-- the same by data -/
def tC3 (X : Cx) (F : Fr0) (W : WX) (c : Dt → M Dt) : V → TE := fun x σ H Q => ∃ d ρ θ Hs, StOk X.K F σ H Hs ρ θ ∧ Rep X.K Hs d x ∧ Post (c d ρ θ) (OkD X F σ ρ Q Hs) (ExW X F W Hs)
def PCD (X : Cx) (F : Fr0) (W : WX) (ops : List CmpOp) (es : List Expr) (c : Dt → M Dt) : Prop := PCh X ops es (tC3 X F W c)
theorem pch_imp {ops : List CmpOp} {es : List Expr} {t t' : V → TE} (h : PCh X ops es t) (i : ∀ x σ H Q, t' x σ H Q → t x σ H Q) : PCh X ops es t' where
  val := fun pos pins s σ H x v Q I rx q => h.val pos pins s σ H x v Q I rx (i _ _ _ _ q)
  tst := fun pos pins s σ H x v Q I rx q => h.tst pos pins s σ H x v Q I rx (i _ _ _ _ q)
def cLast (g : Dt → Dt → Option Dt) (mb : M Dt) : Dt → M Dt := fun x => bnd mb fun y => opt (g x y)
def cLink (g : Dt → Dt → Option Dt) (mb : M Dt) (c : Dt → M Dt) : Dt → M Dt := fun x => bnd mb fun y => bnd (opt (g x y)) fun z => match z with
  | .bl true => c y
  | .bl false => ret (.bl false)
  | _ => bad
theorem pcd_last {op : CmpOp} {g : Dt → Dt → Option Dt} {mb : M Dt} (ho : OpD X (compareOp op) g) (hb : PD X F W b mb) : PCD X F W [op] [b] (cLast g mb) := by
  obtain ⟨r, o, k⟩ := ho
  refine pch_imp (pch_last o hb) fun x σ H Q h => ?_
  obtain ⟨d, ρ, θ, Hs, st, rx, h⟩ := h
  refine then_D OkD.anti st h fun y dy H2 Hs2 θ2 s2 st2 r2 h => ?_
  obtain ⟨dd, e, q⟩ := post_opt h
  exact k d dy dd e Hs2 H2 x y Q st2.sub (Rep.mono s2 d rx) r2 fun v Hs' H' g1 r => q v H' Hs' g1.s (st2.grow g1) r
theorem pcd_link {op op' : CmpOp} {ops : List CmpOp} {e : Expr} {es : List Expr} {g : Dt → Dt → Option Dt} {mb : M Dt} {c : Dt → M Dt} (ho : OpD X (compareOp op) g) (hb : PD X F W b mb) (hr : PCD X F W (op' :: ops) (e :: es) c) : PCD X F W (op :: op' :: ops) (b :: e :: es) (cLink g mb c) := by
  obtain ⟨r, o, k⟩ := ho
  refine pch_imp (pch_link o hb hr) fun x σ H Q h => ?_
  obtain ⟨dx, ρ, θ, Hs, st, rx, h⟩ := h
  refine then_D OkD.anti st h fun y dy H2 Hs2 θ2 s2 st2 r2 h => ?_
  obtain ⟨d, e, q⟩ := post_opt (post_bnd h)
  refine k dx dy d e Hs2 H2 x y _ st2.sub (Rep.mono s2 dx rx) r2 fun v Hs3 H3 g1 r => ?_
  have st3 := st2.grow g1
  cases d with
  | bl kk =>
    refine ⟨kk, r, ?_⟩
    cases kk with
    | true =>
      refine iteT ?_
      exact ⟨dy, ρ, θ2, Hs3, st3, Rep.mono g1.s dy r2, Post.imp q (OkD.anti g1.s) (ExW.anti g1.s)⟩
    | false =>
      refine iteF ?_
      exact OkD.anti g1.s _ _ q _ H3 Hs3 (Same.refl _) st3 rfl
  | _ => exact q.elim
def mChn (ma : M Dt) (c : Dt → M Dt) : M Dt := bnd ma c
theorem pd_chn {op op' : CmpOp} {ops : List CmpOp} {e e' : Expr} {es : List Expr} {ma : M Dt} {c : Dt → M Dt} (ha : PD X F W a ma) (hc : PCD X F W (op :: op' :: ops) (e :: e' :: es) c) (hm : lastMarks (op :: op' :: ops) (e :: e' :: es) = false := by with_unfolding_all rfl) :
    PD X F W (.Compare a (op :: op' :: ops) (e :: e' :: es) pos) (mChn ma c) := by
  refine ⟨fun pins s σ H Q I h => ?_⟩
  obtain ⟨ρ, θ, Hs, st, h⟩ := h
  refine Compare_chain (thn (ha.run pins s σ H _ I (then_D OkD.anti st h fun x dx H1 Hs1 θ1 s1 st1 r1 h => ?_)) fun v s1 ⟨x, H1, I1, r1, q1⟩ => hc.val pos pins s1 σ H1 x v Q I1 r1 q1) hm
  exact ⟨dx, ρ, θ1, Hs1, st1, r1, h⟩
theorem pt_chn {op op' : CmpOp} {ops : List CmpOp} {e e' : Expr} {es : List Expr} {ma : M Dt} {c : Dt → M Dt} (ha : PD X F W a ma) (hc : PCD X F W (op :: op' :: ops) (e :: e' :: es) c) (hm : lastMarks (op :: op' :: ops) (e :: e' :: es) = false := by with_unfolding_all rfl) :
    PTD X F W (.Compare a (op :: op' :: ops) (e :: e' :: es) pos) (mBool (mChn ma c)) := by
  refine ⟨fun pins s σ H Q I h => ?_⟩
  obtain ⟨ρ, θ, Hs, st, h⟩ := bool_run h
  refine isTrue_chain (thn (ha.run pins s σ H _ I (then_D OkD.anti st h fun x dx H1 Hs1 θ1 s1 st1 r1 h => ?_)) fun v s1 ⟨x, H1, I1, r1, q1⟩ => hc.tst pos pins s1 σ H1 x v Q I1 r1 q1) hm
  exact ⟨dx, ρ, θ1, Hs1, st1, r1, h⟩
end
end Pd


namespace Pd
open PySem PySem.Spec PyProof.Rows L2
/-! ### return right(pot(script, 0)): the fresh list of two becomes the pot -/
section
variable {X : Cx} {F : Fr0} {W : WX} {a b c : Expr} {es : List Expr} {pos p : Pos} {x : Str}
def mLawR (f : Mir) (ml : M (List Dt)) : M Out := bnd ml fun l ρ θ => match l with
  | [.int i, .int j] => match f [.pot] (i, j) with
    | .ok (.d d) _ => .ok (.ret (.d d)) θ
    | _ => .bad
  | _ => .bad
def st_blank {K : PySem.W.Frag} {σ : L2.St} {H Hs H' Hs' : Hp} {ρ : DEnv} {θ θ' : Pot} {q : Addr} {v : V} (st : StOk K F σ H Hs ρ θ) (hap : F.ap ≠ some q) (h0 : F.H0 q = none) (e : FnEnd (some q) Hs H Hs' H' θ') : StOk K F σ H' Hs' (List.replicate ρ.length none) θ where
  sub := e.i
  hap := fun p h => (e.n p (st.apH h)).trans (st.hap p h)
  pot := fun p h => e.old p _ (fun z => hap (by rw [h]; exact z.symm)) (st.pot p h)
  old := fun b o h1 h2 => e.old b o (fun z => by cases z; rw [h0] at h2; cases h2) (st.old b o h1 h2)
  frs := fun b hb => (e.n b (st.H0H hb)).trans (st.frs b hb)
  dat := fun i d z => by rw [List.getElem?_replicate] at z; split at z <;> cases z
  own := fun i l z => by rw [List.getElem?_replicate] at z; split at z <;> cases z
  sep := fun i j l m a z => by rw [List.getElem?_replicate] at z; split at z <;> cases z
  pt := fun i z => by rw [List.getElem?_replicate] at z; split at z <;> cases z
  len := by rw [List.length_replicate]; exact st.len
theorem one_arg {P : Value → Prop} {v : V} {us : List Value} (r : Vals [v] us) (h : ∀ u, RelV v u → us = [u] → P u) : ∃ u, us = [u] ∧ P u := by
  cases r with
  | cons r rr =>
    cases rr
    exact ⟨_, rfl, h _ r rfl⟩
theorem lawR_call {k : Nat} {f : Addr} {fd : FuncData} {ps : List Str} {m : Mir} {ml : M (List Dt)} {e : Expr} (tk : Takes X W) (G : FnP X.prog X.w X.K X.mg X.base k f fd ps m) (hr : Room k X.A) (hg : X.A.guards = some []) (hm : X.mg x = some (.ref f)) (kp : PySem.W.keepIn X.K (.ref f) = true) (bt : Bt X.K fd ps 1 [] [] [0])
    (ha : PO X F W e ml) (hps : ps.length = 1) (gl : Gl X x)
    (hks : (backToKw pos (keywordEach [] X.env)).filterMap (·.1) = []) (hall : (backToKw pos (keywordEach [] X.env)).all (·.1.isSome) = true)
    (he : starEach [e] X.env = (false, eval e X.env) :: starEach [] X.env) (hpl : ((backTo pos (starEach [e] X.env)).any (·.1) || (backToKw pos (keywordEach [] X.env)).any (·.1.isNone)) = false) (hdb : (x == ("__debug__" : Str)) = false) :
    PE X (.Call (.Name x p) [e] [] pos) (fun σ H Q => tO X F W ml σ H fun v H1 => spF X.K X.mg ps.length m [v] H1 Q (fun c d H' => W c d σ H')) := by
  refine ⟨fun pins s σ H Q I h => ?_⟩
  refine wpAny_Call_Name_kw (ld_glob I gl hm ?_ hdb)
  have PA1 : PA X [e] (tCons (tO X F W ml) tNil) := pa_cons ha pa_nil he
  have h1 : tCons (tO X F W ml) tNil σ H (fun vs H1 => ∃ v, vs = [v] ∧ spF X.K X.mg ps.length m [v] H1 Q (fun c d H' => W c d σ H')) := by
    obtain ⟨ρ, θ, Hs, st, h⟩ := h
    exact ⟨ρ, θ, Hs, st, h.imp (fun l θ' q a xs H' Hs' s' st' e1 e2 e3 e4 e5 e6 => ⟨_, rfl, q a xs H' Hs' s' st' e1 e2 e3 e4 e5 e6⟩) fun _ _ _ z => z⟩
  have A1 := PA1.run pos pins s σ H _ I h1
  refine PySem.W.callWith_KW (h₀ := X.base) I.ok.mod.kin kp hall (thn A1 fun us s1 ⟨vs, H1, I1, r1, q1⟩ => ?_) hpl he
  obtain ⟨v, e1, q1⟩ := q1
  rw [e1] at r1
  have K1 := (pk_nil (X := X)).run pos pins s1 σ H1 (fun zs H2 => zs = [] ∧ H2 = H1) I1 ⟨rfl, rfl⟩
  refine thn K1 fun ws s2 ⟨zs, H2, I2, r2, q2⟩ => ⟨I2.kIn, ?_⟩
  obtain ⟨e2, e3⟩ := q2
  rw [e2] at r2
  rw [hks]
  have w0 : ws = [] := by cases r2; rfl
  obtain ⟨u, e4, q4⟩ := one_arg (P := fun u => us = [u] ∧ RelV v u) r1 fun u r e => ⟨e, r⟩
  rw [e4, w0]
  exact run_p G hr hg tk I2 (.cons q4.2 .nil) (bt s2 [u] [] I2.kIn rfl rfl) (by rw [e3]; exact q1)
theorem psd_lawR {pos2 : Pos} {k : Nat} {f : Addr} {fd : FuncData} {ps : List Str} {m : Mir} {ml : M (List Dt)} {e : Expr} (tk : Takes X W) (G : FnP X.prog X.w X.K X.mg X.base k f fd ps m) (hr : Room k X.A) (hg : X.A.guards = some []) (hm : X.mg x = some (.ref f)) (kp : PySem.W.keepIn X.K (.ref f) = true) (bt : Bt X.K fd ps 1 [] [] [0])
    (ha : PO X F W e ml) (hps : ps.length = 1 := by rfl) (gl : Gl X x := by rfl)
    (hks : (backToKw pos (keywordEach [] X.env)).filterMap (·.1) = [] := by rfl) (hall : (backToKw pos (keywordEach [] X.env)).all (·.1.isSome) = true := by rfl)
    (he : starEach [e] X.env = (false, eval e X.env) :: starEach [] X.env := by rfl) (hpl : ((backTo pos (starEach [e] X.env)).any (·.1) || (backToKw pos (keywordEach [] X.env)).any (·.1.isNone)) = false := by rfl) (hdb : (x == ("__debug__" : Str)) = false := by decide) :
    PSD X F W (.Return (some (.Call (.Name x p) [e] [] pos)) pos2) (mLawR m ml) := by
  refine ps_imp (ps_ret (lawR_call tk G hr hg hm kp bt ha hps gl hks hall he hpl hdb)) fun D σ H h => ?_
  · obtain ⟨ρ, θ, Hs, st, h⟩ := h
    refine then_O OkS.anti st h fun q xs l H1 Hs1 θ1 s1 st1 e1 e2 e3 e4 e5 e6 h => ?_
    split at h
    · rename_i i j
      refine ⟨hps.symm, some q, Hs1, [.pot], (i, j), st1.sub, fun p z => by cases z; exact e3, fun p z => by cases z; rw [e1, show xs = _ from Reps.ints (l := [i, j]) e2]; rfl, ⟨q, [], rfl, rfl, rfl⟩, ?_⟩
      cases em : m [.pot] (i, j) with
      | ok r θ2 =>
        rw [em] at h
        cases r with
        | d d => exact fun v H' Hs' fe rv => h σ H' Hs' fe.s _ v (st_blank (v := v) st1 e5 e4 fe) rv
        | o l => exact h.elim
      | exn x1 ρ1 θ1 => rw [em] at h; exact h.elim
      | bad => rw [em] at h; exact h.elim
    · exact h.elim
end

/-- no defaults: how the values come to the parameters -/
theorem bt0 {K : PySem.W.Frag} {x qual : Str} {params : Arguments} {body : List Stmt} {scope : Scope} {kws : List (Str × V)} {f : Addr} {fd : FuncData} {ps ks : List Str} {n : Nat} {is : List Nat} (D : FunD K x qual params body scope [] kws f fd)
    (h : ∀ (kV doc pm : Value) (an : Option Addr) (cdv ct : Value) (us ws : List Value), us.length = n → ws.length = ks.length → bindArgs (PySem.W.fnOf x qual params body scope .none kV doc pm an cdv ct) ⟨us, ks.zip ws⟩ = pure (ps.zip (pick is (us ++ (ws ++ []))))) : Bt K fd ps n ks [] is := by
  obtain ⟨oc, od, dV, kV, doc, pm, an, cdv, ct, osl, rfl, lk, hcd, hD, hK⟩ := D.ex
  rcases hD with ⟨_, rfl⟩ | ⟨e, _⟩
  · exact fun s us ws _ l1 l2 => .of_eq (h kV doc pm an cdv ct us ws l1 l2)
  · exact absurd rfl e
/-! ### the law's end -/
/-- the call of a law's def by its mirror -/
theorem lawP {P : Program} {w : World} {K : PySem.W.Frag} {mg mb : Str → Option Value} {k : Nat} {fa a : Addr} {fd : FuncData} {x : Str} {m : Mir} {s₁ : Shared} {vs : List Value} {ns : List Int}
    (kin : K.In s₁.heap) (glo : s₁.heap.Ns mainGlobals mg) (bui : s₁.heap.Ns builtinsNs mb) (boot : ∀ z : Str, z ≠ "__name__" → mb z = bootBuiltins z) (lim : s₁.heap.NoLimit) (nog : s₁.gens = #[])
    (there : s₁.heap.get? a = some { cls := .type "list", data := .seq vs.toArray }) (ints0 : IntsAre vs ns) (few : ns.length ≤ sizeLine) (room : Room k callerA)
    (G : ∀ base : Heap, K.In base → base.Ns mainGlobals mg → FnP P w K mg base k fa fd [x] m) (bind : ∀ (s : Shared) (u : Value), BindsTo s fd ⟨[u], []⟩ [(x, u)])
    (right : ∀ θ, ∃ θ', m [.dat (.lst (ns.map Dt.int))] θ = .ok (.d (.bl true)) θ') :
    codeAny (model P w) callerA (.call (.ref fa) ⟨[.ref a], []⟩) (fun r s' => r = .ok (.ret (.bool true)) ∧ OldK s₁.heap s'.heap ∧ s'.os = s₁.os ∧ AllBare s'.gens) s₁ := by
  have items := vals_ints ints0
  have many := ints0.length
  have go : ∀ H : Hp, Only H → SqL K H a (ns.map V.int) → HOk P w H s₁.heap → (∀ b, H b ≠ none → b = a) → (H a ≠ none → K.lookup a = none) → codeAny (model P w) callerA (.call (.ref fa) ⟨[.ref a], []⟩) (fun r s' => r = .ok (.ret (.bool true)) ∧ OldK s₁.heap s'.heap ∧ s'.os = s₁.os ∧ AllBare s'.gens) s₁ := by
    intro H only sq good sole apart
    have free : ∀ b, b ≠ a → H b = none := fun b n => Classical.byContradiction fun z => n (sole b z)
    have ns0 : ∀ {b : Addr} {g : Str → Option Value}, s₁.heap.Ns b g → (hidT s₁.heap H).Ns b g := fun {b g} ⟨o, es, ep, e, d, r⟩ => by
      refine ⟨o, es, ep, hidT_get e (free b fun z => ?_), d, r⟩
      rw [z, there] at e
      cases e
      cases (show Data.seq vs.toArray _ = Data.dict es ep from d)
    have kin0 : K.In (hidT s₁.heap H) := fun b o e => by
      refine hidT_get (kin b o e) (Classical.byContradiction fun z => ?_)
      have q := sole b z
      rw [q] at e z
      rw [apart z] at e
      cases e
    have md : Mod K mg (hidT s₁.heap H) := ⟨kin0, ns0 glo, ⟨mb, ns0 bui, boot⟩, by obtain ⟨mc, q1, q2⟩ := lim; exact ⟨mc, ns0 q1, q2⟩⟩
    have ev : Env0 P w K mg (hidT s₁.heap H) callerA [] s₁ H := ⟨rfl, md, fun b o e => of_hidT e, Nat.le_of_eq (hidT_size _ _), trivial, fun b hb => absurd (show b ∈ ([] : List Addr) from hb) (by simp), good, .of_eq nog⟩
    obtain ⟨θ', er⟩ := right (0, 0)
    have sp : spF K mg [x].length m [.ref a] H (fun v _ => v = .bl true) fun _ _ _ => False := by
      refine ⟨rfl, none, H, [.dat (.lst (ns.map Dt.int))], (0, 0), Same.refl _, nofun, nofun, ⟨.ref a, [], rfl, ⟨a, _, rfl, sq, Reps.of_ints ns⟩, rfl⟩, ?_⟩
      rw [er]
      exact fun v H' Hs' _ rv => rv
    have run := (G _ kin0 (ns0 glo)).run callerA [] s₁ H ⟨[.ref a], []⟩ [.ref a] [.ref a] _ _ room rfl ev (bind s₁ (.ref a)) (.cons rfl .nil) sp
    refine codeAny_mono run fun r s' h => ?_
    rcases r with e | (_ | _ | _ | u)
    · obtain ⟨_, _, _, _, _, _, _, _, _, _, _, _, z⟩ := h
      exact z.elim
    · exact False.elim h
    · exact False.elim h
    · exact False.elim h
    · obtain ⟨v, H', os, bare, un, good', rv, q⟩ := h
      obtain rfl : v = .bl true := q
      obtain rfl : u = Value.bool true := rv
      refine ⟨rfl, OldK.of_keep fun b o e => ?_, os, bare⟩
      cases hb : H b with
      | none => exact un.keep b o e hb (fun z => absurd (show b ∈ ([] : List Addr) from z) (by simp)) (by simp)
      | some u =>
        rcases only b with z | ⟨ob, xs, z⟩
        · exact absurd (hb.symm.trans z) nofun
        · obtain ⟨e1, _⟩ := good b _ z
          obtain ⟨e2, _⟩ := good' b _ (un.frzs b ob _ z)
          cases e.symm.trans e1
          exact e2
  cases hk : K.lookup a with
  | some o =>
    have e := kin a o hk
    rw [there] at e
    cases e
    exact go (fun _ => none) (fun _ => .inl rfl) (.inr ⟨_, vs.toArray, _, hk, rfl, rfl, rfl, by rw [List.size_toArray, many]; exact few, by simpa using items⟩) (fun b u z => nomatch (show (none : Option HO) = some u from z)) (fun b z => absurd rfl z) fun z => absurd rfl z
  | none =>
    refine go (upd (fun _ => none) a (.frz { cls := .type "list", data := .seq vs.toArray } (.lst (ns.map V.int)))) (fun b => ?_) (.inl (.inr ⟨_, upd_same⟩)) (fun b u z => ?_) (fun b z => Classical.byContradiction fun n => z (by rw [upd_ne n])) fun _ => hk
    · by_cases n : b = a
      · exact .inr ⟨_, _, by rw [n]; exact upd_same⟩
      · exact .inl (by rw [upd_ne n])
    · by_cases n : b = a
      · rw [n, upd_same] at z
        cases z
        rw [n]
        exact ⟨there, by rw [List.length_map]; exact few, vs, _, items, there⟩
      · rw [upd_ne n] at z
        cases z
/-- a law whose def has a mirror that says True of every script -/
theorem walkP {l : PySem.W.OpenLaw} {n k : Nat} {q : Program} {loose : List Str} {XP : (Str → Option Value) → Heap → Prop} {YP : World → Heap → Prop} {d : DefRec} {x : Str}
    (hn : l.most = some n) (hn2 : n ≤ sizeLine) (hdf : d.params.defaults = []) (hr : Room k callerA)
    (G : ∀ (w : World) (mg : Str → Option Value) (fa : Addr) (h : Heap), YP w h → h.Ns mainGlobals mg → mg d.name = some (.ref fa) →
      ∃ (K : PySem.W.Frag) (fd : FuncData) (m : Mir), K.In h ∧ (∀ (s : Shared) (u : Value), BindsTo s fd ⟨[u], []⟩ [(x, u)]) ∧ (∀ ns : List Int, ns.length ≤ n → ∀ θ, ∃ θ', m [.dat (.lst (ns.map Dt.int))] θ = .ok (.d (.bl true)) θ') ∧
        ∀ base : Heap, K.In base → base.Ns mainGlobals mg → FnP l.prog w K mg base k fa fd [x] m) :
    PySem.W.WalkO q loose XP YP l.row.toRowW d [] (fun f vs => PySem.call f vs) :=
  Att.attach_call hn hdf fun w s₀ s₁ mg mb fa o pm cd doc a vs ns Gr Y ho hd hcd hmg hobj hints hlen hg => by
    obtain ⟨K, fd, m, kin, bind, right, F⟩ := G w mg fa _ Y Gr.T.g hmg
    exact lawP kin Gr.T.g Gr.T.b Gr.T.builtins Gr.T.nolimit hg hobj hints (Nat.le_trans hlen hn2) hr F bind (right ns hlen)
end Pd


namespace Pd
open PySem PySem.Spec
/-! ### what a mirror gives: rules to simplify by -/
def Gv {α : Type} (r : Res α) (Q : α → Pot → Prop) : Prop := match r with
  | .ok a θ => Q a θ
  | _ => False
section
variable {α β : Type} {ρ : DEnv} {θ : Pot} {Q : α → Pot → Prop}
theorem Gv.imp {r : Res α} {Q Q' : α → Pot → Prop} (h : Gv r Q) (i : ∀ a θ, Q a θ → Q' a θ) : Gv r Q' := by
  cases r with
  | ok a θ => exact i a θ h
  | exn e ρ θ => exact h
  | bad => exact h
theorem Gv.ok {r : Res α} (h : Gv r Q) : ∃ a θ, r = .ok a θ ∧ Q a θ := by
  cases r with
  | ok a θ => exact ⟨a, θ, rfl, h⟩
  | exn e ρ θ => exact h.elim
  | bad => exact h.elim
theorem gv_ok (a : α) (θ : Pot) : Gv (.ok a θ) Q = Q a θ := rfl
theorem gv_bad : Gv (.bad : Res α) Q = False := rfl
theorem gv_ret (a : α) : Gv (ret a ρ θ) Q = Q a θ := rfl
theorem gv_opt (a : α) : Gv (opt (some a) ρ θ) Q = Q a θ := rfl
variable {ρ1 ρ2 : DEnv}
theorem gv_bnd (m : M β) (f : β → M α) : Gv (bnd m f ρ θ) Q = Gv (m ρ θ) fun a θ' => Gv (f a ρ θ') Q := by
  unfold bnd
  cases m ρ θ <;> rfl
theorem gv_varR (i : Nat) {Q : Dt → Pot → Prop} : Gv (mVar i ρ θ) Q = match ρ[i]? with
  | some (some (.dat d)) => Q d θ
  | _ => False := by
  unfold mVar
  rcases ρ[i]? with _ | _ | _ | _ | _ <;> rfl
def varK (x : Option (Option Ent)) (θ : Pot) (Q : Dt → Pot → Prop) : Prop := match x with
  | some (some (.dat d)) => Q d θ
  | _ => False
theorem gv_var (i : Nat) {Q : Dt → Pot → Prop} : Gv (mVar i ρ θ) Q = varK ρ[i]? θ Q := gv_varR i
theorem varK_d (d : Dt) {Q : Dt → Pot → Prop} : varK (some (some (.dat d))) θ Q = Q d θ := rfl
def potK (x : Option (Option Ent)) (p : Prop) : Prop := match x with
  | some (some .pot) => p
  | _ => False
theorem potK_p (p : Prop) : potK (some (some .pot)) p = p := rfl
def opK2 (g : Dt → Dt → Option Dt) (x : Dt) (ρ : DEnv) (Q : Dt → Pot → Prop) : Dt → Pot → Prop := fun y θ => Gv (opt (g x y) ρ θ) Q
def opK1 (g : Dt → Dt → Option Dt) (mb : M Dt) (ρ : DEnv) (Q : Dt → Pot → Prop) : Dt → Pot → Prop := fun x θ => Gv (mb ρ θ) (opK2 g x ρ Q)
theorem gv_op (g : Dt → Dt → Option Dt) (ma mb : M Dt) {Q : Dt → Pot → Prop} : Gv (mOp g ma mb ρ θ) Q = Gv (ma ρ θ) (opK1 g mb ρ Q) := by
  unfold mOp
  simp only [gv_bnd]
  rfl
theorem opK1_a (g : Dt → Dt → Option Dt) (mb : M Dt) (x : Dt) {Q : Dt → Pot → Prop} : opK1 g mb ρ Q x θ = Gv (mb ρ θ) (opK2 g x ρ Q) := rfl
theorem opK2_a (g : Dt → Dt → Option Dt) (x y : Dt) {Q : Dt → Pot → Prop} : opK2 g x ρ Q y θ = Gv (opt (g x y) ρ θ) Q := rfl
theorem gv_I (c : Int → Int → Bool) (g : Int → Int → Dt) (i j : Int) {Q : Dt → Pot → Prop} : Gv (opt (gI c g (.int i) (.int j)) ρ θ) Q = (c i j = true ∧ Q (g i j) θ) := by
  show Gv (opt (if c i j = true then some (g i j) else none) ρ θ) Q = _
  by_cases h : c i j = true
  · rw [if_pos h]
    exact propext ⟨fun q => ⟨h, q⟩, fun q => q.2⟩
  · rw [if_neg h]
    exact propext ⟨fun q => q.elim, fun q => h q.1⟩
theorem gv_eqI (i j : Int) {Q : Dt → Pot → Prop} : Gv (opt (gEq (.int i) (.int j)) ρ θ) Q = Q (.bl (decide (i = j))) θ := rfl
theorem gv_neI (i j : Int) {Q : Dt → Pot → Prop} : Gv (opt (gNe (.int i) (.int j)) ρ θ) Q = Q (.bl (!decide (i = j))) θ := rfl
def negK (Q : Dt → Pot → Prop) : Dt → Pot → Prop := fun x θ => match x with
  | .int i => Q (.int (-i)) θ
  | _ => False
theorem gv_neg (ma : M Dt) {Q : Dt → Pot → Prop} : Gv (mNeg ma ρ θ) Q = Gv (ma ρ θ) (negK Q) := by
  unfold mNeg
  rw [gv_bnd]
  congr 1
  funext x θ1
  cases x <;> rfl
theorem negK_a (i : Int) {Q : Dt → Pot → Prop} : negK Q (.int i) θ = Q (.int (-i)) θ := rfl
def boolK (Q : Bool → Pot → Prop) : Dt → Pot → Prop := fun x θ => match x with
  | .bl k => Q k θ
  | _ => False
theorem gv_bool (ma : M Dt) {Q : Bool → Pot → Prop} : Gv (mBool ma ρ θ) Q = Gv (ma ρ θ) (boolK Q) := by
  unfold mBool
  rw [gv_bnd]
  congr 1
  funext x θ1
  cases x <;> rfl
theorem boolK_a (k : Bool) {Q : Bool → Pot → Prop} : boolK Q (.bl k) θ = Q k θ := rfl
def notK (Q : Bool → Pot → Prop) : Bool → Pot → Prop := fun k θ => Q (!k) θ
theorem gv_not (ma : M Bool) {Q : Bool → Pot → Prop} : Gv (mNot ma ρ θ) Q = Gv (ma ρ θ) (notK Q) := by
  unfold mNot
  rw [gv_bnd]
  rfl
theorem notK_a (k : Bool) {Q : Bool → Pot → Prop} : notK Q k θ = Q (!k) θ := rfl
def brK (Q1 Q2 : Pot → Prop) : Bool → Pot → Prop := fun k θ => if k = true then Q1 θ else Q2 θ
theorem brK_t (Q1 Q2 : Pot → Prop) : brK Q1 Q2 true θ = Q1 θ := rfl
theorem brK_f (Q1 Q2 : Pot → Prop) : brK Q1 Q2 false θ = Q2 θ := rfl
theorem brK_d (Q1 Q2 : Pot → Prop) (p : Prop) [Decidable p] : brK Q1 Q2 (decide p) θ = ((p → Q1 θ) ∧ (¬p → Q2 θ)) := by
  unfold brK
  by_cases h : p
  · rw [decide_eq_true h, if_pos rfl]
    exact propext ⟨fun q => ⟨fun _ => q, fun z => absurd h z⟩, fun q => q.1 h⟩
  · rw [decide_eq_false h]
    exact propext ⟨fun q => ⟨fun z => absurd z h, fun _ => q⟩, fun q => q.2 h⟩
theorem brK_n (Q1 Q2 : Pot → Prop) (k : Bool) : brK Q1 Q2 (!k) θ = brK Q2 Q1 k θ := by cases k <;> rfl
def runP {α : Type} (m : M α) (ρ : DEnv) (Q : α → Pot → Prop) : Pot → Prop := fun θ => Gv (m ρ θ) Q
theorem runP_a (m : M α) : runP m ρ Q θ = Gv (m ρ θ) Q := rfl
def ansP {α : Type} (a : α) (Q : α → Pot → Prop) : Pot → Prop := fun θ => Q a θ
theorem ansP_a (a : α) : ansP a Q θ = Q a θ := rfl
theorem gv_and (ma mb : M Bool) {Q : Bool → Pot → Prop} : Gv (mAnd ma mb ρ θ) Q = Gv (ma ρ θ) (brK (runP mb ρ Q) (ansP false Q)) := by
  unfold mAnd
  rw [gv_bnd]
  congr 1
  funext k θ1
  cases k <;> rfl
theorem gv_or (ma mb : M Bool) {Q : Bool → Pot → Prop} : Gv (mOr ma mb ρ θ) Q = Gv (ma ρ θ) (brK (ansP true Q) (runP mb ρ Q)) := by
  unfold mOr
  rw [gv_bnd]
  congr 1
  funext k θ1
  cases k <;> rfl
theorem gv_andV (ma mb : M Dt) {Q : Dt → Pot → Prop} : Gv (mAndV ma mb ρ θ) Q = Gv (ma ρ θ) (boolK (brK (runP mb ρ Q) (ansP (.bl false) Q))) := by
  unfold mAndV
  rw [gv_bnd]
  congr 1
  funext x θ1
  cases x <;> try rfl
  rename_i k
  cases k <;> rfl
theorem gv_orV (ma mb : M Dt) {Q : Dt → Pot → Prop} : Gv (mOrV ma mb ρ θ) Q = Gv (ma ρ θ) (boolK (brK (ansP (.bl true) Q) (runP mb ρ Q))) := by
  unfold mOrV
  rw [gv_bnd]
  congr 1
  funext x θ1
  cases x <;> try rfl
  rename_i k
  cases k <;> rfl
def blK (Q : Dt → Pot → Prop) : Bool → Pot → Prop := fun k θ => Q (.bl k) θ
theorem blK_a (k : Bool) {Q : Dt → Pot → Prop} : blK Q k θ = Q (.bl k) θ := rfl
theorem gv_notV (ma : M Dt) {Q : Dt → Pot → Prop} : Gv (mNotV ma ρ θ) Q = Gv (ma ρ θ) (boolK (notK (blK Q))) := by
  unfold mNotV
  rw [gv_bnd]
  congr 1
  funext x θ1
  cases x <;> rfl
theorem gv_ite (mc : M Bool) (ma mb : M α) : Gv (mIte mc ma mb ρ θ) Q = Gv (mc ρ θ) (brK (runP ma ρ Q) (runP mb ρ Q)) := by
  unfold mIte
  rw [gv_bnd]
  congr 1
  funext k θ1
  cases k <;> rfl
theorem gv_if (mc : M Bool) (m n : M Out) {Q : Out → Pot → Prop} : Gv (mIf mc m n ρ θ) Q = Gv (mc ρ θ) (brK (runP m ρ Q) (runP n ρ Q)) := by
  unfold mIf
  rw [gv_bnd]
  congr 1
  funext k θ1
  cases k <;> rfl
def consK2 (x : Dt) (Q : List Dt → Pot → Prop) : List Dt → Pot → Prop := fun l θ => Q (x :: l) θ
def consK1 (mr : M (List Dt)) (ρ : DEnv) (Q : List Dt → Pot → Prop) : Dt → Pot → Prop := fun x θ => Gv (mr ρ θ) (consK2 x Q)
theorem gv_nil {Q : List Dt → Pot → Prop} : Gv (mNil ρ θ) Q = Q [] θ := rfl
theorem gv_cons (ma : M Dt) (mr : M (List Dt)) {Q : List Dt → Pot → Prop} : Gv (mCons ma mr ρ θ) Q = Gv (ma ρ θ) (consK1 mr ρ Q) := by
  unfold mCons
  simp only [gv_bnd, gv_ret]
  rfl
theorem consK1_a (mr : M (List Dt)) (x : Dt) {Q : List Dt → Pot → Prop} : consK1 mr ρ Q x θ = Gv (mr ρ θ) (consK2 x Q) := rfl
theorem consK2_a (x : Dt) (l : List Dt) {Q : List Dt → Pot → Prop} : consK2 x Q l θ = Q (x :: l) θ := rfl
def mapK {β : Type} (f : β → α) (Q : α → Pot → Prop) : β → Pot → Prop := fun b θ => Q (f b) θ
theorem mapK_a (f : β → α) (b : β) : mapK f Q b θ = Q (f b) θ := rfl
theorem gv_tup (ml : M (List Dt)) {Q : Dt → Pot → Prop} : Gv (mTup ml ρ θ) Q = Gv (ml ρ θ) (mapK Dt.tup Q) := by
  unfold mTup
  simp only [gv_bnd, gv_ret]
  rfl
theorem gv_lst (ml : M (List Dt)) {Q : Dt → Pot → Prop} : Gv (mLst ml ρ θ) Q = Gv (ml ρ θ) (mapK Dt.lst Q) := by
  unfold mLst
  simp only [gv_bnd, gv_ret]
  rfl
def optK {β : Type} (g : β → Option α) (ρ : DEnv) (Q : α → Pot → Prop) : β → Pot → Prop := fun l θ => Gv (opt (g l) ρ θ) Q
theorem optK_a (g : β → Option α) (l : β) : optK g ρ Q l θ = Gv (opt (g l) ρ θ) Q := rfl
theorem gv_B (g : List Dt → Option Dt) (ml : M (List Dt)) {Q : Dt → Pot → Prop} : Gv (mB g ml ρ θ) Q = Gv (ml ρ θ) (optK g ρ Q) := by
  unfold mB
  simp only [gv_bnd]
  rfl
def chnK (c : Dt → M Dt) (ρ : DEnv) (Q : Dt → Pot → Prop) : Dt → Pot → Prop := fun x θ => Gv (c x ρ θ) Q
theorem gv_chn (ma : M Dt) (c : Dt → M Dt) {Q : Dt → Pot → Prop} : Gv (mChn ma c ρ θ) Q = Gv (ma ρ θ) (chnK c ρ Q) := by
  unfold mChn
  simp only [gv_bnd]
  rfl
theorem chnK_a (c : Dt → M Dt) (x : Dt) {Q : Dt → Pot → Prop} : chnK c ρ Q x θ = Gv (c x ρ θ) Q := rfl
theorem gv_last (g : Dt → Dt → Option Dt) (mb : M Dt) (x : Dt) {Q : Dt → Pot → Prop} : Gv (cLast g mb x ρ θ) Q = Gv (mb ρ θ) (opK2 g x ρ Q) := by
  unfold cLast
  simp only [gv_bnd]
  rfl
def linkK (g : Dt → Dt → Option Dt) (c : Dt → M Dt) (x : Dt) (ρ : DEnv) (Q : Dt → Pot → Prop) : Dt → Pot → Prop := fun y θ => Gv (opt (g x y) ρ θ) (boolK (brK (runP (c y) ρ Q) (ansP (.bl false) Q)))
theorem gv_link (g : Dt → Dt → Option Dt) (mb : M Dt) (c : Dt → M Dt) (x : Dt) {Q : Dt → Pot → Prop} : Gv (cLink g mb c x ρ θ) Q = Gv (mb ρ θ) (linkK g c x ρ Q) := by
  unfold cLink
  simp only [gv_bnd]
  congr 1
  funext y θ1
  unfold linkK
  congr 1
  funext z θ2
  cases z <;> try rfl
  rename_i k
  cases k <;> rfl
theorem linkK_a (g : Dt → Dt → Option Dt) (c : Dt → M Dt) (x y : Dt) {Q : Dt → Pot → Prop} : linkK g c x ρ Q y θ = Gv (opt (g x y) ρ θ) (boolK (brK (runP (c y) ρ Q) (ansP (.bl false) Q))) := rfl
def isiF (n : String) (x : Dt) : Option Dt := (isT n x).map Dt.bl
theorem gv_isi (n : String) (ma : M Dt) {Q : Dt → Pot → Prop} : Gv (mIsi n ma ρ θ) Q = Gv (ma ρ θ) (optK (isiF n) ρ Q) := by
  unfold mIsi
  simp only [gv_bnd]
  rfl
theorem isi_ii (i : Int) {Q : Dt → Pot → Prop} : Gv (opt ((isiF "int") (.int i)) ρ θ) Q = Q (.bl true) θ := rfl
theorem isi_bi (i : Int) {Q : Dt → Pot → Prop} : Gv (opt ((isiF "bool") (.int i)) ρ θ) Q = Q (.bl false) θ := rfl
theorem isi_tt (l : List Dt) {Q : Dt → Pot → Prop} : Gv (opt ((isiF "tuple") (.tup l)) ρ θ) Q = Q (.bl true) θ := rfl
theorem isi_ll (l : List Dt) {Q : Dt → Pot → Prop} : Gv (opt ((isiF "list") (.lst l)) ρ θ) Q = Q (.bl true) θ := rfl
theorem isi_ss (s : Str) {Q : Dt → Pot → Prop} : Gv (opt ((isiF "str") (.str s)) ρ θ) Q = Q (.bl true) θ := rfl
theorem isi_ti (i : Int) {Q : Dt → Pot → Prop} : Gv (opt ((isiF "tuple") (.int i)) ρ θ) Q = Q (.bl false) θ := rfl
theorem isi_li (i : Int) {Q : Dt → Pot → Prop} : Gv (opt ((isiF "list") (.int i)) ρ θ) Q = Q (.bl false) θ := rfl
theorem isi_si (i : Int) {Q : Dt → Pot → Prop} : Gv (opt ((isiF "str") (.int i)) ρ θ) Q = Q (.bl false) θ := rfl
theorem isi_tl (l : List Dt) {Q : Dt → Pot → Prop} : Gv (opt ((isiF "tuple") (.lst l)) ρ θ) Q = Q (.bl false) θ := rfl
theorem isi_lt (l : List Dt) {Q : Dt → Pot → Prop} : Gv (opt ((isiF "list") (.tup l)) ρ θ) Q = Q (.bl false) θ := rfl
theorem isi_it (l : List Dt) {Q : Dt → Pot → Prop} : Gv (opt ((isiF "int") (.tup l)) ρ θ) Q = Q (.bl false) θ := rfl
theorem isi_il (l : List Dt) {Q : Dt → Pot → Prop} : Gv (opt ((isiF "int") (.lst l)) ρ θ) Q = Q (.bl false) θ := rfl
theorem isi_is (s : Str) {Q : Dt → Pot → Prop} : Gv (opt ((isiF "int") (.str s)) ρ θ) Q = Q (.bl false) θ := rfl
theorem isi_bs (s : Str) {Q : Dt → Pot → Prop} : Gv (opt ((isiF "bool") (.str s)) ρ θ) Q = Q (.bl false) θ := rfl
theorem isi_ib (b : Bool) {Q : Dt → Pot → Prop} : Gv (opt ((isiF "int") (.bl b)) ρ θ) Q = Q (.bl true) θ := rfl
theorem isi_bb (b : Bool) {Q : Dt → Pot → Prop} : Gv (opt ((isiF "bool") (.bl b)) ρ θ) Q = Q (.bl true) θ := rfl
theorem isi_st (l : List Dt) {Q : Dt → Pot → Prop} : Gv (opt ((isiF "str") (.tup l)) ρ θ) Q = Q (.bl false) θ := rfl
theorem isi_sl (l : List Dt) {Q : Dt → Pot → Prop} : Gv (opt ((isiF "str") (.lst l)) ρ θ) Q = Q (.bl false) θ := rfl
def sqK (n : M Out) (Q : Out → Pot → Prop) : Out → Pot → Prop := fun o θ => match o with
  | .next ρ1 => Gv (n ρ1 θ) Q
  | o => Q o θ
theorem gv_seq (m n : M Out) {Q : Out → Pot → Prop} : Gv (mSeq m n ρ θ) Q = Gv (m ρ θ) (sqK n Q) := by
  unfold mSeq
  cases m ρ θ with
  | ok o θ1 => cases o <;> rfl
  | exn e ρ θ => rfl
  | bad => rfl
theorem sqK_n (n : M Out) (ρ : DEnv) {Q : Out → Pot → Prop} : sqK n Q (.next ρ) θ = Gv (n ρ θ) Q := rfl
theorem sqK_r (n : M Out) (r : Ret) {Q : Out → Pot → Prop} : sqK n Q (.ret r) θ = Q (.ret r) θ := rfl
theorem sqK_b (n : M Out) (ρ : DEnv) {Q : Out → Pot → Prop} : sqK n Q (.brk ρ) θ = Q (.brk ρ) θ := rfl
theorem sqK_c (n : M Out) (ρ : DEnv) {Q : Out → Pot → Prop} : sqK n Q (.cnt ρ) θ = Q (.cnt ρ) θ := rfl
theorem gv_next {Q : Out → Pot → Prop} : Gv (mNext ρ θ) Q = Q (.next ρ) θ := rfl
theorem gv_brk {Q : Out → Pot → Prop} : Gv (mBrk ρ θ) Q = Q (.brk ρ) θ := rfl
theorem gv_cnt {Q : Out → Pot → Prop} : Gv (mCnt ρ θ) Q = Q (.cnt ρ) θ := rfl
theorem gv_retN {Q : Out → Pot → Prop} : Gv (mRetN ρ θ) Q = Q (.ret (.d .non)) θ := rfl
def setK (i : Nat) (ρ : DEnv) (Q : Out → Pot → Prop) : Dt → Pot → Prop := fun d θ => Q (.next (ρ.set i (some (.dat d)))) θ
theorem gv_set (i : Nat) (ma : M Dt) {Q : Out → Pot → Prop} : Gv (mSet i ma ρ θ) Q = Gv (ma ρ θ) (setK i ρ Q) := by
  unfold mSet
  rw [gv_bnd]
  rfl
theorem setK_a (i : Nat) (d : Dt) {Q : Out → Pot → Prop} : setK i ρ Q d θ = Q (.next (ρ.set i (some (.dat d)))) θ := rfl
def parK (is : List Nat) (ρ : DEnv) (Q : Out → Pot → Prop) : List Dt → Pot → Prop := fun l θ => l.length = is.length ∧ Q (.next ((is.zip l).foldl (fun ρ p => ρ.set p.1 (some (.dat p.2))) ρ)) θ
theorem gv_par (is : List Nat) (ml : M (List Dt)) {Q : Out → Pot → Prop} : Gv (mPar is ml ρ θ) Q = Gv (ml ρ θ) (parK is ρ Q) := by
  unfold mPar
  rw [gv_bnd]
  congr 1
  funext l θ1
  unfold parK
  by_cases h : l.length = is.length
  · rw [if_pos h]
    exact propext ⟨fun q => ⟨h, q⟩, fun q => q.2⟩
  · rw [if_neg h]
    exact propext ⟨fun q => q.elim, fun q => h q.1⟩
theorem parK_2 (i j : Nat) (x y : Dt) {Q : Out → Pot → Prop} : parK [i, j] ρ Q [x, y] θ = Q (.next ((ρ.set i (some (.dat x))).set j (some (.dat y)))) θ := propext ⟨fun q => q.2, fun q => ⟨rfl, q⟩⟩
theorem parK_3 (i j k : Nat) (x y z : Dt) {Q : Out → Pot → Prop} : parK [i, j, k] ρ Q [x, y, z] θ = Q (.next (((ρ.set i (some (.dat x))).set j (some (.dat y))).set k (some (.dat z)))) θ := propext ⟨fun q => q.2, fun q => ⟨rfl, q⟩⟩
def asgR (x : Option DEnv) (θ : Pot) (Q : Out → Pot → Prop) : Prop := match x with
  | some ρ' => Q (.next ρ') θ
  | none => False
def asgK (T : Tgt) (ρ : DEnv) (Q : Out → Pot → Prop) : Dt → Pot → Prop := fun d θ => asgR (bindT T d ρ) θ Q
theorem gv_asg (T : Tgt) (ma : M Dt) {Q : Out → Pot → Prop} : Gv (mAsg T ma ρ θ) Q = Gv (ma ρ θ) (asgK T ρ Q) := by
  unfold mAsg
  rw [gv_bnd]
  congr 1
  funext d θ1
  unfold asgK
  cases bindT T d ρ <;> rfl
theorem asgK_a (T : Tgt) (d : Dt) {Q : Out → Pot → Prop} : asgK T ρ Q d θ = asgR (bindT T d ρ) θ Q := rfl
theorem asgR_s (ρ : DEnv) {Q : Out → Pot → Prop} : asgR (some ρ) θ Q = Q (.next ρ) θ := rfl
theorem bindT_n (i : Nat) (d : Dt) : bindT (.n i) d ρ = some (ρ.set i (some (.dat d))) := rfl
theorem bindT_2 (i j : Nat) (x y : Dt) : bindT (.t [i, j]) (.tup [x, y]) ρ = some ((ρ.set i (some (.dat x))).set j (some (.dat y))) := rfl
theorem bindT_3 (i j k : Nat) (x y z : Dt) : bindT (.t [i, j, k]) (.tup [x, y, z]) ρ = some (((ρ.set i (some (.dat x))).set j (some (.dat y))).set k (some (.dat z))) := rfl
def retK (Q : Out → Pot → Prop) : Dt → Pot → Prop := fun d θ => Q (.ret (.d d)) θ
theorem gv_retS (ma : M Dt) {Q : Out → Pot → Prop} : Gv (mRet ma ρ θ) Q = Gv (ma ρ θ) (retK Q) := by
  unfold mRet
  rw [gv_bnd]
  rfl
theorem retK_a (d : Dt) {Q : Out → Pot → Prop} : retK Q d θ = Q (.ret (.d d)) θ := rfl
def retOK (Q : Out → Pot → Prop) : List Dt → Pot → Prop := fun d θ => Q (.ret (.o d)) θ
theorem gv_retO (ma : M (List Dt)) {Q : Out → Pot → Prop} : Gv (mRetO ma ρ θ) Q = Gv (ma ρ θ) (retOK Q) := by
  unfold mRetO
  rw [gv_bnd]
  rfl
theorem retOK_a (d : List Dt) {Q : Out → Pot → Prop} : retOK Q d θ = Q (.ret (.o d)) θ := rfl
def fnK (Q : Ret → Pot → Prop) : Out → Pot → Prop := fun o θ => match o with
  | .next _ => Q (.d .non) θ
  | .ret r => Q r θ
  | _ => False
theorem gv_fn (n : Nat) (m : M Out) (es : List Ent) {Q : Ret → Pot → Prop} : Gv (mFn n m es θ) Q = Gv (m (es.map some ++ List.replicate (n - es.length) none) θ) (fnK Q) := by
  unfold mFn
  cases m (es.map some ++ List.replicate (n - es.length) none) θ with
  | ok o θ1 => cases o <;> rfl
  | exn e ρ θ => rfl
  | bad => rfl
theorem fnK_n (ρ : DEnv) {Q : Ret → Pot → Prop} : fnK Q (.next ρ) θ = Q (.d .non) θ := rfl
theorem fnK_r (r : Ret) {Q : Ret → Pot → Prop} : fnK Q (.ret r) θ = Q r θ := rfl
def ecK2 (x : Dt) (Q : List Ent → Pot → Prop) : List Ent → Pot → Prop := fun l θ => Q (.dat x :: l) θ
def ecK1 (mr : M (List Ent)) (ρ : DEnv) (Q : List Ent → Pot → Prop) : Dt → Pot → Prop := fun x θ => Gv (mr ρ θ) (ecK2 x Q)
def epK (Q : List Ent → Pot → Prop) : List Ent → Pot → Prop := fun l θ => Q (.pot :: l) θ
theorem gv_enil {Q : List Ent → Pot → Prop} : Gv (mENil ρ θ) Q = Q [] θ := rfl
theorem gv_econs (ma : M Dt) (mr : M (List Ent)) {Q : List Ent → Pot → Prop} : Gv (mECons ma mr ρ θ) Q = Gv (ma ρ θ) (ecK1 mr ρ Q) := by
  unfold mECons
  simp only [gv_bnd, gv_ret]
  rfl
theorem ecK1_a (mr : M (List Ent)) (x : Dt) {Q : List Ent → Pot → Prop} : ecK1 mr ρ Q x θ = Gv (mr ρ θ) (ecK2 x Q) := rfl
theorem ecK2_a (x : Dt) (l : List Ent) {Q : List Ent → Pot → Prop} : ecK2 x Q l θ = Q (.dat x :: l) θ := rfl
theorem gv_epot (i : Nat) (mr : M (List Ent)) {Q : List Ent → Pot → Prop} : Gv (mEPot i mr ρ θ) Q = potK ρ[i]? (Gv (mr ρ θ) (epK Q)) := by
  unfold mEPot
  rcases ρ[i]? with _ | _ | _ | _ | _ <;> try rfl
  show Gv (bnd mr (fun l => ret (.pot :: l)) ρ θ) Q = _
  rw [gv_bnd]
  rfl
theorem epK_a (l : List Ent) {Q : List Ent → Pot → Prop} : epK Q l θ = Q (.pot :: l) θ := rfl
def rdK (Q : Dt → Pot → Prop) : Ret → Pot → Prop := fun v θ => match v with
  | .d d => Q d θ
  | .o l => Q (.lst l) θ
def roK (Q : List Dt → Pot → Prop) : Ret → Pot → Prop := fun v θ => match v with
  | .d _ => False
  | .o l => Q l θ
theorem rdK_d (d : Dt) {Q : Dt → Pot → Prop} : rdK Q (.d d) θ = Q d θ := rfl
theorem rdK_o (d : List Dt) {Q : Dt → Pot → Prop} : rdK Q (.o d) θ = Q (.lst d) θ := rfl
theorem roK_o (d : List Dt) {Q : List Dt → Pot → Prop} : roK Q (.o d) θ = Q d θ := rfl
def cK2 (f : Mir) (des : List Ent) (is : List Nat) (l : List Ent) (Q : Dt → Pot → Prop) : List Ent → Pot → Prop := fun r θ => Gv (f (pick is (l ++ (r ++ des))) θ) (rdK Q)
def cK1 (f : Mir) (des : List Ent) (is : List Nat) (mk : M (List Ent)) (ρ : DEnv) (Q : Dt → Pot → Prop) : List Ent → Pot → Prop := fun l θ => Gv (mk ρ θ) (cK2 f des is l Q)
theorem gv_call (f : Mir) (des : List Ent) (is : List Nat) (ma mk : M (List Ent)) {Q : Dt → Pot → Prop} : Gv (mCallD f des is ma mk ρ θ) Q = Gv (ma ρ θ) (cK1 f des is mk ρ Q) := by
  unfold mCallD
  simp only [gv_bnd]
  congr 1
  funext l θ1
  unfold cK1
  congr 1
  funext r θ2
  unfold cK2 callD
  cases f (pick is (l ++ (r ++ des))) θ2 with
  | ok v θ3 => cases v <;> rfl
  | exn e ρ θ => rfl
  | bad => rfl
theorem cK1_a (f : Mir) (des : List Ent) (is : List Nat) (mk : M (List Ent)) (l : List Ent) {Q : Dt → Pot → Prop} : cK1 f des is mk ρ Q l θ = Gv (mk ρ θ) (cK2 f des is l Q) := rfl
theorem cK2_a (f : Mir) (des : List Ent) (is : List Nat) (l r : List Ent) {Q : Dt → Pot → Prop} : cK2 f des is l Q r θ = Gv (f (pick is (l ++ (r ++ des))) θ) (rdK Q) := rfl
def coK2 (f : Mir) (des : List Ent) (is : List Nat) (l : List Ent) (Q : List Dt → Pot → Prop) : List Ent → Pot → Prop := fun r θ => Gv (f (pick is (l ++ (r ++ des))) θ) (roK Q)
def coK1 (f : Mir) (des : List Ent) (is : List Nat) (mk : M (List Ent)) (ρ : DEnv) (Q : List Dt → Pot → Prop) : List Ent → Pot → Prop := fun l θ => Gv (mk ρ θ) (coK2 f des is l Q)
theorem gv_callO (f : Mir) (des : List Ent) (is : List Nat) (ma mk : M (List Ent)) {Q : List Dt → Pot → Prop} : Gv (mCallO f des is ma mk ρ θ) Q = Gv (ma ρ θ) (coK1 f des is mk ρ Q) := by
  unfold mCallO
  simp only [gv_bnd]
  congr 1
  funext l θ1
  unfold coK1
  congr 1
  funext r θ2
  unfold coK2 callO
  cases f (pick is (l ++ (r ++ des))) θ2 with
  | ok v θ3 => cases v <;> rfl
  | exn e ρ θ => rfl
  | bad => rfl
theorem coK1_a (f : Mir) (des : List Ent) (is : List Nat) (mk : M (List Ent)) (l : List Ent) {Q : List Dt → Pot → Prop} : coK1 f des is mk ρ Q l θ = Gv (mk ρ θ) (coK2 f des is l Q) := rfl
theorem coK2_a (f : Mir) (des : List Ent) (is : List Nat) (l r : List Ent) {Q : List Dt → Pot → Prop} : coK2 f des is l Q r θ = Gv (f (pick is (l ++ (r ++ des))) θ) (roK Q) := rfl
theorem gv_lawR (f : Mir) (ml : M (List Dt)) {Q : Out → Pot → Prop} : Gv (mLawR f ml ρ θ) Q = Gv (ml ρ θ) fun l θ1 => match l with
  | [.int i, .int j] => Gv (f [.pot] (i, j)) fun r _ => match r with
    | .d d => Q (.ret (.d d)) θ1
    | .o _ => False
  | _ => False := by
  unfold mLawR
  rw [gv_bnd]
  congr 1
  funext l θ1
  match l with
  | [] => rfl
  | [.int i] => rfl
  | [.int i, .int j] =>
    dsimp only
    cases f [.pot] (i, j) with
    | ok v θ3 => cases v <;> rfl
    | exn e ρ θ => rfl
    | bad => rfl
  | .int i :: .int j :: _ :: _ => rfl
  | .int i :: .non :: _ => rfl
  | .int i :: .bl _ :: _ => rfl
  | .int i :: .str _ :: _ => rfl
  | .int i :: .lst _ :: _ => rfl
  | .int i :: .tup _ :: _ => rfl
  | .int i :: .raw _ :: _ => rfl
  | .non :: _ => rfl
  | .bl _ :: _ => rfl
  | .str _ :: _ => rfl
  | .lst _ :: _ => rfl
  | .tup _ :: _ => rfl
  | .raw _ :: _ => rfl
def potIK (k : Nat) (θ : Pot) : Dt := .int (if k = 0 then θ.1 else θ.2)
theorem gv_potI (i k : Nat) {Q : Dt → Pot → Prop} : Gv (mPotI i k ρ θ) Q = potK ρ[i]? (Q (potIK k θ) θ) := by
  unfold mPotI
  rcases ρ[i]? with _ | _ | _ | _ | _ <;> rfl
theorem potI_0 : potIK 0 θ = .int θ.1 := rfl
theorem potI_1 : potIK 1 θ = .int θ.2 := rfl
def potSK (i : Nat) (ρ : DEnv) (Q : Out → Pot → Prop) : Dt → Pot → Prop := fun d θ => match d with
  | .int n => potK ρ[i]? (Q (.next ρ) (θ.1, n))
  | _ => False
theorem gv_potS (i : Nat) (ma : M Dt) {Q : Out → Pot → Prop} : Gv (mPotS i ma ρ θ) Q = Gv (ma ρ θ) (potSK i ρ Q) := by
  unfold mPotS
  rw [gv_bnd]
  congr 1
  funext d θ1
  unfold potSK
  cases d <;> rcases ρ[i]? with _ | _ | _ | _ | _ <;> rfl
theorem potSK_a (i : Nat) (n : Int) {Q : Out → Pot → Prop} : potSK i ρ Q (.int n) θ = potK ρ[i]? (Q (.next ρ) (θ.1, n)) := rfl
def potDK (j : Nat) (i1 : Int) (ρ : DEnv) (Q : Out → Pot → Prop) : Dt → Pot → Prop := fun d θ => match d with
  | .int n => (0 < n ∧ small n = true) ∧ Q (.next (ρ.set j (some (.dat (.int (i1 % n)))))) (i1 / n, θ.2)
  | _ => False
theorem gv_potD (i j : Nat) (mb : M Dt) {Q : Out → Pot → Prop} : Gv (mPotD i j mb ρ θ) Q = potK ρ[i]? (Gv (mb ρ θ) (potDK j θ.1 ρ Q)) := by
  unfold mPotD
  rcases ρ[i]? with _ | _ | _ | _ | _ <;> try rfl
  show Gv (bnd mb _ ρ θ) Q = Gv (mb ρ θ) (potDK j θ.1 ρ Q)
  rw [gv_bnd]
  congr 1
  funext d θ1
  unfold potDK
  cases d with
  | int n =>
    dsimp only
    by_cases h : (decide (0 < n) && small n) = true
    · rw [if_pos h]
      exact propext ⟨fun q => ⟨by simpa using h, q⟩, fun q => q.2⟩
    · rw [if_neg h]
      exact propext ⟨fun q => q.elim, fun q => h (by simpa using q.1)⟩
  | _ => rfl
theorem potDK_a (j : Nat) (i1 n : Int) {Q : Out → Pot → Prop} : potDK j i1 ρ Q (.int n) θ = ((0 < n ∧ small n = true) ∧ Q (.next (ρ.set j (some (.dat (.int (i1 % n)))))) (i1 / n, θ.2)) := rfl
theorem gv_rng (g : List Dt → Option (List Dt)) (ml : M (List Dt)) {Q : List Dt → Pot → Prop} : Gv (mRng g ml ρ θ) Q = Gv (ml ρ θ) (optK g ρ Q) := by
  unfold mRng
  rw [gv_bnd]
  rfl
theorem gv_seqI (ma : M Dt) {Q : List Dt → Pot → Prop} : Gv (mSeqI ma ρ θ) Q = Gv (ma ρ θ) (optK seqOf ρ Q) := by
  unfold mSeqI
  rw [gv_bnd]
  rfl
theorem seqOf_l (l : List Dt) {Q : List Dt → Pot → Prop} : Gv (opt (seqOf (.lst l)) ρ θ) Q = Q l θ := rfl
theorem seqOf_t (l : List Dt) {Q : List Dt → Pot → Prop} : Gv (opt (seqOf (.tup l)) ρ θ) Q = Q l θ := rfl
def forK (T : Tgt) (body : M Out) (ρ : DEnv) (Q : Out → Pot → Prop) : List Dt → Pot → Prop := fun l θ => Gv (forGo T body l ρ θ) Q
theorem gv_for (T : Tgt) (ms : M (List Dt)) (body : M Out) {Q : Out → Pot → Prop} : Gv (mFor T ms body ρ θ) Q = Gv (ms ρ θ) (forK T body ρ Q) := by
  unfold mFor
  rw [gv_bnd]
  rfl
theorem forK_a (T : Tgt) (body : M Out) (l : List Dt) {Q : Out → Pot → Prop} : forK T body ρ Q l θ = Gv (forGo T body l ρ θ) Q := rfl
theorem gv_go0 (T : Tgt) (body : M Out) {Q : Out → Pot → Prop} : Gv (forGo T body [] ρ θ) Q = Q (.next ρ) θ := rfl
theorem gv_go1 (T : Tgt) (body : M Out) (d : Dt) (ds : List Dt) {Q : Out → Pot → Prop} : Gv (forGo T body (d :: ds) ρ θ) Q = match bindT T d ρ with
  | none => False
  | some ρ1 => Gv (body ρ1 θ) fun o θ2 => (match o with
    | .next ρ2 => Gv (forGo T body ds ρ2 θ2) Q
    | .cnt ρ2 => Gv (forGo T body ds ρ2 θ2) Q
    | .brk ρ2 => Q (.next ρ2) θ2
    | r => Q r θ2) := by
  rw [forGo]
  dsimp only
  cases bindT T d ρ with
  | none => rfl
  | some ρ1 =>
    dsimp only
    cases body ρ1 θ with
    | ok o θ1 => cases o <;> rfl
    | exn e ρ θ => rfl
    | bad => rfl
/-- a loop by what holds ahead of each turn -/
theorem gv_for_inv {T : Tgt} {body : M Out} {Q : Out → Pot → Prop} (I : List Dt → DEnv → Pot → Prop) (h0 : ∀ ρ θ, I [] ρ θ → Q (.next ρ) θ)
    (h1 : ∀ d ds ρ θ, I (d :: ds) ρ θ → ∃ ρ1, bindT T d ρ = some ρ1 ∧ Gv (body ρ1 θ) fun o θ2 => match o with
      | .next ρ2 => I ds ρ2 θ2
      | .cnt ρ2 => I ds ρ2 θ2
      | .brk ρ2 => Q (.next ρ2) θ2
      | r => Q r θ2) : ∀ (l : List Dt) (ρ : DEnv) (θ : Pot), I l ρ θ → Gv (forGo T body l ρ θ) Q
  | [], ρ, θ, h => h0 ρ θ h
  | d :: ds, ρ, θ, h => by
    obtain ⟨ρ1, e, q⟩ := h1 d ds ρ θ h
    rw [gv_go1, e]
    refine q.imp fun o θ2 z => ?_
    cases o with
    | next ρ2 => exact gv_for_inv I h0 h1 ds ρ2 θ2 z
    | cnt ρ2 => exact gv_for_inv I h0 h1 ds ρ2 θ2 z
    | brk ρ2 => exact z
    | ret r => exact z
def compK (T : Tgt) (vs : List Nat) (tt : M Bool) (elt : M Dt) (ρ : DEnv) (Q : List Dt → Pot → Prop) : List Dt → Pot → Prop := fun l θ => l.length < bigL ∧ Gv (compGo T vs tt elt l ρ θ) Q
theorem gv_comp (T : Tgt) (vs : List Nat) (ms : M (List Dt)) (tt : M Bool) (elt : M Dt) {Q : List Dt → Pot → Prop} : Gv (mComp T vs ms tt elt ρ θ) Q = Gv (ms ρ θ) (compK T vs tt elt ρ Q) := by
  unfold mComp
  rw [gv_bnd]
  congr 1
  funext l θ1
  unfold compK
  by_cases h : l.length < bigL
  · rw [if_pos h]
    exact propext ⟨fun q => ⟨h, q⟩, fun q => q.2⟩
  · rw [if_neg h]
    exact propext ⟨fun q => q.elim, fun q => h q.1⟩
theorem compK_a (T : Tgt) (vs : List Nat) (tt : M Bool) (elt : M Dt) (l : List Dt) {Q : List Dt → Pot → Prop} : compK T vs tt elt ρ Q l θ = (l.length < bigL ∧ Gv (compGo T vs tt elt l ρ θ) Q) := rfl
theorem gv_comp0 (T : Tgt) (vs : List Nat) (tt : M Bool) (elt : M Dt) {Q : List Dt → Pot → Prop} : Gv (compGo T vs tt elt [] ρ θ) Q = Q [] θ := rfl
theorem gv_comp1R (T : Tgt) (vs : List Nat) (tt : M Bool) (elt : M Dt) (d : Dt) (ds : List Dt) {Q : List Dt → Pot → Prop} : Gv (compGo T vs tt elt (d :: ds) ρ θ) Q = match bindT T d (wipeD (hide ρ) vs) with
  | none => False
  | some ρ1 => Gv (tt ρ1 θ) fun k θ1 => if k = true then Gv (elt ρ1 θ1) fun y θ2 => Gv (compGo T vs tt elt ds ρ θ2) fun ys θ3 => Q (y :: ys) θ3 else Gv (compGo T vs tt elt ds ρ θ1) Q := by
  rw [compGo]
  dsimp only
  cases bindT T d (wipeD (hide ρ) vs) with
  | none => rfl
  | some ρ1 =>
    dsimp only
    cases tt ρ1 θ with
    | ok k θ1 =>
      rw [gv_ok]
      cases k with
      | false => rfl
      | true =>
        rw [if_pos rfl]
        dsimp only
        cases elt ρ1 θ1 with
        | ok y θ2 =>
          dsimp only
          rw [gv_bnd]
          rfl
        | exn e ρ θ => rfl
        | bad => rfl
    | exn e ρ θ => rfl
    | bad => rfl
def cmpR (x : Option DEnv) (p : DEnv → Prop) : Prop := match x with
  | some ρ => p ρ
  | none => False
theorem cmpR_s (ρ : DEnv) (p : DEnv → Prop) : cmpR (some ρ) p = p ρ := rfl
def cmpK2 (T : Tgt) (vs : List Nat) (tt : M Bool) (elt : M Dt) (ds : List Dt) (ρ : DEnv) (Q : List Dt → Pot → Prop) : Dt → Pot → Prop := fun y θ => Gv (compGo T vs tt elt ds ρ θ) (consK2 y Q)
theorem cmpK2_a (T : Tgt) (vs : List Nat) (tt : M Bool) (elt : M Dt) (ds : List Dt) (y : Dt) {Q : List Dt → Pot → Prop} : cmpK2 T vs tt elt ds ρ Q y θ = Gv (compGo T vs tt elt ds ρ θ) (consK2 y Q) := rfl
def cmpK1 (T : Tgt) (vs : List Nat) (tt : M Bool) (elt : M Dt) (ds : List Dt) (ρ : DEnv) (θ : Pot) (Q : List Dt → Pot → Prop) : DEnv → Prop := fun ρ1 => Gv (tt ρ1 θ) (brK (runP elt ρ1 (cmpK2 T vs tt elt ds ρ Q)) (runP (compGo T vs tt elt ds) ρ Q))
theorem cmpK1_a (T : Tgt) (vs : List Nat) (tt : M Bool) (elt : M Dt) (ds : List Dt) {Q : List Dt → Pot → Prop} : cmpK1 T vs tt elt ds ρ θ Q ρ1 = Gv (tt ρ1 θ) (brK (runP elt ρ1 (cmpK2 T vs tt elt ds ρ Q)) (runP (compGo T vs tt elt ds) ρ Q)) := rfl
theorem gv_comp1 (T : Tgt) (vs : List Nat) (tt : M Bool) (elt : M Dt) (d : Dt) (ds : List Dt) {Q : List Dt → Pot → Prop} : Gv (compGo T vs tt elt (d :: ds) ρ θ) Q = cmpR (bindT T d (wipeD (hide ρ) vs)) (cmpK1 T vs tt elt ds ρ θ Q) := by
  rw [gv_comp1R]
  cases bindT T d (wipeD (hide ρ) vs) with
  | none => rfl
  | some ρ1 =>
    show Gv (tt ρ1 θ) _ = Gv (tt ρ1 θ) _
    refine congrArg (Gv (tt ρ1 θ)) ?_
    funext k θ1
    cases k <;> rfl
theorem gv_tt1 {Q : Bool → Pot → Prop} : Gv (tt1 ρ θ) Q = Q true θ := rfl
theorem hide_nil : hide [] = [] := rfl
theorem hide_0 (ρ : DEnv) : hide (none :: ρ) = none :: hide ρ := rfl
theorem hide_d (d : Dt) (ρ : DEnv) : hide (some (.dat d) :: ρ) = some (.dat d) :: hide ρ := rfl
theorem hide_p (ρ : DEnv) : hide (some .pot :: ρ) = some .pot :: hide ρ := rfl
theorem hide_o (l : List Dt) (ρ : DEnv) : hide (some (.own l) :: ρ) = none :: hide ρ := rfl
theorem wipeD_nil (ρ : DEnv) : wipeD ρ [] = ρ := rfl
theorem wipeD_cons (v : Nat) (vs : List Nat) (ρ : DEnv) : wipeD ρ (v :: vs) = (wipeD ρ vs).set v none := rfl
end
theorem pick_nil {α : Type} (l : List α) : pick [] l = [] := rfl
theorem pick_0 {α : Type} (is : List Nat) (x : α) (l : List α) : pick (0 :: is) (x :: l) = x :: pick is (x :: l) := rfl
theorem pick_1 {α : Type} (is : List Nat) (x y : α) (l : List α) : pick (1 :: is) (x :: y :: l) = y :: pick is (x :: y :: l) := rfl
theorem pick_2 {α : Type} (is : List Nat) (x y z : α) (l : List α) : pick (2 :: is) (x :: y :: z :: l) = z :: pick is (x :: y :: z :: l) := rfl
theorem pick_3 {α : Type} (is : List Nat) (x y z u : α) (l : List α) : pick (3 :: is) (x :: y :: z :: u :: l) = u :: pick is (x :: y :: z :: u :: l) := rfl
theorem pick_4 {α : Type} (is : List Nat) (x y z u v : α) (l : List α) : pick (4 :: is) (x :: y :: z :: u :: v :: l) = v :: pick is (x :: y :: z :: u :: v :: l) := rfl
theorem pick_5 {α : Type} (is : List Nat) (x y z u v w : α) (l : List α) : pick (5 :: is) (x :: y :: z :: u :: v :: w :: l) = w :: pick is (x :: y :: z :: u :: v :: w :: l) := rfl
/-- what a drawn pot is -/
def PotOk (θ : Pot) : Prop := 0 ≤ θ.1 ∧ 0 ≤ θ.2 ∧ θ.2 < 4294967296
theorem fm_pos {i n : Int} (h : 0 < n) : i.fmod n = i % n := Int.fmod_eq_emod_of_nonneg i (Int.le_of_lt h)
theorem fd_pos {i n : Int} (h : 0 < n) : i.fdiv n = i / n := Int.fdiv_eq_ediv_of_nonneg i (Int.le_of_lt h)
/-! ### bounds -/
theorem small_of {i : Int} (h1 : -1606938044258990275541962092341162602522202993782792835301376 < i) (h2 : i < 1606938044258990275541962092341162602522202993782792835301376) : small i = true := by
  refine decide_eq_true ?_
  by_cases z : i.natAbs = 0
  · rw [z]
    decide
  · have e : i.natAbs < 2 ^ 200 := by
      have e0 : (2 : Nat) ^ 200 = 1606938044258990275541962092341162602522202993782792835301376 := by decide
      rw [e0]
      omega
    exact Nat.lt_of_lt_of_le ((Nat.log2_lt z).mpr e) (by decide)
theorem gv_max2 {ρ : DEnv} {θ : Pot} (i j : Int) {Q : Dt → Pot → Prop} : Gv (opt (gMax [.int i, .int j]) ρ θ) Q = Q (.int (if j > i then j else i)) θ := rfl
theorem gv_min2 {ρ : DEnv} {θ : Pot} (i j : Int) {Q : Dt → Pot → Prop} : Gv (opt (gMin [.int i, .int j]) ρ θ) Q = Q (.int (if j < i then j else i)) θ := rfl
theorem gv_int {ρ : DEnv} {θ : Pot} (i : Int) {Q : Dt → Pot → Prop} : Gv (opt (gInt [.int i]) ρ θ) Q = Q (.int i) θ := rfl
theorem gv_ix0 {ρ : DEnv} {θ : Pot} (x : Dt) (l : List Dt) {Q : Dt → Pot → Prop} : Gv (opt (gIx (.tup (x :: l)) (.int 0)) ρ θ) Q = Q x θ := by
  have e : gIx (.tup (x :: l)) (.int 0) = some x := L2.atI_nat (j := 0) rfl
  rw [e, gv_opt]
theorem gv_ix1 {ρ : DEnv} {θ : Pot} (x y : Dt) (l : List Dt) {Q : Dt → Pot → Prop} : Gv (opt (gIx (.tup (x :: y :: l)) (.int 1)) ρ θ) Q = Q y θ := by
  have e : gIx (.tup (x :: y :: l)) (.int 1) = some y := L2.atI_nat (j := 1) rfl
  rw [e, gv_opt]
theorem gv_ix2 {ρ : DEnv} {θ : Pot} (x y z : Dt) (l : List Dt) {Q : Dt → Pot → Prop} : Gv (opt (gIx (.tup (x :: y :: z :: l)) (.int 2)) ρ θ) Q = Q z θ := by
  have e : gIx (.tup (x :: y :: z :: l)) (.int 2) = some z := L2.atI_nat (j := 2) rfl
  rw [e, gv_opt]
theorem gv_lenT {ρ : DEnv} {θ : Pot} (l : List Dt) {Q : Dt → Pot → Prop} : Gv (opt (gLen [.tup l]) ρ θ) Q = Q (.int l.length) θ := rfl
theorem gv_lenL {ρ : DEnv} {θ : Pot} (l : List Dt) {Q : Dt → Pot → Prop} : Gv (opt (gLen [.lst l]) ρ θ) Q = Q (.int l.length) θ := rfl
theorem gv_abs {ρ : DEnv} {θ : Pot} (i : Int) {Q : Dt → Pot → Prop} : Gv (opt (gAbs [.int i]) ρ θ) Q = Q (.int (if i < 0 then -i else i)) θ := rfl
theorem repr2 {a b : Int} (ha : a.natAbs.log2 < 1920) (hb : b.natAbs.log2 < 1920) : gRepr [.tup [.int a, .int b]] = some (.str (PyData.shown (.tuple [.int a, .int b]))) ∧ (PyData.shown (.tuple [.int a, .int b])).length ≤ sizeLine := by
  have l1 := int_text_length_le (k := 1920) (by decide) ha
  have l2 := int_text_length_le (k := 1920) (by decide) hb
  have c1 : (PyData.tuple [.int a, .int b]).showable = true := by
    show (decide (a.natAbs.log2 < 1920) && (decide (b.natAbs.log2 < 1920) && true)) = true
    rw [decide_eq_true ha, decide_eq_true hb]
    rfl
  have c2 : (PyData.tuple [.int a, .int b]).hasDict = false := rfl
  have c3 : (PyData.tuple [.int a, .int b]).depth ≤ 60 := by
    simp [PyData.depth, PyData.depthAll]
  have c4 : (PyData.tuple [.int a, .int b]).shown.length ≤ sizeLine := by
    show ((("(" : Str) ++ ((Str.ofString (toString a)) ++ ", " ++ (Str.ofString (toString b)))) ++ ((")" : String) : Str)).length ≤ sizeLine
    have k1 : (Str.ofString (toString a)).length = (toString a).length := ofString_length _
    have k2 : (Str.ofString (toString b)).length = (toString b).length := ofString_length _
    rw [strLen_append, strLen_append, strLen_append, strLen_append, k1, k2]
    have e1 : (("(" : String) : Str).length = 1 := rfl
    have e2 : ((")" : String) : Str).length = 1 := rfl
    have e3 : ((", " : String) : Str).length = 2 := rfl
    have e4 : sizeLine = 16777216 := by decide
    rw [e4]
    omega
  have e : gRepr [.tup [.int a, .int b]] = (if ((PyData.tuple [.int a, .int b]).showable && (!(PyData.tuple [.int a, .int b]).hasDict && (decide ((PyData.tuple [.int a, .int b]).depth ≤ 60) && decide ((PyData.tuple [.int a, .int b]).shown.length ≤ sizeLine)))) = true then some ((PyData.tuple [.int a, .int b]).shown) else none).map Dt.str := rfl
  refine ⟨?_, c4⟩
  rw [e, c1, c2, decide_eq_true c3, decide_eq_true c4]
  rfl
theorem gv_neS {ρ : DEnv} {θ : Pot} (x y : Str) {Q : Dt → Pot → Prop} : Gv (opt (gNe (.str x) (.str y)) ρ θ) Q = Q (.bl (!decide (x = y))) θ := rfl
theorem gv_eqS {ρ : DEnv} {θ : Pot} (x y : Str) {Q : Dt → Pot → Prop} : Gv (opt (gEq (.str x) (.str y)) ρ θ) Q = Q (.bl (decide (x = y))) θ := rfl
theorem gv_rng1 {ρ : DEnv} {θ : Pot} (j : Int) {Q : List Dt → Pot → Prop} : Gv (opt (rng1 [.int j]) ρ θ) Q = (bnd62 j = true ∧ Q (rngL 0 j.toNat) θ) := by
  show Gv (opt (if bnd62 j = true then some (rngL 0 j.toNat) else none) ρ θ) Q = _
  by_cases h : bnd62 j = true
  · rw [if_pos h]
    exact propext ⟨fun q => ⟨h, q⟩, fun q => q.2⟩
  · rw [if_neg h]
    exact propext ⟨fun q => q.elim, fun q => h q.1⟩
theorem gv_rng2 {ρ : DEnv} {θ : Pot} (i j : Int) {Q : List Dt → Pot → Prop} : Gv (opt (rng2 [.int i, .int j]) ρ θ) Q = ((bnd62 i && bnd62 j) = true ∧ Q (rngL i (j - i).toNat) θ) := by
  show Gv (opt (if (bnd62 i && bnd62 j) = true then some (rngL i (j - i).toNat) else none) ρ θ) Q = _
  by_cases h : (bnd62 i && bnd62 j) = true
  · rw [if_pos h]
    exact propext ⟨fun q => ⟨h, q⟩, fun q => q.2⟩
  · rw [if_neg h]
    exact propext ⟨fun q => q.elim, fun q => h q.1⟩
theorem bnd62_of {i : Int} (h1 : -4611686018427387904 ≤ i) (h2 : i < 4611686018427387904) : bnd62 i = true := by
  unfold bnd62
  rw [decide_eq_true (show -(2 ^ 62) ≤ i by omega), decide_eq_true (show i < 2 ^ 62 by omega)]
  rfl
theorem rngL_len (i : Int) (n : Nat) : (rngL i n).length = n := by simp [rngL]
theorem big_of {n : Nat} (h : n < 1000000) : (n < bigL) = True := eq_true h
theorem gv_all2 {ρ : DEnv} {θ : Pot} (a b : Bool) {Q : Dt → Pot → Prop} : Gv (opt (gAll [.lst [.bl a, .bl b]]) ρ θ) Q = Q (.bl (a && b)) θ := by
  cases a <;> cases b <;> rfl
theorem gv_maxL2 {ρ : DEnv} {θ : Pot} (a b : Int) {Q : Dt → Pot → Prop} : Gv (opt (gMax [.lst [.int a, .int b]]) ρ θ) Q = Q (.int (if b > a then b else a)) θ := rfl
theorem gv_minL2 {ρ : DEnv} {θ : Pot} (a b : Int) {Q : Dt → Pot → Prop} : Gv (opt (gMin [.lst [.int a, .int b]]) ρ θ) Q = Q (.int (if b < a then b else a)) θ := rfl
theorem gv_lenT0 {ρ : DEnv} {θ : Pot} {Q : Dt → Pot → Prop} : Gv (opt (gLen [.tup []]) ρ θ) Q = Q (.int 0) θ := rfl
theorem gv_lenL0 {ρ : DEnv} {θ : Pot} {Q : Dt → Pot → Prop} : Gv (opt (gLen [.lst []]) ρ θ) Q = Q (.int 0) θ := rfl
theorem gv_lenT1 {ρ : DEnv} {θ : Pot} (a : Dt) {Q : Dt → Pot → Prop} : Gv (opt (gLen [.tup [a]]) ρ θ) Q = Q (.int 1) θ := rfl
theorem gv_lenL1 {ρ : DEnv} {θ : Pot} (a : Dt) {Q : Dt → Pot → Prop} : Gv (opt (gLen [.lst [a]]) ρ θ) Q = Q (.int 1) θ := rfl
theorem gv_lenT2 {ρ : DEnv} {θ : Pot} (a b : Dt) {Q : Dt → Pot → Prop} : Gv (opt (gLen [.tup [a, b]]) ρ θ) Q = Q (.int 2) θ := rfl
theorem gv_lenL2 {ρ : DEnv} {θ : Pot} (a b : Dt) {Q : Dt → Pot → Prop} : Gv (opt (gLen [.lst [a, b]]) ρ θ) Q = Q (.int 2) θ := rfl
theorem gv_lenT3 {ρ : DEnv} {θ : Pot} (a b c : Dt) {Q : Dt → Pot → Prop} : Gv (opt (gLen [.tup [a, b, c]]) ρ θ) Q = Q (.int 3) θ := rfl
theorem gv_lenL3 {ρ : DEnv} {θ : Pot} (a b c : Dt) {Q : Dt → Pot → Prop} : Gv (opt (gLen [.lst [a, b, c]]) ρ θ) Q = Q (.int 3) θ := rfl
theorem gv_lenT4 {ρ : DEnv} {θ : Pot} (a b c d : Dt) {Q : Dt → Pot → Prop} : Gv (opt (gLen [.tup [a, b, c, d]]) ρ θ) Q = Q (.int 4) θ := rfl
theorem gv_lenL4 {ρ : DEnv} {θ : Pot} (a b c d : Dt) {Q : Dt → Pot → Prop} : Gv (opt (gLen [.lst [a, b, c, d]]) ρ θ) Q = Q (.int 4) θ := rfl
end Pd


namespace Pd
open PySem PySem.Spec PyProof.Rows L2
/-! ### is True -/
def gIsB : Dt → Dt → Option Dt
  | .bl a, .bl b => some (.bl (decide (a = b)))
  | _, _ => none
def gIsNB : Dt → Dt → Option Dt
  | .bl a, .bl b => some (.bl (!decide (a = b)))
  | _, _ => none
def gIs2 (a b : Dt) : Option Dt := (gIsB a b).or (gIs a b)
def gIsNot2 (a b : Dt) : Option Dt := (gIsNB a b).or (gIsNot a b)
section
variable {X : Cx} {F : Fr0} {W : WX} {a b c : Expr} {es : List Expr} {pos p : Pos} {x : Str}
theorem od_isB : OpD X (compareOp .Is) gIsB := by
  refine ⟨_, op_isBl, fun a b d e Hs H x y Q s ra rb q => ?_⟩
  unfold gIsB at e
  split at e
  · rename_i i j
    cases e
    exact ⟨i, j, ra, rb, q _ Hs H (Grow.refl s) rfl⟩
  · cases e
theorem od_isNB : OpD X (compareOp .IsNot) gIsNB := by
  refine ⟨_, op_notBl, fun a b d e Hs H x y Q s ra rb q => ?_⟩
  unfold gIsNB at e
  split at e
  · rename_i i j
    cases e
    exact ⟨i, j, ra, rb, q _ Hs H (Grow.refl s) rfl⟩
  · cases e
theorem od_is2 : OpD X (compareOp .Is) gIs2 := od_isB.or od_is
theorem od_isnot2 : OpD X (compareOp .IsNot) gIsNot2 := od_isNB.or od_isnot
/-! ### x.extend([..]) -/
def mExt (i : Nat) (ml : M (List Dt)) : M Out := fun ρ θ => match ρ[i]? with
  | some (some (.own l)) => bnd ml (fun z ρ θ => if l.length + z.length < bigL then .ok (.next (ρ.set i (some (.own (l ++ z))))) θ else .bad) ρ θ
  | _ => .bad
/-! ### x, y = [], [] -/
def mParE (i j : Nat) : M Out := fun ρ θ => .ok (.next ((ρ.set i (some (.own []))).set j (some (.own [])))) θ
theorem psd_parE {i j : Nat} {x y : Str} {p1 p2 px py pt : Pos} {kt k2 pt2} (hc : X.calm = true) (hN : X.N.Nodup)
    (hi : X.N[i]? = some x := by rfl) (hj : X.N[j]? = some y := by rfl) (hij : i ≠ j := by decide)
    (hx : X.env.scope.names.lookup x = some .local := by rfl) (hy : X.env.scope.names.lookup y = some .local := by rfl)
    (s1 : starEach [.List [] p1, .List [] p2] X.env = (false, eval (.List [] p1) X.env) :: starEach [.List [] p2] X.env := by rfl) (s2 : starEach [.List [] p2] X.env = (false, eval (.List [] p2) X.env) :: starEach [] X.env := by rfl)
    (hw : swappedStores [.Tuple [.Name x px, .Name y py] kt pt] (.Tuple [.List [] p1, .List [] p2] k2 pt2) X.env = pure (some [x, y]) := by rfl)
    (hs : swapsWithSole [.Tuple [.Name x px, .Name y py] kt pt] (.Tuple [.List [] p1, .List [] p2] k2 pt2) pos.line X.env = pure false := by rfl) :
    PSD X F W (.Assign [.Tuple [.Name x px, .Name y py] kt pt] (.Tuple [.List [] p1, .List [] p2] k2 pt2) pos) (mParE i j) := by
  refine ps_imp (ps_par hc hN hi hj hij hx hy (pa_cons (pe_lst pa_nil) (pa_cons (pe_lst pa_nil) pa_nil s2) s1) hw hs) fun D σ H q => ?_
  obtain ⟨ρ, θ, Hs, st, q⟩ := q
  refine ⟨by decide, fun a na => ⟨by decide, fun b nb => ⟨_, _, rfl, ?_⟩⟩⟩
  have st1 := st_new (o := .lst []) st na
  have st2 := st_new (o := .lst []) st1 nb
  have ab : b ≠ a := fun z => by rw [z, upd_same] at nb; cases nb
  have ha : upd (upd H a (.lst [])) b (.lst []) a = some (.lst []) := by rw [upd_ne (fun z => ab z.symm), upd_same]
  have st3 := st_setO st2 i (a := a) (xs := []) (m := []) ha rfl (st.sub.free na) (h0_none st na) (ap_ne st na) (fun k l _ e => own_ne st na k l e)
  have st4 := st_setO st3 j (a := b) (xs := []) (m := []) upd_same rfl (st1.sub.free nb) (h0_none st1 nb) (ap_ne st1 nb) (fun k l nk e => by
    by_cases z : i = k
    · subst z
      rw [List.getElem?_set] at e ⊢
      by_cases w : i < σ.length
      · rw [if_pos rfl, if_pos w]
        exact fun z => ab (by cases z; rfl)
      · rw [if_pos rfl, if_neg w]
        exact fun z => nomatch z
    · rw [List.getElem?_set_ne z] at e ⊢
      exact own_ne st1 nb k l e)
  exact q _ _ Hs (Same.refl _) st4
end
section
variable {α : Type} {ρ : DEnv} {θ : Pot}
def ownK (x : Option (Option Ent)) (p : List Dt → Prop) : Prop := match x with
  | some (some (.own l)) => p l
  | _ => False
theorem ownK_o (l : List Dt) (p : List Dt → Prop) : ownK (some (some (.own l))) p = p l := rfl
def setOK (i : Nat) (ρ : DEnv) (Q : Out → Pot → Prop) : List Dt → Pot → Prop := fun l θ => Q (.next (ρ.set i (some (.own l)))) θ
theorem gv_setO (i : Nat) (ma : M (List Dt)) {Q : Out → Pot → Prop} : Gv (mSetO i ma ρ θ) Q = Gv (ma ρ θ) (setOK i ρ Q) := by
  unfold mSetO
  rw [gv_bnd]
  rfl
theorem setOK_a (i : Nat) (l : List Dt) {Q : Out → Pot → Prop} : setOK i ρ Q l θ = Q (.next (ρ.set i (some (.own l)))) θ := rfl
def appK2 (i : Nat) (l : List Dt) (ρ : DEnv) (Q : Out → Pot → Prop) : Dt → Pot → Prop := fun d θ => l.length < bigL ∧ Q (.next (ρ.set i (some (.own (l ++ [d]))))) θ
def appK1 (i : Nat) (ma : M Dt) (ρ : DEnv) (θ : Pot) (Q : Out → Pot → Prop) : List Dt → Prop := fun l => Gv (ma ρ θ) (appK2 i l ρ Q)
theorem appK1_a (i : Nat) (ma : M Dt) (l : List Dt) {Q : Out → Pot → Prop} : appK1 i ma ρ θ Q l = Gv (ma ρ θ) (appK2 i l ρ Q) := rfl
theorem appK2_a (i : Nat) (l : List Dt) (d : Dt) {Q : Out → Pot → Prop} : appK2 i l ρ Q d θ = (l.length < bigL ∧ Q (.next (ρ.set i (some (.own (l ++ [d]))))) θ) := rfl
theorem if_gv {p : Prop} [Decidable p] {m : Res α} {Q : α → Pot → Prop} : Gv (if p then m else .bad) Q = (p ∧ Gv m Q) := by
  by_cases h : p
  · rw [if_pos h]
    exact propext ⟨fun q => ⟨h, q⟩, fun q => q.2⟩
  · rw [if_neg h]
    exact propext ⟨fun q => q.elim, fun q => h q.1⟩
theorem gv_app (i : Nat) (ma : M Dt) {Q : Out → Pot → Prop} : Gv (mApp i ma ρ θ) Q = ownK ρ[i]? (appK1 i ma ρ θ Q) := by
  unfold mApp
  rcases ρ[i]? with _ | _ | _ | _ | _ <;> try rfl
  rename_i l
  show Gv (bnd ma _ ρ θ) Q = Gv (ma ρ θ) (appK2 i l ρ Q)
  rw [gv_bnd]
  refine congrArg (Gv (ma ρ θ)) ?_
  funext d θ1
  rw [if_gv]
  rfl
def extK2 (i : Nat) (l : List Dt) (ρ : DEnv) (Q : Out → Pot → Prop) : List Dt → Pot → Prop := fun z θ => l.length + z.length < bigL ∧ Q (.next (ρ.set i (some (.own (l ++ z))))) θ
def extK1 (i : Nat) (ma : M (List Dt)) (ρ : DEnv) (θ : Pot) (Q : Out → Pot → Prop) : List Dt → Prop := fun l => Gv (ma ρ θ) (extK2 i l ρ Q)
theorem extK1_a (i : Nat) (ma : M (List Dt)) (l : List Dt) {Q : Out → Pot → Prop} : extK1 i ma ρ θ Q l = Gv (ma ρ θ) (extK2 i l ρ Q) := rfl
theorem extK2_a (i : Nat) (l z : List Dt) {Q : Out → Pot → Prop} : extK2 i l ρ Q z θ = (l.length + z.length < bigL ∧ Q (.next (ρ.set i (some (.own (l ++ z))))) θ) := rfl
theorem gv_ext (i : Nat) (ma : M (List Dt)) {Q : Out → Pot → Prop} : Gv (mExt i ma ρ θ) Q = ownK ρ[i]? (extK1 i ma ρ θ Q) := by
  unfold mExt
  rcases ρ[i]? with _ | _ | _ | _ | _ <;> try rfl
  rename_i l
  show Gv (bnd ma _ ρ θ) Q = Gv (ma ρ θ) (extK2 i l ρ Q)
  rw [gv_bnd]
  refine congrArg (Gv (ma ρ θ)) ?_
  funext d θ1
  rw [if_gv]
  rfl
theorem gv_parE (i j : Nat) {Q : Out → Pot → Prop} : Gv (mParE i j ρ θ) Q = Q (.next ((ρ.set i (some (.own []))).set j (some (.own [])))) θ := rfl
def borK (θ : Pot) (Q : List Dt → Pot → Prop) : List Dt → Prop := fun l => Q [.lst l] θ
theorem borK_a (l : List Dt) {Q : List Dt → Pot → Prop} : borK θ Q l = Q [.lst l] θ := rfl
theorem gv_bor (i : Nat) {Q : List Dt → Pot → Prop} : Gv (mBor i ρ θ) Q = ownK ρ[i]? (borK θ Q) := by
  unfold mBor
  rcases ρ[i]? with _ | _ | _ | _ | _ <;> rfl
def frzE (x : Option (Option Ent)) (i : Nat) (ρ : DEnv) : DEnv := match x with
  | some (some (.own l)) => ρ.set i (some (.dat (.lst l)))
  | _ => ρ
theorem frzE_o (l : List Dt) (i : Nat) : frzE (some (some (.own l))) i ρ = ρ.set i (some (.dat (.lst l))) := rfl
theorem gv_frz (i : Nat) (m : M Out) {Q : Out → Pot → Prop} : Gv (mFrz i m ρ θ) Q = Gv (m (frzE ρ[i]? i ρ) θ) Q := by
  have e : frz i ρ = frzE ρ[i]? i ρ := by
    unfold frz
    rcases ρ[i]? with _ | _ | _ | _ | _ <;> rfl
  show Gv (m (frz i ρ) θ) Q = _
  rw [e]
def exprK (ρ : DEnv) (Q : Out → Pot → Prop) : Dt → Pot → Prop := fun _ θ => Q (.next ρ) θ
theorem exprK_a (d : Dt) {Q : Out → Pot → Prop} : exprK ρ Q d θ = Q (.next ρ) θ := rfl
theorem gv_expr (ma : M Dt) {Q : Out → Pot → Prop} : Gv (mExpr ma ρ θ) Q = Gv (ma ρ θ) (exprK ρ Q) := by
  unfold mExpr
  rw [gv_bnd]
  rfl
theorem is2_b (a b : Bool) {Q : Dt → Pot → Prop} : Gv (opt (gIs2 (.bl a) (.bl b)) ρ θ) Q = Q (.bl (decide (a = b))) θ := rfl
theorem isn2_b (a b : Bool) {Q : Dt → Pot → Prop} : Gv (opt (gIsNot2 (.bl a) (.bl b)) ρ θ) Q = Q (.bl (!decide (a = b))) θ := rfl
theorem is2_n {Q : Dt → Pot → Prop} : Gv (opt (gIs2 .non .non) ρ θ) Q = Q (.bl true) θ := rfl
theorem isn2_n {Q : Dt → Pot → Prop} : Gv (opt (gIsNot2 .non .non) ρ θ) Q = Q (.bl false) θ := rfl
theorem is2_i (i : Int) {Q : Dt → Pot → Prop} : Gv (opt (gIs2 (.int i) .non) ρ θ) Q = Q (.bl false) θ := rfl
theorem isn2_i (i : Int) {Q : Dt → Pot → Prop} : Gv (opt (gIsNot2 (.int i) .non) ρ θ) Q = Q (.bl true) θ := rfl
theorem is2_t (l : List Dt) {Q : Dt → Pot → Prop} : Gv (opt (gIs2 (.tup l) .non) ρ θ) Q = Q (.bl false) θ := rfl
theorem isn2_t (l : List Dt) {Q : Dt → Pot → Prop} : Gv (opt (gIsNot2 (.tup l) .non) ρ θ) Q = Q (.bl true) θ := rfl
/-- a while by a measure -/
theorem gv_while_inv {c : M Bool} {body : M Out} {Q : Out → Pot → Prop} (I : Nat → DEnv → Pot → Prop) (h : ∀ k ρ θ, I k ρ θ → Gv (c ρ θ) fun t θ1 => if t = true then Gv (body ρ θ1) fun o θ2 => match o with
      | .next ρ2 => ∃ j, j < k ∧ I j ρ2 θ2
      | .cnt ρ2 => ∃ j, j < k ∧ I j ρ2 θ2
      | .brk ρ2 => Q (.next ρ2) θ2
      | r => Q r θ2
    else Q (.next ρ) θ1) : ∀ (n k : Nat) (ρ : DEnv) (θ : Pot), k < n → I k ρ θ → Gv (whileGo c body n ρ θ) Q
  | 0, _, _, _, z, _ => absurd z (Nat.not_lt_zero _)
  | n + 1, k, ρ, θ, z, i => by
    have q := h k ρ θ i
    rw [whileGo]
    dsimp only
    cases ec : c ρ θ with
    | ok t θ1 =>
      rw [ec, gv_ok] at q
      cases t with
      | false => exact q
      | true =>
        rw [if_pos rfl] at q
        dsimp only
        cases eb : body ρ θ1 with
        | ok o θ2 =>
          rw [eb, gv_ok] at q
          cases o with
          | next ρ2 =>
            obtain ⟨j, j1, j2⟩ := q
            exact gv_while_inv I h n j ρ2 θ2 (by omega) j2
          | cnt ρ2 =>
            obtain ⟨j, j1, j2⟩ := q
            exact gv_while_inv I h n j ρ2 θ2 (by omega) j2
          | brk ρ2 => exact q
          | ret r => exact q
        | exn e ρ θ => rw [eb] at q; exact q.elim
        | bad => rw [eb] at q; exact q.elim
    | exn e ρ θ => rw [ec] at q; exact q.elim
    | bad => rw [ec] at q; exact q.elim
end
section
variable {ρ : DEnv} {θ : Pot}
def goK (T : Tgt) (body : M Out) (ds : List Dt) (Q : Out → Pot → Prop) : Out → Pot → Prop := fun o θ => match o with
  | .next ρ => Gv (forGo T body ds ρ θ) Q
  | .cnt ρ => Gv (forGo T body ds ρ θ) Q
  | .brk ρ => Q (.next ρ) θ
  | .ret r => Q (.ret r) θ
theorem goK_n (T : Tgt) (body : M Out) (ds : List Dt) (ρ : DEnv) {Q : Out → Pot → Prop} : goK T body ds Q (.next ρ) θ = Gv (forGo T body ds ρ θ) Q := rfl
theorem goK_c (T : Tgt) (body : M Out) (ds : List Dt) (ρ : DEnv) {Q : Out → Pot → Prop} : goK T body ds Q (.cnt ρ) θ = Gv (forGo T body ds ρ θ) Q := rfl
theorem goK_b (T : Tgt) (body : M Out) (ds : List Dt) (ρ : DEnv) {Q : Out → Pot → Prop} : goK T body ds Q (.brk ρ) θ = Q (.next ρ) θ := rfl
theorem goK_r (T : Tgt) (body : M Out) (ds : List Dt) (r : Ret) {Q : Out → Pot → Prop} : goK T body ds Q (.ret r) θ = Q (.ret r) θ := rfl
def goR (x : Option DEnv) (body : M Out) (θ : Pot) (k : Out → Pot → Prop) : Prop := match x with
  | some ρ => Gv (body ρ θ) k
  | none => False
theorem goR_s (ρ : DEnv) (body : M Out) (k : Out → Pot → Prop) : goR (some ρ) body θ k = Gv (body ρ θ) k := rfl
theorem gv_goS (T : Tgt) (body : M Out) (d : Dt) (ds : List Dt) {Q : Out → Pot → Prop} : Gv (forGo T body (d :: ds) ρ θ) Q = goR (bindT T d ρ) body θ (goK T body ds Q) := by
  rw [gv_go1]
  cases bindT T d ρ with
  | none => rfl
  | some ρ1 =>
    show Gv (body ρ1 θ) _ = Gv (body ρ1 θ) _
    refine congrArg (Gv (body ρ1 θ)) ?_
    funext o θ2
    cases o <;> rfl
theorem gv_maxL4 (a b c d : Int) {Q : Dt → Pot → Prop} : Gv (opt (gMax [.lst [.int a, .int b, .int c, .int d]]) ρ θ) Q = Q (.int (maxI [a, b, c, d])) θ := rfl
theorem gv_minL4 (a b c d : Int) {Q : Dt → Pot → Prop} : Gv (opt (gMin [.lst [.int a, .int b, .int c, .int d]]) ρ θ) Q = Q (.int (minI [a, b, c, d])) θ := rfl
end
end Pd


namespace Pd
open PySem PySem.Spec PyProof.Rows L2
section
variable {X : Cx} {F : Fr0} {W : WX} {a b c : Expr} {es : List Expr} {pos p : Pos} {x : Str}
/-! ### tuple(x), list(x) -/
def tupOf : List Dt → Option Dt
  | [.lst l] => some (.tup l)
  | [.tup l] => some (.tup l)
  | _ => none
def mTupOf (ml : M (List Dt)) : M Dt := bnd ml fun l => opt (tupOf l)
theorem pd_tupOf {ml : M (List Dt)} (hm : X.mg "tuple" = none) (ha : PAD X F W [a] ml) (hg : Gl X "tuple" := by rfl)
    (he : starEach [a] X.env = (false, eval a X.env) :: starEach [] X.env := by rfl) (hpl : (backTo pos (starEach [] X.env)).any (·.1) = false := by rfl) : PD X F W (.Call (.Name "tuple" p) [a] [] pos) (mTupOf ml) := by
  refine pe_imp (pe_callTy call_tuple_of hg hm (by decide +kernel) ha (by decide) (by decide) he hpl) fun σ H Q h => ?_
  obtain ⟨ρ, θ, Hs, st, h⟩ := h
  refine then_A OkD.anti st h fun xs l H1 Hs1 θ1 s1 st1 r1 h => ?_
  obtain ⟨d, e, q⟩ := post_opt h
  unfold tupOf at e
  split at e
  · rename_i l
    cases e
    obtain ⟨q0, ys, rfl, h1, h2⟩ := listArg (Reps.mono st1.sub _ r1)
    obtain ⟨y, r0, er, ⟨b0, ys0, eb, h3, h4⟩, _⟩ := r1
    cases er
    cases eb
    refine ⟨q0, ys0, rfl, Or.inl ⟨st1.sub.seq h3, fun t nt => ?_⟩⟩
    have g := Grow.new (o := .tup ys0) st1.sub nt
    exact q (.ref t) _ _ g.s (st1.grow g) ⟨t, ys0, rfl, SqT.of upd_same, Reps.mono g.s l h4⟩
  · rename_i l
    cases e
    obtain ⟨y, r0, er, ⟨b0, ys0, eb, h3, h4⟩, e0⟩ := r1
    cases eb
    cases er
    cases e0
    exact ⟨b0, ys0, rfl, Or.inr ⟨sqt_mono st1.sub h3, q (.ref b0) _ _ (Same.refl _) st1 ⟨b0, ys0, rfl, h3, h4⟩⟩⟩
  · cases e
def listOf : List Dt → Option (List Dt)
  | [.lst l] => some l
  | [.tup l] => some l
  | _ => none
def mListOf (ml : M (List Dt)) : M (List Dt) := bnd ml fun l => opt (listOf l)
theorem po_listOf {ml : M (List Dt)} (hm : X.mg "list" = none) (ha : PAD X F W [a] ml) (hg : Gl X "list" := by rfl)
    (he : starEach [a] X.env = (false, eval a X.env) :: starEach [] X.env := by rfl) (hpl : (backTo pos (starEach [] X.env)).any (·.1) = false := by rfl) : PO X F W (.Call (.Name "list" p) [a] [] pos) (mListOf ml) := by
  refine pe_imp (pe_callTy call_list_of hg hm (by decide +kernel) ha (by decide) (by decide) he hpl) fun σ H Q h => ?_
  obtain ⟨ρ, θ, Hs, st, h⟩ := h
  refine then_A OkO.anti st h fun xs l H1 Hs1 θ1 s1 st1 r1 h => ?_
  obtain ⟨d, e, q⟩ := post_opt h
  unfold listOf at e
  split at e
  · rename_i l
    cases e
    obtain ⟨y, r0, er, ⟨b0, ys0, eb, h3, h4⟩, e0⟩ := r1
    cases eb
    cases er
    cases e0
    refine ⟨b0, ys0, rfl, Or.inl (st1.sub.seq h3), fun t nt => ?_⟩
    exact q t ys0 _ Hs1 (Same.refl _) (st_new st1 nt) upd_same h4 (st1.sub.free nt) (h0_none st1 nt) (ap_ne st1 nt) (own_ne st1 nt)
  · rename_i l
    cases e
    obtain ⟨y, r0, er, ⟨b0, ys0, eb, h3, h4⟩, e0⟩ := r1
    cases eb
    cases er
    cases e0
    refine ⟨b0, ys0, rfl, Or.inr (sqt_mono st1.sub h3), fun t nt => ?_⟩
    exact q t ys0 _ Hs1 (Same.refl _) (st_new st1 nt) upd_same h4 (st1.sub.free nt) (h0_none st1 nt) (ap_ne st1 nt) (own_ne st1 nt)
  · cases e
/-! ### t + u of tuples -/
def gCat : Dt → Dt → Option Dt
  | .tup l, .tup m => if l.length + m.length < bigL then some (.tup (l ++ m)) else none
  | _, _ => none
theorem od_cat : OpD X (binaryOp .Add) gCat := by
  refine ⟨_, op_catA, fun a b d e Hs H x y Q s ra rb q => ?_⟩
  unfold gCat at e
  split at e
  · rename_i l m
    by_cases z : l.length + m.length < bigL
    · rw [if_pos z] at e
      cases e
      obtain ⟨a0, xs, rfl, h1, h2⟩ := ra
      obtain ⟨b0, ys, rfl, h3, h4⟩ := rb
      have e1 := h2.length
      have e2 := h4.length
      have bs : bigL ≤ sizeLine := by decide
      refine ⟨a0, b0, xs, ys, rfl, rfl, sqt_mono s h1, sqt_mono s h3, by omega, fun nx => ?_, fun _ ny => ?_, fun _ _ p np => ?_⟩
      · have l0 : l = [] := List.eq_nil_of_length_eq_zero (by rw [e1, nx]; rfl)
        exact q (.ref b0) Hs H (Grow.refl s) ⟨b0, ys, rfl, h3, by rw [l0]; exact h4⟩
      · have m0 : m = [] := List.eq_nil_of_length_eq_zero (by rw [e2, ny]; rfl)
        exact q (.ref a0) Hs H (Grow.refl s) ⟨a0, xs, rfl, h1, by rw [m0, List.append_nil]; exact h2⟩
      · have g := Grow.new (o := .tup (xs ++ ys)) s np
        exact q (.ref p) _ _ g ⟨p, xs ++ ys, rfl, SqT.of upd_same, (Reps.mono g.s _ h2).append (Reps.mono g.s _ h4)⟩
    · rw [if_neg z] at e
      cases e
  · cases e
def gAdd2 (a b : Dt) : Option Dt := (gAdd a b).or (gCat a b)
theorem od_add2 : OpD X (binaryOp .Add) gAdd2 := od_add.or od_cat
end
end Pd


namespace Pd
open PySem PySem.Spec PyProof.Rows L2 RZ
/-! ### zip -/
def pairs (l m : List Dt) : List Dt := List.zipWith (fun x y => Dt.tup [x, y]) l m
theorem pairs_at {l m : List Dt} {i : Nat} {d : Dt} (h : (pairs l m)[i]? = some d) : ∃ x y, l[i]? = some x ∧ m[i]? = some y ∧ d = .tup [x, y] := by
  unfold pairs at h
  rw [List.getElem?_zipWith] at h
  cases e1 : l[i]? with
  | none => rw [e1] at h; cases h
  | some x =>
    cases e2 : m[i]? with
    | none => rw [e1, e2] at h; cases h
    | some y => rw [e1, e2] at h; cases h; exact ⟨x, y, rfl, rfl, rfl⟩
theorem pairs_len (l m : List Dt) : (pairs l m).length = min l.length m.length := by simp [pairs]
theorem pair_rep {K : PySem.W.Frag} {Hs : Hp} {T : Addr} {x y : V} {dx dy : Dt} (nT : Hs T = none) (r1 : Rep K Hs dx x) (r2 : Rep K Hs dy y) : Rep K (upd Hs T (.tup [x, y])) (.tup [dx, dy]) (.ref T) :=
  ⟨T, [x, y], rfl, SqT.of upd_same, Reps.mono (same_upd nT) _ (Reps.cons r1 (Reps.cons r2 Reps.nil))⟩
def zipOf : List Dt → Option (List Dt)
  | [.lst l, .lst m] => some (pairs l m)
  | [.tup l, .tup m] => some (pairs l m)
  | _ => none
def mZip (ml : M (List Dt)) : M (List Dt) := bnd ml fun l => opt (zipOf l)
section
variable {X : Cx} {F : Fr0} {W : WX} {a b : Expr} {pos p tpos : Pos} {elts : List Expr} {kk : Nat}
end
end Pd


namespace Pd
open PySem PySem.Spec PyProof.Rows L2
section
variable {X : Cx} {F : Fr0} {W : WX} {a b c : Expr} {es : List Expr} {pos p p2 : Pos} {x : Str} {lo hi : Option Expr}
/-! ### slices of tuples -/
def OkP (X : Cx) (F : Fr0) (σ : L2.St) (ρ : DEnv) (Q : Option Int → Hp → Prop) (Hs : Hp) : Option Int → Pot → Prop := fun o θ' => ∀ H' Hs', Same Hs Hs' → StOk X.K F σ H' Hs' ρ θ' → Q o H'
theorem OkP.anti {σ : L2.St} {ρ : DEnv} {Q : Option Int → Hp → Prop} {Hs Hs1 : Hp} (s : Same Hs Hs1) : ∀ d θ, OkP X F σ ρ Q Hs d θ → OkP X F σ ρ Q Hs1 d θ := fun _ _ h H' Hs' s' => h H' Hs' (s.trans s')
def tP (X : Cx) (F : Fr0) (W : WX) (m : M (Option Int)) : TO := fun σ H Q => ∃ ρ θ Hs, StOk X.K F σ H Hs ρ θ ∧ Post (m ρ θ) (OkP X F σ ρ Q Hs) (ExW X F W Hs)
def PPD (X : Cx) (F : Fr0) (W : WX) (e : Option Expr) (m : M (Option Int)) : Prop := L2.PO X e (tP X F W m)
theorem pp_imp {e : Option Expr} {t t' : TO} (h : L2.PO X e t) (i : ∀ σ H Q, t' σ H Q → t σ H Q) : L2.PO X e t' := ⟨fun pins s σ H Q I q => h.run pins s σ H Q I (i σ H Q q)⟩
theorem then_P {β : Type} {m : M (Option Int)} {f : Option Int → M β} {okb : Hp → β → Pot → Prop} {Q : Option Int → Hp → Prop} {σ : L2.St} {H Hs : Hp} {ρ : DEnv} {θ : Pot} (anti : ∀ {Hs Hs1}, Same Hs Hs1 → ∀ b θ, okb Hs b θ → okb Hs1 b θ) (st : StOk X.K F σ H Hs ρ θ) (hp : Post (bnd m f ρ θ) (okb Hs) (ExW X F W Hs))
    (k : ∀ o H' Hs' θ', Same Hs Hs' → StOk X.K F σ H' Hs' ρ θ' → Post (f o ρ θ') (okb Hs') (ExW X F W Hs') → Q o H') : tP X F W m σ H Q :=
  ⟨ρ, θ, Hs, st, (post_bnd hp).imp (fun d θ' q H' Hs' s st' => k d H' Hs' θ' s st' (q.imp (anti s) (ExW.anti s))) fun _ _ _ q => q⟩
def mNoP : M (Option Int) := ret none
def mPt (ma : M Dt) : M (Option Int) := bnd ma fun d => match d with
  | .int i => ret (some i)
  | _ => bad
theorem pp_none : PPD X F W none mNoP := pp_imp po_none fun σ H Q h => by
  obtain ⟨ρ, θ, Hs, st, h⟩ := h
  exact h H Hs (Same.refl _) st
theorem pp_some {ma : M Dt} (ha : PD X F W a ma) : PPD X F W (some a) (mPt ma) := by
  refine pp_imp (po_some ha) fun σ H Q h => ?_
  obtain ⟨ρ, θ, Hs, st, h⟩ := h
  refine then_D OkP.anti st h fun v d H1 Hs1 θ1 s1 st1 r1 h => ?_
  cases d with
  | int i => exact ⟨i, r1, h H1 Hs1 (Same.refl _) st1⟩
  | _ => exact h.elim
def cutD (l : List Dt) (lo hi : Option Int) : List Dt := (l.drop (HT.sIx l.length 0 lo)).take (HT.sIx l.length l.length hi - HT.sIx l.length 0 lo)
def gSl (x : Dt) (lo hi : Option Int) : Option Dt := match x with
  | .tup l => some (.tup (cutD l lo hi))
  | .lst l => some (.lst (cutD l lo hi))
  | _ => none
def mSl (ma : M Dt) (ml mh : M (Option Int)) : M Dt := bnd ma fun x => bnd ml fun l => bnd mh fun u => opt (gSl x l u)
theorem pd_sl {ma : M Dt} {ml mh : M (Option Int)} (ha : PD X F W a ma) (hl : PPD X F W lo ml) (hh : PPD X F W hi mh) : PD X F W (.Subscript a (.Slice lo hi none p2) pos) (mSl ma ml mh) := by
  refine pe_imp (pe_slice (SlR.or sl_tupA sl_list) ha hl hh) fun σ H Q h => ?_
  obtain ⟨ρ, θ, Hs, st, h⟩ := h
  refine then_D OkD.anti st h fun x dx H1 Hs1 θ1 s1 st1 r1 h => ?_
  refine then_P OkD.anti st1 h fun l H2 Hs2 θ2 s2 st2 h => ?_
  refine then_P OkD.anti st2 h fun u H3 Hs3 θ3 s3 st3 h => ?_
  obtain ⟨d, e, q⟩ := post_opt h
  have r3 := Rep.mono (s2.trans s3) dx r1
  cases dx with
  | tup y =>
    cases e
    obtain ⟨a0, xs, rfl, h1, h2⟩ := r3
    have el := h2.length
    refine Or.inl ⟨a0, xs, rfl, sqt_mono st3.sub h1, fun w => ?_, fun w t nt => ?_⟩
    · have e1 : cutD y l u = y := by
        unfold cutD
        rw [el, w.1, w.2, List.drop_zero, Nat.sub_zero, ← el, List.take_length]
      rw [e1] at q
      exact q (.ref a0) H3 Hs3 (Same.refl _) st3 ⟨a0, xs, rfl, h1, h2⟩
    · have g := Grow.new (o := .tup (cutV xs l u)) st3.sub nt
      refine q (.ref t) _ _ g.s (st3.grow g) ⟨t, cutV xs l u, rfl, SqT.of upd_same, ?_⟩
      unfold cutD cutV
      rw [el]
      exact Reps.take _ (Reps.drop _ (Reps.mono g.s _ h2))
  | lst y =>
    cases e
    obtain ⟨a0, xs, rfl, h1, h2⟩ := r3
    have el := h2.length
    refine Or.inr ⟨a0, xs, rfl, st3.sub.seq h1, fun t nt => ?_⟩
    have g := Grow.new (o := .lst (cutV xs l u)) st3.sub nt
    refine q (.ref t) _ _ g.s (st3.grow g) ⟨t, cutV xs l u, rfl, Or.inl (Or.inl upd_same), ?_⟩
    unfold cutD cutV
    rw [el]
    exact Reps.take _ (Reps.drop _ (Reps.mono g.s _ h2))
  | _ => cases e
/-! ### x in a list of data -/
def gIn (a b : Dt) : Option Dt := match toP a, toP b with
  | some d, some (.list ds) => if (SeqAt.shaped d && SeqAt.shaped (.list ds)) = true then some (.bl (ds.any fun z => PyData.eqv z d)) else none
  | _, _ => none
def gNotIn (a b : Dt) : Option Dt := match toP a, toP b with
  | some d, some (.list ds) => if (SeqAt.shaped d && SeqAt.shaped (.list ds)) = true then some (.bl (!ds.any fun z => PyData.eqv z d)) else none
  | _, _ => none
/-! ### l.index(x) -/
def gIndex (a b : Dt) : Option Dt := match toP a, toP b with
  | some (.list ds), some d => if (SeqAt.shaped (.list ds) && SeqAt.shaped d) = true then (ds.findIdx? fun z => PyData.eqv z d).map fun j => Dt.int (j : Nat) else none
  | _, _ => none
def idxK (x : Dt) : List Dt → M Dt
  | [y] => opt (gIndex x y)
  | _ => bad
def mIndex (ma : M Dt) (ml : M (List Dt)) : M Dt := bnd ma fun x => match x with
  | .lst l => bnd ml (idxK (.lst l))
  | _ => bad
end
end Pd


namespace Pd
open PySem PySem.Spec PyProof.Rows L2
/-! ### names of the module that stand for tuples of ints, texts -/
def itemB : Value → Dt → Bool
  | .int i _, .int j => decide (i = j)
  | .str s _, .str z => decide (s = z)
  | .bool b, .bl c => decide (b = c)
  | .none, .non => true
  | _, _ => false
def itemsB : List Value → List Dt → Bool
  | [], [] => true
  | u :: us, d :: ds => itemB u d && itemsB us ds
  | _, _ => false
theorem item_ok {K : PySem.W.Frag} {u : Value} {d : Dt} (h : itemB u d = true) : ∃ v, RelV v u ∧ ∀ H, Rep K H d v := by
  unfold itemB at h
  split at h
  · rename_i i t j
    exact ⟨.int i, ⟨t, rfl⟩, fun H => by rw [← of_decide_eq_true h]; rfl⟩
  · rename_i s t z
    exact ⟨.str s, ⟨t, rfl⟩, fun H => by rw [← of_decide_eq_true h]; rfl⟩
  · rename_i b c
    exact ⟨.bl b, rfl, fun H => by rw [← of_decide_eq_true h]; rfl⟩
  · exact ⟨.non, rfl, fun H => rfl⟩
  · cases h
theorem items_ok {K : PySem.W.Frag} : ∀ {us : List Value} {ds : List Dt}, itemsB us ds = true → ∃ vs, Vals vs us ∧ ∀ H, Reps K H ds vs
  | [], [], _ => ⟨[], .nil, fun _ => rfl⟩
  | u :: us, d :: ds, h => by
    obtain ⟨h1, h2⟩ := Bool.and_eq_true_iff.mp (show (itemB u d && itemsB us ds) = true from h)
    obtain ⟨v, r, k⟩ := item_ok (K := K) h1
    obtain ⟨vs, rs, ks⟩ := items_ok (K := K) h2
    exact ⟨v :: vs, .cons r rs, fun H => Reps.cons (k H) (ks H)⟩
  | [], _ :: _, h => by cases h
  | _ :: _, [], h => by cases h
def objB (o : Obj) (ds : List Dt) : Bool := decide (o.cls = .type "tuple") && match o.data with
  | .seq its _ => decide (its.size ≤ 1000) && itemsB its.toList ds
  | _ => false
def exTup (K : PySem.W.Frag) (x : Str) (ds : List Dt) : Bool := match PySem.W.nsIn K mainGlobals x with
  | some (some (.ref a)) => (match K.lookup a with
    | some o => objB o ds
    | none => false)
  | _ => false
theorem exTup_ok {K : PySem.W.Frag} {h : Heap} {mg : Str → Option Value} {x : Str} {ds : List Dt} (X : K.In h) (G : h.Ns mainGlobals mg) (e : exTup K x ds = true) : ∃ a, mg x = some (.ref a) ∧ ∀ H, Rep K H (.tup ds) (.ref a) := by
  unfold exTup at e
  split at e
  · rename_i a en
    split at e
    · rename_i o ek
      unfold objB at e
      obtain ⟨e1, e2⟩ := Bool.and_eq_true_iff.mp e
      split at e2
      · rename_i its n ed
        obtain ⟨e3, e4⟩ := Bool.and_eq_true_iff.mp e2
        obtain ⟨vs, r, k⟩ := items_ok (K := K) e4
        have big : 1000 ≤ sizeLine := by decide
        exact ⟨a, PySem.W.mg_of X G en, fun H => ⟨a, vs, rfl, Or.inr ⟨o, its, n, ek, of_decide_eq_true e1, ed, Nat.le_trans (of_decide_eq_true e3) big, r⟩, k H⟩⟩
      · cases e2
    · cases e
  · cases e
theorem pd_gtup {X : Cx} {F : Fr0} {W : WX} {pos : Pos} {x : Str} {d : Dt} (h : ∃ a, X.mg x = some (.ref a) ∧ ∀ H, Rep X.K H d (.ref a)) (hg : Gl X x := by rfl) (hd : (x == ("__debug__" : Str)) = false := by decide) : PD X F W (.Name x pos) (ret d) := by
  obtain ⟨a, e, r⟩ := h
  exact pd_gdat e r hg hd
end Pd


namespace Pd
open PySem PySem.Spec PyProof.Rows L2
/-! ### enumerate(list) -/
def numbered (l : List Dt) : List Dt := (l.zipIdx).map fun p => Dt.tup [.int (p.2 : Nat), p.1]
theorem numbered_at {l : List Dt} {i : Nat} {d : Dt} (h : (numbered l)[i]? = some d) : ∃ x, l[i]? = some x ∧ d = .tup [.int (i : Nat), x] := by
  unfold numbered at h
  rw [List.getElem?_map, List.getElem?_zipIdx] at h
  cases e : l[i]? with
  | none => rw [e] at h; cases h
  | some x =>
    rw [e] at h
    refine ⟨x, rfl, ?_⟩
    have h2 : some (Dt.tup [.int ((0 + i : Nat) : Int), x]) = some d := h
    rw [Nat.zero_add] at h2
    exact (Option.some.inj h2).symm
theorem numbered_len (l : List Dt) : (numbered l).length = l.length := by simp [numbered]
theorem itd_enum {K : PySem.W.Frag} {Hs0 : Hp} {a : Addr} {xs : List V} {l : List Dt} (h1 : SqL K Hs0 a xs) (r1 : Reps K Hs0 l xs) : ItD K (Ite K a) (numbered l) Hs0 where
  go := fun i H Hs hi s1 s2 => by
    rw [numbered_len] at hi
    have e1 := r1.length
    exact ⟨xs, xs[i]'(by omega), (s1.trans s2).seq h1, List.getElem?_eq_getElem _⟩
  yld := fun i H Hs x H' d e s1 s2 y => by
    obtain ⟨T, u, rfl, nT, rfl, k1⟩ := y
    obtain ⟨dx, f1, rfl⟩ := numbered_at e
    obtain ⟨u', g1, g2⟩ := r1.get f1
    have q1 := k1 xs ((s1.trans s2).seq h1)
    rw [g1] at q1
    cases q1
    exact ⟨_, Grow.new s2 nT, pair_rep (dx := .int (i : Nat)) (s2.free nT) rfl (Rep.mono s1 dx g2)⟩
  stop := fun H Hs s1 s2 => by
    have e1 := r1.length
    exact ⟨xs, (s1.trans s2).seq h1, by rw [numbered_len, e1]; exact Nat.le_refl _⟩
def enumOf : List Dt → Option (List Dt)
  | [.lst l] => some (numbered l)
  | _ => none
def mEnum (ml : M (List Dt)) : M (List Dt) := bnd ml fun l => opt (enumOf l)
section
variable {X : Cx} {F : Fr0} {W : WX} {a b : Expr} {pos p tpos q : Pos} {elts : List Expr} {kk : Nat}
/-! ### list(range(..)) -/
def rgOk (i j : Int) : Bool := bnd62 i && (bnd62 j && decide ((j - i).toNat ≤ 2 ^ 20))
def lrg2 : Dt → Dt → Option (List Dt)
  | .int i, .int j => if rgOk i j = true then some (rngL i (j - i).toNat) else none
  | _, _ => none
def mLrg2 (ma mb : M Dt) : M (List Dt) := bnd ma fun x => bnd mb fun y => opt (lrg2 x y)
def mLrg1 (ma : M Dt) : M (List Dt) := bnd ma fun x => opt (lrg2 (.int 0) x)
/-! ### range with a step of -1 -/
def dnL (i : Int) (n : Nat) : List Dt := (List.range n).map fun k : Nat => .int (i + (k : Nat) * (-1))
def rngDn : List Dt → Option (List Dt)
  | [.int i, .int j, .int c] => if (bnd62 i && (bnd62 j && decide (c = -1))) = true then some (dnL i (i - j).toNat) else none
  | _ => none
end
section
variable {X : Cx} {F : Fr0} {W : WX} {a b c tg : Expr} {pos p : Pos}
end
end Pd


namespace Pd
open PySem PySem.Spec PyProof.Rows L2
/-! ### name = [.. for ..] on one line -/
section
variable {X : Cx} {F : Fr0} {W : WX} {elt tg iter : Expr} {ifs : List Expr} {scope : Scope} {own : List (Str × Nat)} {pos spos py : Pos} {T : Tgt} {ms : M (List Dt)} {mt : M Bool} {me : M Dt} {y : Str}
theorem comp_tlc (hT : TgtIn T (own.map (·.2))) {σ : L2.St} {H : Hp} {Q : VK} (h : tO X F W (mComp T (own.map (·.2)) ms mt me) σ H Q) :
    tLc (tI X F W ms) (gOf X.K T) (fun σ H Q => ∃ F, tT X F W0 mt σ H Q) (fun σ H Q => ∃ F, tD X F W0 me σ H Q) (own.map (·.2)) σ H Q := by
  refine comp_run hT (fun F σ H Hs ρ ρ' θ d v Q st r e q => ?_) (fun F σ H Q h => ⟨F, h⟩) (fun F σ H Q h => ⟨F, h⟩) h
  exact gOf_run st r e q
theorem lst_run {ml : M (List Dt)} {σ : L2.St} {H : Hp} {Q : VK} (h : tD X F W (mLst ml) σ H Q) : tO X F W ml σ H Q := by
  obtain ⟨ρ, θ, Hs, st, h⟩ := h
  refine then_O OkD.anti st h fun a xs l H1 Hs1 θ1 s1 st1 e1 e2 e3 e4 e5 e6 h => ?_
  exact h (.ref a) H1 _ (same_upd e3) (st_freeze st1 e1 e3 e4 e5 e6) ⟨a, xs, rfl, SqL.of upd_same, Reps.mono (same_upd e3) l e2⟩
theorem psd_setOC (i : Nat) (own : List (Str × Nat)) (T : Tgt) (hc : X.calm = true) (hN : X.N.Nodup) (hi : PID X F W tg iter ms) (ok : BlkOk X.N X.env.scope scope own) (hT : TgtIn T (own.map (·.2)))
    (hg : ∀ (s : Shared) (H : Hp) (C : Addr) (cl : List (Str × Addr)) (fp : List Addr), PG (X.blk s H scope (compEnvC scope cl C X.env) fp) tg (gOf X.K T))
    (ht : ∀ (F : Fr0) (s : Shared) (H : Hp) (C : Addr) (cl : List (Str × Addr)) (fp : List Addr), PTsD (X.blk s H scope (compEnvC scope cl C X.env) fp) F W0 ifs mt)
    (he : ∀ (F : Fr0) (s : Shared) (H : Hp) (C : Addr) (cl : List (Str × Addr)) (fp : List Addr), PD (X.blk s H scope (compEnvC scope cl C X.env) fp) F W0 elt me) (hsw : swapsWith (.ListComp elt [⟨tg, iter, ifs, 0⟩] scope pos) (some (.Name y py)) spos.line X.env = pure true)
    (hy : X.N[i]? = some y := by rfl) (hyl : X.env.scope.names.lookup y = some .local := by rfl) (hs : ∀ x, foldedSetIterable iter X.env x = pure x := by intro _; rfl) :
    PSD X F W (.Assign [.Name y py] (.ListComp elt [⟨tg, iter, ifs, 0⟩] scope pos) spos) (mSetO i (mComp T (own.map (·.2)) ms mt me)) := by
  have ht' : ∀ (s : Shared) (H : Hp) (C : Addr) (cl : List (Str × Addr)) (fp : List Addr), PTs (X.blk s H scope (compEnvC scope cl C X.env) fp) ifs (fun σ H Q => ∃ F, tT X F W0 mt σ H Q) := fun s H C cl fp => ⟨fun pins s1 σ H1 Q I ⟨F1, h⟩ => (ht F1 s H C cl fp).run pins s1 σ H1 Q I h⟩
  have he' : ∀ (s : Shared) (H : Hp) (C : Addr) (cl : List (Str × Addr)) (fp : List Addr), PE (X.blk s H scope (compEnvC scope cl C X.env) fp) elt (fun σ H Q => ∃ F, tD X F W0 me σ H Q) := fun s H C cl fp => ⟨fun pins s1 σ H1 Q I ⟨F1, h⟩ => (he F1 s H C cl fp).run pins s1 σ H1 Q I h⟩
  refine ps_imp (ps_setLc hc hN hy hyl hsw hi ok hg ht' he' hs) fun D σ H q => ?_
  refine comp_tlc hT ?_
  obtain ⟨ρ, θ, Hs, st, q⟩ := q
  exact then_O OkS.anti st q fun a xs l H1 Hs1 θ1 s1 st1 e1 e2 e3 e4 e5 e6 h => h _ H1 Hs1 (Same.refl _) (st_setO st1 i e1 e2 e3 e4 e5 fun j l _ => e6 j l)
theorem psd_setC (i : Nat) (own : List (Str × Nat)) (T : Tgt) (hc : X.calm = true) (hN : X.N.Nodup) (hi : PID X F W tg iter ms) (ok : BlkOk X.N X.env.scope scope own) (hT : TgtIn T (own.map (·.2)))
    (hg : ∀ (s : Shared) (H : Hp) (C : Addr) (cl : List (Str × Addr)) (fp : List Addr), PG (X.blk s H scope (compEnvC scope cl C X.env) fp) tg (gOf X.K T))
    (ht : ∀ (F : Fr0) (s : Shared) (H : Hp) (C : Addr) (cl : List (Str × Addr)) (fp : List Addr), PTsD (X.blk s H scope (compEnvC scope cl C X.env) fp) F W0 ifs mt)
    (he : ∀ (F : Fr0) (s : Shared) (H : Hp) (C : Addr) (cl : List (Str × Addr)) (fp : List Addr), PD (X.blk s H scope (compEnvC scope cl C X.env) fp) F W0 elt me) (hsw : swapsWith (.ListComp elt [⟨tg, iter, ifs, 0⟩] scope pos) (some (.Name y py)) spos.line X.env = pure true)
    (hy : X.N[i]? = some y := by rfl) (hyl : X.env.scope.names.lookup y = some .local := by rfl) (hs : ∀ x, foldedSetIterable iter X.env x = pure x := by intro _; rfl) :
    PSD X F W (.Assign [.Name y py] (.ListComp elt [⟨tg, iter, ifs, 0⟩] scope pos) spos) (mSet i (mLst (mComp T (own.map (·.2)) ms mt me))) := by
  have ht' : ∀ (s : Shared) (H : Hp) (C : Addr) (cl : List (Str × Addr)) (fp : List Addr), PTs (X.blk s H scope (compEnvC scope cl C X.env) fp) ifs (fun σ H Q => ∃ F, tT X F W0 mt σ H Q) := fun s H C cl fp => ⟨fun pins s1 σ H1 Q I ⟨F1, h⟩ => (ht F1 s H C cl fp).run pins s1 σ H1 Q I h⟩
  have he' : ∀ (s : Shared) (H : Hp) (C : Addr) (cl : List (Str × Addr)) (fp : List Addr), PE (X.blk s H scope (compEnvC scope cl C X.env) fp) elt (fun σ H Q => ∃ F, tD X F W0 me σ H Q) := fun s H C cl fp => ⟨fun pins s1 σ H1 Q I ⟨F1, h⟩ => (he F1 s H C cl fp).run pins s1 σ H1 Q I h⟩
  refine ps_imp (ps_setLc hc hN hy hyl hsw hi ok hg ht' he' hs) fun D σ H q => ?_
  refine comp_tlc hT (lst_run ?_)
  obtain ⟨ρ, θ, Hs, st, q⟩ := q
  exact then_D OkS.anti st q fun v d H1 Hs1 θ1 s1 st1 r1 h => h _ H1 Hs1 (Same.refl _) (st_set st1 i r1)
end
end Pd


namespace Pd
open PySem PySem.Spec
/-! ### rules to simplify by, for Pd12 to Pd17 -/
section
variable {ρ : DEnv} {θ : Pot}
theorem gv_tupOf (ml : M (List Dt)) {Q : Dt → Pot → Prop} : Gv (mTupOf ml ρ θ) Q = Gv (ml ρ θ) (optK tupOf ρ Q) := by
  unfold mTupOf
  rw [gv_bnd]
  rfl
theorem tupOf_l (l : List Dt) {Q : Dt → Pot → Prop} : Gv (opt (tupOf [.lst l]) ρ θ) Q = Q (.tup l) θ := rfl
theorem tupOf_t (l : List Dt) {Q : Dt → Pot → Prop} : Gv (opt (tupOf [.tup l]) ρ θ) Q = Q (.tup l) θ := rfl
theorem gv_listOf (ml : M (List Dt)) {Q : List Dt → Pot → Prop} : Gv (mListOf ml ρ θ) Q = Gv (ml ρ θ) (optK listOf ρ Q) := by
  unfold mListOf
  rw [gv_bnd]
  rfl
theorem listOf_l (l : List Dt) {Q : List Dt → Pot → Prop} : Gv (opt (listOf [.lst l]) ρ θ) Q = Q l θ := rfl
theorem listOf_t (l : List Dt) {Q : List Dt → Pot → Prop} : Gv (opt (listOf [.tup l]) ρ θ) Q = Q l θ := rfl
theorem gv_zip (ml : M (List Dt)) {Q : List Dt → Pot → Prop} : Gv (mZip ml ρ θ) Q = Gv (ml ρ θ) (optK zipOf ρ Q) := by
  unfold mZip
  rw [gv_bnd]
  rfl
theorem zipOf_l (l m : List Dt) {Q : List Dt → Pot → Prop} : Gv (opt (zipOf [.lst l, .lst m]) ρ θ) Q = Q (pairs l m) θ := rfl
theorem zipOf_t (l m : List Dt) {Q : List Dt → Pot → Prop} : Gv (opt (zipOf [.tup l, .tup m]) ρ θ) Q = Q (pairs l m) θ := rfl
theorem pairs_cons (x y : Dt) (l m : List Dt) : pairs (x :: l) (y :: m) = .tup [x, y] :: pairs l m := rfl
theorem gv_enum (ml : M (List Dt)) {Q : List Dt → Pot → Prop} : Gv (mEnum ml ρ θ) Q = Gv (ml ρ θ) (optK enumOf ρ Q) := by
  unfold mEnum
  rw [gv_bnd]
  rfl
theorem enumOf_l (l : List Dt) {Q : List Dt → Pot → Prop} : Gv (opt (enumOf [.lst l]) ρ θ) Q = Q (numbered l) θ := rfl
theorem add2_i (i j : Int) {Q : Dt → Pot → Prop} : Gv (opt (gAdd2 (.int i) (.int j)) ρ θ) Q = Q (.int (i + j)) θ := rfl
theorem add2_t (l m : List Dt) {Q : Dt → Pot → Prop} : Gv (opt (gAdd2 (.tup l) (.tup m)) ρ θ) Q = (l.length + m.length < bigL ∧ Q (.tup (l ++ m)) θ) := by
  have e : gAdd2 (.tup l) (.tup m) = if l.length + m.length < bigL then some (.tup (l ++ m)) else none := by
    show (none : Option Dt).or (gCat (.tup l) (.tup m)) = _
    rfl
  rw [e]
  by_cases h : l.length + m.length < bigL
  · rw [if_pos h]
    exact propext ⟨fun q => ⟨h, q⟩, fun q => q.2⟩
  · rw [if_neg h]
    exact propext ⟨fun q => q.elim, fun q => h q.1⟩
def slK2 (x : Dt) (l : Option Int) (ρ : DEnv) (Q : Dt → Pot → Prop) : Option Int → Pot → Prop := fun u θ => Gv (opt (gSl x l u) ρ θ) Q
def slK1 (mh : M (Option Int)) (x : Dt) (ρ : DEnv) (Q : Dt → Pot → Prop) : Option Int → Pot → Prop := fun l θ => Gv (mh ρ θ) (slK2 x l ρ Q)
def slK0 (ml mh : M (Option Int)) (ρ : DEnv) (Q : Dt → Pot → Prop) : Dt → Pot → Prop := fun x θ => Gv (ml ρ θ) (slK1 mh x ρ Q)
theorem gv_sl (ma : M Dt) (ml mh : M (Option Int)) {Q : Dt → Pot → Prop} : Gv (mSl ma ml mh ρ θ) Q = Gv (ma ρ θ) (slK0 ml mh ρ Q) := by
  unfold mSl
  simp only [gv_bnd]
  rfl
theorem slK0_a (ml mh : M (Option Int)) (x : Dt) {Q : Dt → Pot → Prop} : slK0 ml mh ρ Q x θ = Gv (ml ρ θ) (slK1 mh x ρ Q) := rfl
theorem slK1_a (mh : M (Option Int)) (x : Dt) (l : Option Int) {Q : Dt → Pot → Prop} : slK1 mh x ρ Q l θ = Gv (mh ρ θ) (slK2 x l ρ Q) := rfl
theorem slK2_a (x : Dt) (l u : Option Int) {Q : Dt → Pot → Prop} : slK2 x l ρ Q u θ = Gv (opt (gSl x l u) ρ θ) Q := rfl
theorem gSl_l (d : List Dt) (l u : Option Int) {Q : Dt → Pot → Prop} : Gv (opt (gSl (.lst d) l u) ρ θ) Q = Q (.lst (cutD d l u)) θ := rfl
theorem gSl_t (d : List Dt) (l u : Option Int) {Q : Dt → Pot → Prop} : Gv (opt (gSl (.tup d) l u) ρ θ) Q = Q (.tup (cutD d l u)) θ := rfl
theorem gv_noP {Q : Option Int → Pot → Prop} : Gv (mNoP ρ θ) Q = Q none θ := rfl
def ptK (Q : Option Int → Pot → Prop) : Dt → Pot → Prop := fun d θ => match d with
  | .int i => Q (some i) θ
  | _ => False
theorem gv_pt (ma : M Dt) {Q : Option Int → Pot → Prop} : Gv (mPt ma ρ θ) Q = Gv (ma ρ θ) (ptK Q) := by
  unfold mPt
  rw [gv_bnd]
  congr 1
  funext d θ1
  cases d <;> rfl
theorem ptK_a (i : Int) {Q : Option Int → Pot → Prop} : ptK Q (.int i) θ = Q (some i) θ := rfl
end
end Pd


namespace Pd
open PySem PySem.Spec PyProof.Rows L2
/-! ### x, y = (a fresh list, data): the second value is worked out in a frame of its own, which keeps the first -/
def mParOD (i j : Nat) (ml : M (List Dt)) (mb : M Dt) : M Out := bnd ml fun l ρ θ => match mb (hide ρ) θ with
  | .ok d θ' => .ok (.next ((ρ.set i (some (.own l))).set j (some (.dat d)))) θ'
  | _ => .bad
/-! ### x, y = (data, a fresh list) -/
def mParDO (i j : Nat) (mb : M Dt) (ml : M (List Dt)) : M Out := bnd mb fun d => bnd ml fun l ρ θ => .ok (.next ((ρ.set i (some (.dat d))).set j (some (.own l)))) θ
theorem psd_parDO {X : Cx} {F : Fr0} {W : WX} {pos : Pos} {i j : Nat} {x y : Str} {a b : Expr} {ml : M (List Dt)} {mb : M Dt} {px py pt : Pos} {kt k2 pt2} (hc : X.calm = true) (hN : X.N.Nodup) (hb : PD X F W a mb) (ha : PO X F W b ml)
    (hi : X.N[i]? = some x := by rfl) (hj : X.N[j]? = some y := by rfl) (hij : i ≠ j := by decide)
    (hx : X.env.scope.names.lookup x = some .local := by rfl) (hy : X.env.scope.names.lookup y = some .local := by rfl)
    (s1 : starEach [a, b] X.env = (false, eval a X.env) :: starEach [b] X.env := by rfl) (s2 : starEach [b] X.env = (false, eval b X.env) :: starEach [] X.env := by rfl)
    (hw : swappedStores [.Tuple [.Name x px, .Name y py] kt pt] (.Tuple [a, b] k2 pt2) X.env = pure (some [x, y]) := by rfl)
    (hs : swapsWithSole [.Tuple [.Name x px, .Name y py] kt pt] (.Tuple [a, b] k2 pt2) pos.line X.env = pure false := by rfl) :
    PSD X F W (.Assign [.Tuple [.Name x px, .Name y py] kt pt] (.Tuple [a, b] k2 pt2) pos) (mParDO i j mb ml) := by
  refine ps_imp (ps_par hc hN hi hj hij hx hy (pa_cons hb (pa_cons ha pa_nil s2) s1) hw hs) fun D σ H q => ?_
  obtain ⟨ρ, θ, Hs, st, q⟩ := q
  refine then_D OkS.anti st q fun v d H1 Hs1 θ1 t1 st1 r1 h => ?_
  refine then_O OkS.anti st1 h fun a0 xs l H2 Hs2 θ2 t2 st2 e1 e2 e3 e4 e5 e6 h => ?_
  have st3 := st_set st2 i (Rep.mono t2 d r1)
  refine ⟨v, .ref a0, rfl, h _ H2 Hs2 (Same.refl _) (st_setO st3 j e1 e2 e3 e4 e5 fun m l' _ e => ?_)⟩
  by_cases z : i = m
  · subst z
    rw [List.getElem?_set] at e
    by_cases w : i < ρ.length
    · rw [if_pos rfl, if_pos w] at e
      cases e
    · rw [if_pos rfl, if_neg w] at e
      cases e
  · rw [List.getElem?_set_ne z] at e ⊢
    exact e6 m l' e
end Pd


/-! list(zip(a, b)): the pairs stay, so the zip must make a new one each time. -/
namespace Pd
open PySem PySem.Spec PyProof.Rows L2
section
variable {prog : Program} {w : World} {A : Around} {E : Value → Shared → Prop} {s : Shared} {z TI TO T i1 i2 : Addr} {fp1 fp2 : List Addr} {n1 n2 i : Nat} {P1 P2 : Nat → Value → Prop} {St1 St2 : Nat → Heap → Prop}
theorem draws_tup (hh : A.handled = none) (it l : Addr) (hne : l ≠ it) (items : Array Value) :
    Draws prog w A it [it, l] items.size (fun i v => items[i]? = some v) (fun i h => h.IsTupleIter it l i ∧ h.IsTuple l items) where
  live := fun _ _ st => by obtain ⟨⟨o, ho, _⟩, _⟩ := st; exact ⟨o, ho⟩
  frame := fun _ _ _ st hk => ⟨st.1.at fun o e => hk it (by simp) o e, by
    obtain ⟨o, ho, r⟩ := st.2
    exact ⟨o, hk l (by simp) o ho, r⟩⟩
  item := fun i s Q E hi st hQ => by
    have hx : items[i]? = some items[i] := Array.getElem?_eq_getElem hi
    refine RZ.nextOf_tuple_item st.1 st.2 hx fun h' hit' sb => ?_
    refine hQ _ h' s.toks hx ⟨hit', ?_⟩ sb
    obtain ⟨o, ho, r⟩ := st.2
    exact ⟨o, sb.extBut _ _ hne ho, r⟩
  done := fun s Q E st hE => by
    refine RZ.nextOf_tuple_end hh st.1 st.2 (by simp) fun h' e hq he => ?_
    exact hE h' e hq he
/-- no pair is out, or one that stands above S -/
def ZSt (S : Addr) (h : Heap) (z TI TO i1 i2 : Addr) : Prop := IsTupOf2 h TI (.ref i1) (.ref i2) ∧ ((IsZip h z TI TO .none ∧ ∃ a b, IsTupOf2 h TO a b) ∨ ∃ T f o, IsZipHeld h z TI TO T f ∧ h.get? T = some o ∧ S < T)
structure ZLow (S z TI TO i1 i2 : Addr) : Prop where
  z : z < S
  I : TI < S
  O : TO < S
  a : i1 < S
  b : i2 < S
end
/-- the pairs that were made -/
structure ZG (P1 P2 : Nat → Value → Prop) (S : Addr) (h : Heap) (as : List Addr) : Prop where
  rise : as.Pairwise (· < ·)
  above : ∀ a ∈ as, S < a
  pairs : ∀ j a, as[j]? = some a → ∃ x y, P1 j x ∧ P2 j y ∧ IsTupOf2 h a x y
theorem ZG.there {P1 P2 : Nat → Value → Prop} {S : Addr} {h : Heap} {as : List Addr} (G : ZG P1 P2 S h as) {a : Addr} (ha : a ∈ as) : a < h.objs.size := by
  obtain ⟨j, hj⟩ := List.getElem?_of_mem ha
  obtain ⟨x, y, _, _, e⟩ := G.pairs j a hj
  exact Heap.lt_size e
section
variable {prog : Program} {w : World} {A : Around} {s : Shared} {z TI TO i1 i2 S : Addr} {fp1 fp2 : List Addr} {n1 n2 : Nat} {P1 P2 : Nat → Value → Prop} {St1 St2 : Nat → Heap → Prop} {R : Result → Shared → Prop}
end
end Pd


namespace Pd
open PySem PySem.Spec PyProof.Rows L2
/-! ### list(zip(a, b)), over the layer -/
def putP : List Addr → List (V × V) → Hp → Hp
  | a :: as, p :: ps, H => upd (putP as ps H) a (.tup [p.1, p.2])
  | _, _, H => H
def tListZip (K : PySem.W.Frag) (ta : TA) : TE := fun σ H Q => ta σ H fun vs H1 => ∃ a b xs ys, vs = [V.ref a, V.ref b] ∧ ((SqL K H1 a xs ∧ SqL K H1 b ys) ∨ (SqT K H1 a xs ∧ SqT K H1 b ys)) ∧
  ∀ (S : Addr) (as : List Addr), H1 S = none → (∀ t ∈ as, H1 t = none) → S ∉ as → as.Nodup → as.length = min xs.length ys.length → Q (.ref S) (putP as (xs.zip ys) (upd H1 S (.lst (as.map V.ref))))
section
variable {X : Cx} {a b : Expr} {ta : TA} {p q pos qpos : Pos}
end
/-! ### its mirror -/
def mListZip (ml : M (List Dt)) : M (List Dt) := bnd ml fun l => opt (zipOf l)
section
variable {X : Cx} {F : Fr0} {W : WX} {a b : Expr} {p q pos qpos : Pos}
end
end Pd


namespace Pd
open PySem PySem.Spec
theorem tk_none {X : L2.Cx} : L2.Takes X W0 := fun _ _ x => by
  obtain ⟨_, _, _, _, _, _, _, _, _, _, _, _, _, _, _, _, z⟩ := x
  exact z.elim
/-! ### more rules to simplify by -/
section
variable {ρ : DEnv} {θ : Pot}
def odK2 (i j : Nat) (l : List Dt) (ρ : DEnv) (Q : Out → Pot → Prop) : Dt → Pot → Prop := fun d θ => Q (.next ((ρ.set i (some (.own l))).set j (some (.dat d)))) θ
def odK1 (i j : Nat) (mb : M Dt) (ρ : DEnv) (Q : Out → Pot → Prop) : List Dt → Pot → Prop := fun l θ => Gv (mb (hide ρ) θ) (odK2 i j l ρ Q)
theorem gv_parOD (i j : Nat) (ml : M (List Dt)) (mb : M Dt) {Q : Out → Pot → Prop} : Gv (mParOD i j ml mb ρ θ) Q = Gv (ml ρ θ) (odK1 i j mb ρ Q) := by
  unfold mParOD
  rw [gv_bnd]
  congr 1
  funext l θ1
  unfold odK1
  show Gv (match mb (hide ρ) θ1 with | .ok d θ' => .ok (.next ((ρ.set i (some (.own l))).set j (some (.dat d)))) θ' | _ => .bad) Q = _
  cases mb (hide ρ) θ1 <;> rfl
theorem odK1_a (i j : Nat) (mb : M Dt) (l : List Dt) {Q : Out → Pot → Prop} : odK1 i j mb ρ Q l θ = Gv (mb (hide ρ) θ) (odK2 i j l ρ Q) := rfl
theorem odK2_a (i j : Nat) (l : List Dt) (d : Dt) {Q : Out → Pot → Prop} : odK2 i j l ρ Q d θ = Q (.next ((ρ.set i (some (.own l))).set j (some (.dat d)))) θ := rfl
def doK2 (i j : Nat) (d : Dt) (ρ : DEnv) (Q : Out → Pot → Prop) : List Dt → Pot → Prop := fun l θ => Q (.next ((ρ.set i (some (.dat d))).set j (some (.own l)))) θ
def doK1 (i j : Nat) (ml : M (List Dt)) (ρ : DEnv) (Q : Out → Pot → Prop) : Dt → Pot → Prop := fun d θ => Gv (ml ρ θ) (doK2 i j d ρ Q)
theorem gv_parDO (i j : Nat) (mb : M Dt) (ml : M (List Dt)) {Q : Out → Pot → Prop} : Gv (mParDO i j mb ml ρ θ) Q = Gv (mb ρ θ) (doK1 i j ml ρ Q) := by
  unfold mParDO
  rw [gv_bnd]
  congr 1
  funext d θ1
  rw [gv_bnd]
  rfl
theorem doK1_a (i j : Nat) (ml : M (List Dt)) (d : Dt) {Q : Out → Pot → Prop} : doK1 i j ml ρ Q d θ = Gv (ml ρ θ) (doK2 i j d ρ Q) := rfl
theorem doK2_a (i j : Nat) (l : List Dt) (d : Dt) {Q : Out → Pot → Prop} : doK2 i j d ρ Q l θ = Q (.next ((ρ.set i (some (.dat d))).set j (some (.own l)))) θ := rfl
def lrK (ρ : DEnv) (Q : List Dt → Pot → Prop) : Dt → Pot → Prop := fun x θ => Gv (opt (lrg2 (.int 0) x) ρ θ) Q
def lr2K2 (x : Dt) (ρ : DEnv) (Q : List Dt → Pot → Prop) : Dt → Pot → Prop := fun y θ => Gv (opt (lrg2 x y) ρ θ) Q
def lr2K1 (mb : M Dt) (ρ : DEnv) (Q : List Dt → Pot → Prop) : Dt → Pot → Prop := fun x θ => Gv (mb ρ θ) (lr2K2 x ρ Q)
/-- l.index(x) -/
def ixdK2 (x : Dt) (ρ : DEnv) (Q : Dt → Pot → Prop) : List Dt → Pot → Prop := fun l θ => match l with
  | [y] => Gv (opt (gIndex x y) ρ θ) Q
  | _ => False
def ixdK1 (ml : M (List Dt)) (ρ : DEnv) (Q : Dt → Pot → Prop) : Dt → Pot → Prop := fun x θ => match x with
  | .lst l => Gv (ml ρ θ) (ixdK2 (.lst l) ρ Q)
  | _ => False
end
/-! ### data that can be compared, shown -/
mutual
def okD : Dt → Prop
  | .int i => i.natAbs.log2 < 1920
  | .str s => PyData.strOk s = true
  | .lst l => oks l
  | .tup l => oks l
  | .raw _ => False
  | _ => True
def oks : List Dt → Prop
  | [] => True
  | d :: ds => okD d ∧ oks ds
end
mutual
def depD : Dt → Nat
  | .lst l => deps l + 1
  | .tup l => deps l + 1
  | _ => 0
def deps : List Dt → Nat
  | [] => 0
  | d :: ds => max (depD d) (deps ds)
end
mutual
def costD : Dt → Nat
  | .non => 4
  | .bl _ => 5
  | .int _ => 2000
  | .str s => (reprText s).length
  | .lst l => costs l + 3
  | .tup l => costs l + 3
  | .raw _ => 0
def costs : List Dt → Nat
  | [] => 0
  | d :: ds => costD d + 2 + costs ds
end
mutual
theorem okD_p : ∀ {d : Dt}, okD d → ∃ p, toP d = some p ∧ p.showable = true ∧ p.hasDict = false ∧ p.canLay0 = true ∧ p.depth = depD d ∧ p.shown.length ≤ costD d
  | .non, _ => ⟨_, rfl, by simp only [PyData.showable], by simp only [PyData.hasDict], by simp only [PyData.canLay0], by simp only [PyData.depth, depD], by simp only [PyData.shown]; decide⟩
  | .bl b, _ => ⟨_, rfl, by simp only [PyData.showable], by simp only [PyData.hasDict], by simp only [PyData.canLay0], by simp only [PyData.depth, depD], by simp only [PyData.shown]; cases b <;> decide⟩
  | .int i, h => by
    have h : i.natAbs.log2 < 1920 := by simpa only [okD] using h
    refine ⟨_, rfl, ?_, by simp only [PyData.hasDict], by simp only [PyData.canLay0], by simp only [PyData.depth, depD], ?_⟩
    · simp only [PyData.showable]
      exact decide_eq_true h
    · simp only [PyData.shown, costD]
      have l1 := int_text_length_le (k := 1920) (by decide) h
      have k1 : (Str.ofString (toString i)).length = (toString i).length := ofString_length _
      rw [k1]
      omega
  | .str s, h => by
    have h : PyData.strOk s = true := by simpa only [okD] using h
    refine ⟨_, rfl, by simp only [PyData.showable], by simp only [PyData.hasDict], ?_, by simp only [PyData.depth, depD], ?_⟩
    · simp only [PyData.canLay0]
      exact h
    · simp only [PyData.shown, costD]
      exact Nat.le_refl _
  | .lst l, h => by
    obtain ⟨ps, e, k1, k2, k3, k4, k5, k6⟩ := oks_p (show oks l by simpa only [okD] using h)
    refine ⟨.list ps, by show (toPs l).map PyData.list = _; rw [e]; rfl, ?_, ?_, ?_, ?_, ?_⟩
    · simp only [PyData.showable]; exact k1
    · simp only [PyData.hasDict]; exact k2
    · simp only [PyData.canLay0]; exact k3
    · simp only [PyData.depth, depD]; rw [k4]
    · simp only [PyData.shown, costD]
      have := PySem.listText_len_le (PyData.shownAll ps)
      omega
  | .tup l, h => by
    obtain ⟨ps, e, k1, k2, k3, k4, k5, k6⟩ := oks_p (show oks l by simpa only [okD] using h)
    refine ⟨.tuple ps, by show (toPs l).map PyData.tuple = _; rw [e]; rfl, ?_, ?_, ?_, ?_, ?_⟩
    · simp only [PyData.showable]; exact k1
    · simp only [PyData.hasDict]; exact k2
    · simp only [PyData.canLay0]; exact k3
    · simp only [PyData.depth, depD]; rw [k4]
    · simp only [PyData.shown, costD]
      have := PySem.tupleText_len_le (PyData.shownAll ps)
      omega
  | .raw _, h => by simp only [okD] at h
theorem oks_p : ∀ {l : List Dt}, oks l → ∃ ps, toPs l = some ps ∧ PyData.showableAll ps = true ∧ PyData.hasDictAll ps = false ∧ PyData.canLayAll0 ps = true ∧ PyData.depthAll ps = deps l ∧ ((PyData.shownAll ps).map (·.length)).sum + 2 * (PyData.shownAll ps).length ≤ costs l ∧ ps.length = l.length
  | [], _ => ⟨[], rfl, by simp only [PyData.showableAll], by simp only [PyData.hasDictAll], by simp only [PyData.canLayAll0], by simp only [PyData.depthAll, deps], by simp only [PyData.shownAll]; exact Nat.zero_le _, rfl⟩
  | d :: ds, h => by
    obtain ⟨h1, h2⟩ := (show okD d ∧ oks ds by simpa only [oks] using h)
    obtain ⟨p, e, k1, k2, k3, k4, k5⟩ := okD_p h1
    obtain ⟨ps, e', j1, j2, j3, j4, j5, j6⟩ := oks_p h2
    refine ⟨p :: ps, by unfold toPs; rw [e, e'], ?_, ?_, ?_, ?_, ?_, ?_⟩
    · simp only [PyData.showableAll, k1, j1, Bool.and_self]
    · simp only [PyData.hasDictAll, k2, j2, Bool.or_self]
    · simp only [PyData.canLayAll0, k3, j3, Bool.and_self]
    · simp only [PyData.depthAll, deps, k4, j4]
    · simp only [PyData.shownAll, costs, List.map_cons, List.sum_cons, List.length_cons]
      omega
    · rw [List.length_cons, List.length_cons, j6]
end
theorem shw_ok {d : Dt} (h : okD d) (h1 : depD d ≤ 60) (h2 : costD d ≤ 16777216) : ∃ s, shw d = some s := by
  obtain ⟨p, e, k1, k2, k3, k4, k5⟩ := okD_p h
  refine ⟨p.shown, ?_⟩
  have e4 : sizeLine = 16777216 := by decide
  unfold shw
  rw [e]
  show (if _ then _ else _) = _
  rw [k1, k2, decide_eq_true (show p.depth ≤ 60 by omega), decide_eq_true (show p.shown.length ≤ sizeLine by rw [e4]; omega)]
  rfl
theorem repr_ok {d : Dt} (h : okD d) (h1 : depD d ≤ 60) (h2 : costD d ≤ 16777216) : ∃ s, ∀ (ρ : DEnv) (θ : Pot) (Q : Dt → Pot → Prop), Gv (opt (gRepr [d]) ρ θ) Q = Q (.str s) θ := by
  obtain ⟨s, e⟩ := shw_ok h h1 h2
  refine ⟨s, fun ρ θ Q => ?_⟩
  show Gv (opt ((shw d).map Dt.str) ρ θ) Q = _
  rw [e]
  rfl
theorem deq_refl {d : Dt} (h : okD d) (h1 : depD d ≤ 64) : deq d d = some true := by
  obtain ⟨p, e, k1, k2, k3, k4, k5⟩ := okD_p h
  have s : SeqAt.shaped p = true := by
    show (p.canLay0 && decide (p.depth ≤ 64)) = true
    rw [k3, decide_eq_true (by omega)]
    rfl
  unfold deq
  rw [e]
  show (if (SeqAt.shaped p && SeqAt.shaped p) = true then some (PyData.eqv p p) else none) = some true
  rw [s, SeqAt.eqv_refl p k3]
  rfl
theorem gEq_refl {d : Dt} (h : okD d) (h1 : depD d ≤ 64) {ρ : DEnv} {θ : Pot} {Q : Dt → Pot → Prop} : Gv (opt (gEq d d) ρ θ) Q = Q (.bl true) θ := by
  have e : gEq d d = some (.bl true) := by
    unfold gEq
    rw [deq_refl h h1]
    cases d with
    | str s =>
      show some (Dt.bl (decide (s = s))) = _
      rw [decide_eq_true rfl]
    | _ => rfl
  rw [e]
  rfl
theorem oks_map {α : Type} {f : α → Dt} : ∀ {l : List α}, (∀ a ∈ l, okD (f a)) → oks (l.map f)
  | [], _ => by simp only [List.map_nil, oks]
  | a :: l, h => by
    simp only [List.map_cons, oks]
    exact ⟨h a List.mem_cons_self, oks_map fun b hb => h b (List.mem_cons_of_mem _ hb)⟩
theorem deps_map {α : Type} {f : α → Dt} {n : Nat} : ∀ {l : List α}, (∀ a ∈ l, depD (f a) ≤ n) → deps (l.map f) ≤ n
  | [], _ => by simp only [List.map_nil, deps]; exact Nat.zero_le _
  | a :: l, h => by
    simp only [List.map_cons, deps]
    have h1 := h a List.mem_cons_self
    have h2 := deps_map (f := f) (n := n) (l := l) fun b hb => h b (List.mem_cons_of_mem _ hb)
    omega
theorem costs_map {α : Type} {f : α → Dt} {n : Nat} : ∀ {l : List α}, (∀ a ∈ l, costD (f a) ≤ n) → costs (l.map f) ≤ l.length * (n + 2)
  | [], _ => by simp only [List.map_nil, costs]; exact Nat.zero_le _
  | a :: l, h => by
    simp only [List.map_cons, costs, List.length_cons]
    have h1 := h a List.mem_cons_self
    have h2 := costs_map (f := f) (n := n) (l := l) fun b hb => h b (List.mem_cons_of_mem _ hb)
    rw [Nat.succ_mul]
    omega
/-! ### comprehensions over mapped lists; built-ins over them -/
section
variable {ρ : DEnv} {θ : Pot}
/-- each element is worked out without a change of the pot -/
theorem cmap {α : Type} {T : Tgt} {vs : List Nat} {elt : M Dt} {Q : List Dt → Pot → Prop} {g f : α → Dt} : ∀ (l : List α), (∀ a ∈ l, cmpR (bindT T (g a) (wipeD (hide ρ) vs)) fun ρ1 => Gv (elt ρ1 θ) fun d θ' => d = f a ∧ θ' = θ) → Q (l.map f) θ → Gv (compGo T vs tt1 elt (l.map g) ρ θ) Q
  | [], _, q => q
  | a :: l, h, q => by
    have ha := h a List.mem_cons_self
    rw [List.map_cons, gv_comp1]
    cases e : bindT T (g a) (wipeD (hide ρ) vs) with
    | none => rw [e] at ha; exact ha.elim
    | some ρ1 =>
      rw [e] at ha
      rw [cmpR_s, cmpK1_a, gv_tt1]
      show Gv (elt ρ1 θ) (cmpK2 T vs tt1 elt (l.map g) ρ Q)
      refine ha.imp ?_
      rintro d1 θ1 ⟨e1, e2⟩
      rw [cmpK2_a, e1, e2]
      exact cmap (Q := consK2 (f a) Q) l (fun b hb => h b (List.mem_cons_of_mem _ hb)) q
theorem pairs_map {α β : Type} (f : α → Dt) (g : β → Dt) : ∀ (l : List α) (m : List β), pairs (l.map f) (m.map g) = (l.zip m).map fun p => .tup [f p.1, g p.2]
  | [], m => by rw [List.map_nil, List.zip_nil_left]; rfl
  | a :: l, [] => rfl
  | a :: l, b :: m => by
    have ih := pairs_map f g l m
    rw [List.map_cons, List.map_cons, pairs_cons, ih]
    rfl
theorem boolsOf_map {α : Type} (p : α → Bool) : ∀ l : List α, boolsOf (l.map fun a => Dt.bl (p a)) = some (l.map p)
  | [] => rfl
  | a :: l => by
    show (boolsOf (l.map fun a => Dt.bl (p a))).map (p a :: ·) = _
    rw [boolsOf_map p l]
    rfl
theorem gv_allM {α : Type} (p : α → Bool) (l : List α) {Q : Dt → Pot → Prop} : Gv (opt (gAll [.lst (l.map fun a => Dt.bl (p a))]) ρ θ) Q = Q (.bl (l.all p)) θ := by
  have e : gAll [.lst (l.map fun a => Dt.bl (p a))] = some (.bl (l.all p)) := by
    show (boolsOf (l.map fun a => Dt.bl (p a))).map (fun ns => Dt.bl (ns.all id)) = _
    rw [boolsOf_map]
    show some (Dt.bl _) = _
    rw [List.all_map]
    rfl
  rw [e]
  rfl
theorem mapC {α β γ : Type} (f : β → γ) (g : α → β) (l : List α) : (l.map g).map f = l.map fun a => f (g a) := by rw [List.map_map]; rfl
end
end Pd


/-! defs as values: compared, called by a local name -/
namespace Pd
open PySem PySem.Spec PyProof.Rows L2
section
variable {prog : Program} {w : World} {A : Around} {E : Value → Shared → Prop} {s : Shared} {x y : Addr}
def IsFn (h : Heap) (x : Addr) : Prop := ∃ o, h.get? x = some o ∧ o.cls = .type "function"
theorem IsFn.ty {x : Addr} (h : IsFn s.heap x) : s.TypeIs (.ref x) "function" := by
  obtain ⟨o, h1, h2⟩ := h
  exact ⟨o, h1, h2⟩
end
/-- defs compared: those of a list -/
def gEqF (l : List Addr) : Dt → Dt → Option Dt
  | .raw (.ref a), .raw (.ref b) => if (l.contains a && l.contains b) = true then some (.bl (decide (a = b))) else none
  | _, _ => none
section
variable {X : Cx} {F : Fr0} {W : WX} {pos p : Pos} {x : Str} {e : Expr} {es : List Expr}
/-- a call of a local name that holds one of these defs -/
def mCallV (tab : List (Addr × Mir)) (i : Nat) (ml : M (List Ent)) : M Dt := fun ρ θ => match ρ[i]? with
  | some (some (.dat (.raw (.ref a)))) => match tab.lookup a with
    | some m => bnd ml (fun l => callD m l) ρ θ
    | none => .bad
  | _ => .bad
structure HeldD (P : Program) (w : World) (K : PySem.W.Frag) (mg : Str → Option Value) (base : Heap) (k n : Nat) (a : Addr) (m : Mir) : Prop where
  ex : ∃ (fd : FuncData) (ps : List Str), FnP P w K mg base k a fd ps m ∧ PySem.W.keepIn K (.ref a) = true ∧ ps.length = n ∧ ∀ (s : Shared) (us : List Value), K.In s.heap → us.length = n → BindsTo s fd ⟨us, []⟩ (ps.zip us)
end
/-! ### what a head tells of defs that are used as values -/
def exFn (K : PySem.W.Frag) (x : Str) : Bool := match PySem.W.nsIn K mainGlobals x with
  | some (some (.ref a)) => decide (PySem.W.typeIn K (.ref a) = some (.type "function"))
  | _ => false
def exNe (K : PySem.W.Frag) (x y : Str) : Bool := decide (PySem.W.nsIn K mainGlobals x ≠ PySem.W.nsIn K mainGlobals y)
theorem FnP.none {P : Program} {w : World} {K : PySem.W.Frag} {mg : Str → Option Value} {base : Heap} {k : Nat} {f : Addr} {fd : FuncData} {ps : List Str} : FnP P w K mg base k f fd ps (fun _ _ => .bad) :=
  ⟨fun A outer s H args us vs Q E hr hg e0 hbd r hsp => by
    obtain ⟨_, ap, Hs, es, θ, _, _, _, _, post⟩ := hsp
    exact post.elim⟩
section
variable {ρ : DEnv} {θ : Pot}
def cvK (m : Mir) (Q : Dt → Pot → Prop) : List Ent → Pot → Prop := fun l θ => Gv (m l θ) (rdK Q)
def cvR (tab : List (Addr × Mir)) (ml : M (List Ent)) (x : Option (Option Ent)) (ρ : DEnv) (θ : Pot) (Q : Dt → Pot → Prop) : Prop := match x with
  | some (some (.dat (.raw (.ref a)))) => match tab.lookup a with
    | some m => Gv (ml ρ θ) (cvK m Q)
    | none => False
  | _ => False
end
end Pd


namespace Pd
open PySem PySem.Spec PyProof.Rows L2
/-! ### lists of one's own, read as data: what comes holds no list -/
def frzE1 : Option Ent → Option Ent
  | some (.own l) => some (.dat (.lst l))
  | x => x
def frzAll (ρ : DEnv) : DEnv := ρ.map frzE1
def flatD : Dt → Bool
  | .non => true
  | .bl _ => true
  | .int _ => true
  | .str _ => true
  | _ => false
def mLend (m : M Dt) : M Dt := fun ρ θ => match m (frzAll ρ) θ with
  | .ok d θ' => if flatD d = true then .ok d θ' else .bad
  | _ => .bad
theorem flat_rep {K : PySem.W.Frag} {H H' : Hp} {d : Dt} {v : V} (h : flatD d = true) (r : Rep K H d v) : Rep K H' d v := by
  cases d with
  | non => exact r
  | bl b => exact r
  | int i => exact r
  | str s => exact r
  | lst l => cases h
  | tup l => cases h
  | raw u => cases h
theorem st_frzX {X : Cx} {F : Fr0} (i : Nat) {σ : L2.St} {H Hs : Hp} {ρ : DEnv} {θ : Pot} (st : StOk X.K F σ H Hs ρ θ) : ∃ Hs', Same Hs Hs' ∧ StOk X.K F σ H Hs' (frz i ρ) θ ∧ ∀ (l : List Dt) (a : Addr) (o : HO), ρ[i]? = some (some (.own l)) → σ[i]? = some (some (.ref a)) → H a = some o → Hs' a = some o := by
  unfold frz
  split
  · rename_i l e
    obtain ⟨a, xs, e1, e2, e3, e4, e5, e6⟩ := st.own i l e
    have st1 : StOk X.K F σ H Hs (ρ.set i none) θ := by
      exact ⟨st.sub, st.hap, st.pot, st.old, st.frs, fun j d z => st.dat j d (set_none_at z).2, fun j m z => st.own j m (set_none_at z).2, fun j k m m' b z1 z2 => st.sep j k m m' b (set_none_at z1).2 (set_none_at z2).2, fun j z => st.pt j (set_none_at z).2, by rw [List.length_set]; exact st.len⟩
    have st2 := st_freeze st1 e2 e4 e5 e6 fun j m z q => by
      obtain ⟨k, z⟩ := set_none_at z
      exact k (st.sep i j l m a e z e1 q)
    have st3 := st_set st2 i (d := .lst l) (v := .ref a) ⟨a, xs, rfl, SqL.of upd_same, Reps.mono (same_upd e4) l e3⟩
    rw [List.set_set] at st3
    rw [getElem?_set_self_of e1] at st3
    refine ⟨_, same_upd e4, st3, fun l2 a2 o _ g1 g2 => ?_⟩
    rw [e1] at g1
    cases g1
    rw [e2] at g2
    rw [upd_same]
    exact g2
  · rename_i h
    exact ⟨Hs, Same.refl _, st, fun l a o z => absurd z (h l)⟩
/-- all lists of one's own frozen, one name after the other -/
theorem st_frzAll {X : Cx} {F : Fr0} {σ : L2.St} {H Hs : Hp} {ρ : DEnv} {θ : Pot} (st : StOk X.K F σ H Hs ρ θ) : ∃ Hs', Same Hs Hs' ∧ StOk X.K F σ H Hs' (frzAll ρ) θ ∧ ∀ (i : Nat) (l : List Dt) (a : Addr) (o : HO), ρ[i]? = some (some (.own l)) → σ[i]? = some (some (.ref a)) → H a = some o → Hs' a = some o := by
  have key : ∀ n, n ≤ ρ.length → ∃ Hs', Same Hs Hs' ∧ StOk X.K F σ H Hs' (frzAll (ρ.take n) ++ ρ.drop n) θ ∧ ∀ (i : Nat) (l : List Dt) (a : Addr) (o : HO), i < n → ρ[i]? = some (some (.own l)) → σ[i]? = some (some (.ref a)) → H a = some o → Hs' a = some o := by
    intro n
    induction n with
    | zero => exact fun _ => ⟨Hs, Same.refl _, by simpa [frzAll] using st, fun i l a o h => absurd h (Nat.not_lt_zero _)⟩
    | succ n ih =>
      intro hn
      obtain ⟨Hs1, s1, st1, k1⟩ := ih (by omega)
      obtain ⟨Hs2, s2, st2, k2⟩ := st_frzX n st1
      have ln : (frzAll (ρ.take n)).length = n := by
        unfold frzAll
        rw [List.length_map, List.length_take]
        omega
      have hd : ρ.drop n = ρ[n] :: ρ.drop (n + 1) := List.drop_eq_getElem_cons (by omega)
      have at_ : (frzAll (ρ.take n) ++ ρ.drop n)[n]? = some ρ[n] := by
        rw [List.getElem?_append_right (by omega), ln, Nat.sub_self, hd]
        rfl
      refine ⟨Hs2, s1.trans s2, ?_, fun i l a o hi g1 g2 g3 => ?_⟩
      · have tk : frzAll (ρ.take (n + 1)) = frzAll (ρ.take n) ++ [frzE1 ρ[n]] := by
          unfold frzAll
          rw [← List.take_append_getElem (show n < ρ.length by omega), List.map_append]
          rfl
        have st_ : ∀ y : Option Ent, (frzAll (ρ.take n) ++ ρ.drop n).set n y = frzAll (ρ.take n) ++ y :: ρ.drop (n + 1) := fun y => by
          rw [List.set_append_right _ _ (by omega), ln, Nat.sub_self, hd]
          rfl
        have e : frz n (frzAll (ρ.take n) ++ ρ.drop n) = frzAll (ρ.take (n + 1)) ++ ρ.drop (n + 1) := by
          unfold frz
          rw [at_, tk, List.append_assoc]
          cases h : ρ[n] with
          | none =>
            show frzAll (ρ.take n) ++ ρ.drop n = _
            rw [hd, h]
            rfl
          | some x =>
            cases x with
            | own l =>
              show (frzAll (ρ.take n) ++ ρ.drop n).set n _ = _
              rw [st_]
              rfl
            | dat d =>
              show frzAll (ρ.take n) ++ ρ.drop n = _
              rw [hd, h]
              rfl
            | pot =>
              show frzAll (ρ.take n) ++ ρ.drop n = _
              rw [hd, h]
              rfl
        rw [e] at st2
        exact st2
      · rcases Nat.lt_or_ge i n with z | z
        · exact s2 _ _ (k1 i l a o z g1 g2 g3)
        · have : i = n := by omega
          subst this
          refine k2 l a o ?_ g2 g3
          rw [at_, ← g1]
          exact (List.getElem?_eq_getElem (by omega)).symm
  obtain ⟨Hs', s, q, k⟩ := key ρ.length (Nat.le_refl _)
  rw [List.take_length, List.drop_length, List.append_nil] at q
  exact ⟨Hs', s, q, fun i l a o g => k i l a o (List.getElem?_eq_some_iff.mp g).1 g⟩
section
variable {X : Cx} {F : Fr0} {W : WX} {a b c e : Expr} {pos : Pos}
theorem pd_lend {m : M Dt} (h : PD X F W e m) : PD X F W e (mLend m) := by
  refine pe_imp h fun σ H Q q => ?_
  obtain ⟨ρ, θ, Hs, st, q⟩ := q
  obtain ⟨Hs1, s1, st1, k1⟩ := st_frzAll st
  refine ⟨frzAll ρ, θ, Hs1, st1, ?_⟩
  unfold mLend at q
  cases em : m (frzAll ρ) θ with
  | bad => rw [em] at q; exact q.elim
  | exn e ρ' θ' => rw [em] at q; exact q.elim
  | ok d θ' =>
    rw [em] at q
    by_cases fl : flatD d = true
    · dsimp only at q
      rw [if_pos fl] at q
      intro v H' Hs' s' st' r'
      refine q v H' Hs (Same.refl _) ⟨?_, st.hap, st'.pot, st'.old, st.frs, st.dat, ?_, st.sep, st.pt, st.len⟩ (flat_rep fl r')
      · exact fun b o hb => st'.sub _ _ (s' _ _ (s1 _ _ hb))
      · intro i l hi
        obtain ⟨a, xs, e1, e2, e3, e4, e5, e6⟩ := st.own i l hi
        refine ⟨a, xs, e1, ?_, e3, e4, e5, e6⟩
        exact st'.sub _ _ (s' _ _ (k1 i l a _ hi e1 e2))
    · dsimp only at q
      rw [if_neg fl] at q
      exact q.elim
/-! ### x[e], x[f] = a, b with x a list of one's own -/
def mIt (i : Nat) (mb : M Dt) (d : Dt) : M Out := fun ρ θ => match ρ[i]? with
  | some (some (.own l)) => bnd mb (fun k ρ θ => match k with
    | .int j => match ixN l.length j with
      | some n => .ok (.next (ρ.set i (some (.own (l.set n d))))) θ
      | none => .bad
    | _ => .bad) ρ θ
  | _ => .bad
def mSetI2 (i : Nat) (mb mc ma : M Dt) : M Out := bnd ma fun d => match d with
  | .tup [d1, d2] => bnd (mIt i mb d1) fun o => fun _ θ => match o with
    | .next ρ' => mIt i mc d2 ρ' θ
    | _ => .bad
  | _ => bad
theorem sub_own {i : Nat} {mb : M Dt} {d : Dt} {x : V} {β : Type} {f : Out → M β} {okb : Hp → β → Pot → Prop} {σ : L2.St} {H Hs : Hp} {ρ : DEnv} {θ : Pot} {G : L2.St → Hp → Prop} (anti : ∀ {Hs Hs1}, Same Hs Hs1 → ∀ b θ, okb Hs b θ → okb Hs1 b θ) (st : StOk X.K F σ H Hs ρ θ) (r1 : Rep X.K Hs d x)
    (hp : Post (bnd (mIt i mb d) f ρ θ) (okb Hs) (ExW X F W Hs)) (k : ∀ H' Hs' ρ' θ', Same Hs Hs' → StOk X.K F σ H' Hs' ρ' θ' → Post (f (.next ρ') ρ θ') (okb Hs') (ExW X F W Hs') → G σ H') : L2.gSub (tVar i) (tD X F W mb) rSetL x σ H G := by
  have q := post_bnd hp
  unfold mIt at q
  split at q
  · rename_i l eo
    obtain ⟨p0, xs0, e1, e2, e3⟩ := st_own_at st eo
    refine ⟨.ref p0, e1, ?_⟩
    refine then_D (okb := fun Hs o θ' => Post (f o ρ θ') (okb Hs) (ExW X F W Hs)) (fun s o θ' z => z.imp (anti s) (ExW.anti s)) st q fun u k' H2 Hs2 θ2 s2 st2 r2 h => ?_
    cases k' with
    | int j =>
      dsimp only at h
      split at h
      · rename_i n en
        obtain ⟨p1, xs, f1, f2, f3⟩ := st_own_at st2 eo
        rw [e1] at f1
        cases f1
        refine ⟨p0, xs, j, n, rfl, r2, f2, by rw [← f3.length]; exact en, ?_⟩
        exact k _ Hs2 _ θ2 s2 (st_own st2 eo e1 f2 (f3.set (Rep.mono s2 d r1) n)) h
      · exact h.elim
    | _ => exact h.elim
  · exact q.elim
theorem psd_setI2 (i : Nat) {y : Str} {u v b c : Expr} {ma mb mc : M Dt} {q1 s1 q2 s2 pt pt2 pos : Pos} {kt k2 : Nat} (hc : X.calm = true) (hT : PD X F W (.Tuple [u, v] k2 pt2) ma) (hb : PD X F W b mb) (hb2 : PD X F W c mc) (hN : X.N[i]? = some y := by rfl) (hv : Vis X.env.scope y := by first | exact Or.inl rfl | exact Or.inr (Or.inl rfl) | exact Or.inr (Or.inr rfl)) (hd : (y == ("__debug__" : Str)) = false := by decide)
    (hcd : (y == ("__classdict__" : Str)) = false := by decide)
    (has : ∀ v, assign (.Subscript (.Name y q1) b s1) X.env v = (do
      let ov ← holding [v] (eval (.Name y q1) X.env)
      let iv ← holding [v, ov] (eval b X.env)
      standAt s1
      holding [v, ov, iv] (setItem ov iv v)
      release [v, ov, iv] []) := by intro _; rfl)
    (has2 : ∀ v, assign (.Subscript (.Name y q2) c s2) X.env v = (do
      let ov ← holding [v] (eval (.Name y q2) X.env)
      let iv ← holding [v, ov] (eval c X.env)
      standAt s2
      holding [v, ov, iv] (setItem ov iv v)
      release [v, ov, iv] []) := by intro _; rfl)
    (g1 : (assignEach [.Subscript (.Name y q1) b s1, .Subscript (.Name y q2) c s2] X.env).map (·.2) = assign (.Subscript (.Name y q1) b s1) X.env :: (assignEach [.Subscript (.Name y q2) c s2] X.env).map (·.2) := by rfl)
    (g2 : (assignEach [.Subscript (.Name y q2) c s2] X.env).map (·.2) = assign (.Subscript (.Name y q2) c s2) X.env :: (assignEach [] X.env).map (·.2) := by rfl)
    (g3 : (assignEach [.Subscript (.Name y q1) b s1, .Subscript (.Name y q2) c s2] X.env).length = 2 := by rfl) (g4 : (assignEach [.Subscript (.Name y q1) b s1, .Subscript (.Name y q2) c s2] X.env).findIdx? (·.1) = none := by rfl)
    (hs : swapsWithSole [.Tuple [.Subscript (.Name y q1) b s1, .Subscript (.Name y q2) c s2] kt pt] (.Tuple [u, v] k2 pt2) pos.line X.env = pure false := by rfl)
    (hw : swappedStores [.Tuple [.Subscript (.Name y q1) b s1, .Subscript (.Name y q2) c s2] kt pt] (.Tuple [u, v] k2 pt2) X.env = pure none := by rfl)
    (h1 : (assignEach [.Tuple [.Subscript (.Name y q1) b s1, .Subscript (.Name y q2) c s2] kt pt] X.env).map (·.2) = [assign (.Tuple [.Subscript (.Name y q1) b s1, .Subscript (.Name y q2) c s2] kt pt) X.env] := by rfl) :
    PSD X F W (.Assign [.Tuple [.Subscript (.Name y q1) b s1, .Subscript (.Name y q2) c s2] kt pt] (.Tuple [u, v] k2 pt2) pos) (mSetI2 i mb mc ma) := by
  have PY : ∀ {r : Pos}, PE X (.Name y r) (tVar i) := pe_var hN hv hd hcd
  refine ps_imp (ps_asg hT (pg_tup hc (pgs_cons (pg_sub PY hb set_list has) (pgs_cons (pg_sub PY hb2 set_list has2) pgs_nil g2) g1) g3 g4) hs hw h1) fun D σ H h => ?_
  obtain ⟨ρ, θ, Hs, st, h⟩ := h
  refine then_D OkS.anti st h fun v d H1 Hs1 θ1 s1 st1 r1 h => ?_
  split at h
  · rename_i d1 d2
    obtain ⟨a0, xs, rfl, k1, x1, r0, rfl, r1, x2, r2, rfl, r3, e0⟩ := r1
    cases e0
    refine ⟨a0, _, rfl, sqt_mono st1.sub k1, rfl, ?_⟩
    refine ⟨_, _, rfl, ?_⟩
    refine sub_own OkS.anti st1 r1 h fun H2 Hs2 ρ2 θ2 t2 st2 h => ?_
    refine ⟨_, _, rfl, ?_⟩
    dsimp only at h
    have h2 : Post (bnd (mIt i mc d2) (fun o => fun _ θ => .ok o θ) ρ2 θ2) (OkS X F D Hs2) (ExW X F W Hs2) := by
      unfold bnd
      cases e : mIt i mc d2 ρ2 θ2 with
      | ok o θ' => rw [e] at h; exact h
      | exn ee ρ' θ' => rw [e] at h; exact h
      | bad => rw [e] at h; exact h
    refine sub_own OkS.anti st2 (Rep.mono t2 _ r3) h2 fun H3 Hs3 ρ3 θ3 t3 st3 h => ?_
    exact ⟨rfl, h σ _ _ (Same.refl _) st3⟩
  · exact h.elim
/-! ### t * n of tuples -/
def gRepT : Dt → Dt → Option Dt
  | .tup l, .int k => if (decide (l ≠ [] ∧ 2 ≤ k ∧ k ≤ 1000 ∧ l.length ≤ 1000)) = true then some (.tup (List.replicate k.toNat l).flatten) else none
  | _, _ => none
theorem Reps.rep {K : PySem.W.Frag} {H : Hp} {l : List Dt} {xs : List V} (h : Reps K H l xs) : ∀ n, Reps K H (List.replicate n l).flatten (List.replicate n xs).flatten
  | 0 => rfl
  | n + 1 => by
    rw [List.replicate_succ, List.replicate_succ, List.flatten_cons, List.flatten_cons]
    exact h.append (Reps.rep h n)
end
section
variable {X : Cx} {F : Fr0} {W : WX}
def gMul2 (a b : Dt) : Option Dt := (gMul a b).or (gRepT a b)
end
/-! ### a comprehension in a comprehension -/
theorem blk_relabel {N : List Str} {osc scope : Scope} {own : List (Str × Nat)} {env : Env} (h : BlkOk N osc scope own) : BlkOk N (relabel osc env) scope own := by
  refine ⟨h.kind, h.uniq, h.ix, fun y hy hk => ?_, h.own⟩
  have z := h.free y hy hk
  have key : ∀ (names : List (Str × NameKind)), (List.lookup y.1 names = some .cell ∨ List.lookup y.1 names = some .free) → (List.lookup y.1 (names.map fun p => if (p.2 == NameKind.free && env.scope.kind == ScopeKind.function && env.kindOf p.1 == some NameKind.cell) = true then (p.1, NameKind.cell) else p) = some .cell ∨ List.lookup y.1 (names.map fun p => if (p.2 == NameKind.free && env.scope.kind == ScopeKind.function && env.kindOf p.1 == some NameKind.cell) = true then (p.1, NameKind.cell) else p) = some .free) := by
    intro names
    induction names with
    | nil => exact fun h => h
    | cons p ps ih =>
      intro h
      obtain ⟨n, k⟩ := p
      rw [List.map_cons]
      by_cases c : (k == NameKind.free && env.scope.kind == ScopeKind.function && env.kindOf n == some NameKind.cell) = true
      · rw [if_pos c]
        by_cases e : (y.1 == n) = true
        · refine Or.inl ?_
          rw [List.lookup_cons, e]
        · have e : (y.1 == n) = false := Bool.eq_false_iff.mpr e
          rw [List.lookup_cons, e] at h ⊢
          exact ih h
      · rw [if_neg c]
        by_cases e : (y.1 == n) = true
        · rw [List.lookup_cons, e] at h ⊢
          exact h
        · have e : (y.1 == n) = false := Bool.eq_false_iff.mpr e
          rw [List.lookup_cons, e] at h ⊢
          exact ih h
  exact key osc.names z
/-! ### rules to simplify by -/
section
variable {ρ : DEnv} {θ : Pot}
theorem frzAll_nil : frzAll [] = [] := rfl
theorem frzAll_cons (x : Option Ent) (ρ : DEnv) : frzAll (x :: ρ) = frzE1 x :: frzAll ρ := rfl
theorem frzE1_o (l : List Dt) : frzE1 (some (.own l)) = some (.dat (.lst l)) := rfl
theorem frzE1_d (d : Dt) : frzE1 (some (.dat d)) = some (.dat d) := rfl
theorem frzE1_p : frzE1 (some .pot) = some .pot := rfl
theorem frzE1_n : frzE1 none = none := rfl
def lendK (Q : Dt → Pot → Prop) : Dt → Pot → Prop := fun d θ => flatD d = true ∧ Q d θ
theorem gv_lend (m : M Dt) {Q : Dt → Pot → Prop} : Gv (mLend m ρ θ) Q = Gv (m (frzAll ρ) θ) (lendK Q) := by
  unfold mLend
  cases m (frzAll ρ) θ with
  | ok d θ' =>
    show Gv (if flatD d = true then .ok d θ' else .bad) Q = (flatD d = true ∧ Q d θ')
    rw [if_gv]
    rfl
  | exn e ρ' θ' => rfl
  | bad => rfl
theorem lendK_n {Q : Dt → Pot → Prop} : lendK Q .non θ = Q .non θ := propext ⟨fun h => h.2, fun h => ⟨rfl, h⟩⟩
theorem lendK_b (b : Bool) {Q : Dt → Pot → Prop} : lendK Q (.bl b) θ = Q (.bl b) θ := propext ⟨fun h => h.2, fun h => ⟨rfl, h⟩⟩
theorem lendK_i (i : Int) {Q : Dt → Pot → Prop} : lendK Q (.int i) θ = Q (.int i) θ := propext ⟨fun h => h.2, fun h => ⟨rfl, h⟩⟩
theorem lendK_s (x : Str) {Q : Dt → Pot → Prop} : lendK Q (.str x) θ = Q (.str x) θ := propext ⟨fun h => h.2, fun h => ⟨rfl, h⟩⟩
def itOK (l : List Dt) (ρ : DEnv) (Q : Dt → Pot → Prop) : Dt → Pot → Prop := fun k θ => Gv (opt (gIx (.lst l) k) ρ θ) Q
theorem gv_itO (i : Nat) (mb : M Dt) {Q : Dt → Pot → Prop} : Gv (mIxO i mb ρ θ) Q = ownK ρ[i]? fun l => Gv (mb ρ θ) (itOK l ρ Q) := by
  unfold mIxO
  rcases ρ[i]? with _ | _ | _ | _ | _ <;> try rfl
  show Gv (bnd mb _ ρ θ) Q = _
  rw [gv_bnd]
  rfl
theorem itOK_a (l : List Dt) (d : Dt) {Q : Dt → Pot → Prop} : itOK l ρ Q d θ = Gv (opt (gIx (.lst l) d) ρ θ) Q := rfl
def stK (i : Nat) (l : List Dt) (d : Dt) (ρ : DEnv) (Q : Out → Pot → Prop) : Dt → Pot → Prop := fun k θ => match k with
  | .int j => match ixN l.length j with
    | some n => Q (.next (ρ.set i (some (.own (l.set n d))))) θ
    | none => False
  | _ => False
theorem gv_it (i : Nat) (mb : M Dt) (d : Dt) {Q : Out → Pot → Prop} : Gv (mIt i mb d ρ θ) Q = ownK ρ[i]? fun l => Gv (mb ρ θ) (stK i l d ρ Q) := by
  unfold mIt
  rcases ρ[i]? with _ | _ | _ | _ | _ <;> try rfl
  rename_i l
  show Gv (bnd mb _ ρ θ) Q = Gv (mb ρ θ) (stK i l d ρ Q)
  rw [gv_bnd]
  refine congrArg (Gv (mb ρ θ)) ?_
  funext k θ1
  cases k with
  | int j =>
    show Gv (match ixN l.length j with
      | some n => Res.ok (.next (ρ.set i (some (.own (l.set n d))))) θ1
      | none => .bad) Q = match ixN l.length j with
      | some n => Q (.next (ρ.set i (some (.own (l.set n d))))) θ1
      | none => False
    cases ixN l.length j <;> rfl
  | _ => rfl
theorem stK_a (i : Nat) (l : List Dt) (d : Dt) (j : Int) (n : Nat) (h : ixN l.length j = some n) {Q : Out → Pot → Prop} : stK i l d ρ Q (.int j) θ = Q (.next (ρ.set i (some (.own (l.set n d))))) θ := by
  show (match ixN l.length j with
    | some n => Q (.next (ρ.set i (some (.own (l.set n d))))) θ
    | none => False) = _
  rw [h]
def siK (i : Nat) (mb : M Dt) (ρ : DEnv) (Q : Out → Pot → Prop) : Dt → Pot → Prop := fun d θ => Gv (mIt i mb d ρ θ) Q
theorem mSetI_it (i : Nat) (mb ma : M Dt) : mSetI i mb ma = bnd ma fun d => mIt i mb d := rfl
theorem gv_setI (i : Nat) (mb ma : M Dt) {Q : Out → Pot → Prop} : Gv (mSetI i mb ma ρ θ) Q = Gv (ma ρ θ) (siK i mb ρ Q) := by
  rw [mSetI_it, gv_bnd]
  rfl
theorem siK_a (i : Nat) (mb : M Dt) (d : Dt) {Q : Out → Pot → Prop} : siK i mb ρ Q d θ = ownK ρ[i]? fun l => Gv (mb ρ θ) (stK i l d ρ Q) := gv_it i mb d
def si2L (i : Nat) (mc : M Dt) (d2 : Dt) (Q : Out → Pot → Prop) : Out → Pot → Prop := fun o θ => match o with
  | .next ρ' => Gv (mIt i mc d2 ρ' θ) Q
  | _ => False
theorem si2L_n (i : Nat) (mc : M Dt) (d2 : Dt) (ρ' : DEnv) {Q : Out → Pot → Prop} : si2L i mc d2 Q (.next ρ') θ = ownK ρ'[i]? fun l => Gv (mc ρ' θ) (stK i l d2 ρ' Q) := gv_it i mc d2
def si2K (i : Nat) (mb mc : M Dt) (ρ : DEnv) (Q : Out → Pot → Prop) : Dt → Pot → Prop := fun d θ => match d with
  | .tup [d1, d2] => ownK ρ[i]? fun l => Gv (mb ρ θ) (stK i l d1 ρ (si2L i mc d2 Q))
  | _ => False
theorem si2K_a (i : Nat) (mb mc : M Dt) (d1 d2 : Dt) {Q : Out → Pot → Prop} : si2K i mb mc ρ Q (.tup [d1, d2]) θ = ownK ρ[i]? fun l => Gv (mb ρ θ) (stK i l d1 ρ (si2L i mc d2 Q)) := rfl
theorem gv_setI2 (i : Nat) (mb mc ma : M Dt) {Q : Out → Pot → Prop} : Gv (mSetI2 i mb mc ma ρ θ) Q = Gv (ma ρ θ) (si2K i mb mc ρ Q) := by
  unfold mSetI2
  rw [gv_bnd]
  refine congrArg (Gv (ma ρ θ)) ?_
  funext d θ1
  unfold si2K
  split
  · rename_i d1 d2
    rw [gv_bnd, gv_it]
    refine congrArg (ownK ρ[i]?) ?_
    funext l
    refine congrArg (Gv (mb ρ θ1)) ?_
    refine congrArg (stK i l d1 ρ) ?_
    funext o θ2
    cases o <;> rfl
  · rfl
theorem mul2_i (i j : Int) {Q : Dt → Pot → Prop} : Gv (opt (gMul2 (.int i) (.int j)) ρ θ) Q = ((small i && small j) = true ∧ Q (.int (i * j)) θ) := by
  by_cases h : (small i && small j) = true
  · have e : gMul2 (.int i) (.int j) = some (.int (i * j)) := by
      unfold gMul2 gMul gI
      simp only [h, if_true]
      rfl
    rw [e, gv_opt]
    exact propext ⟨fun q => ⟨h, q⟩, fun q => q.2⟩
  · have e : gMul2 (.int i) (.int j) = none := by
      unfold gMul2 gMul gI
      simp only [h]
      rfl
    rw [e]
    exact propext ⟨fun q => q.elim, fun q => absurd q.1 h⟩
theorem mul2_t (l : List Dt) (k : Int) {Q : Dt → Pot → Prop} : Gv (opt (gMul2 (.tup l) (.int k)) ρ θ) Q = (decide (l ≠ [] ∧ 2 ≤ k ∧ k ≤ 1000 ∧ l.length ≤ 1000) = true ∧ Q (.tup (List.replicate k.toNat l).flatten) θ) := by
  show Gv (opt (if (decide (l ≠ [] ∧ 2 ≤ k ∧ k ≤ 1000 ∧ l.length ≤ 1000)) = true then some (.tup (List.replicate k.toNat l).flatten) else none) ρ θ) Q = _
  by_cases h : decide (l ≠ [] ∧ 2 ≤ k ∧ k ≤ 1000 ∧ l.length ≤ 1000) = true
  · rw [if_pos h, gv_opt]
    exact propext ⟨fun q => ⟨h, q⟩, fun q => q.2⟩
  · rw [if_neg h]
    exact propext ⟨fun q => q.elim, fun q => absurd q.1 h⟩
end
end Pd


/-! enumerate(t), t a tuple -/
namespace Pd
open PySem PySem.Spec PyProof.Rows L2
theorem meets_enum_tup (t : Addr) (items : Array Value) : Meets (Builtin.«enumerate.__new__» { pos := [Value.type "enumerate", .ref t] }) fun x R s => s.heap.IsTuple t items ∧ R (.ok (.ret (.ref (s.heap.push { cls := Value.type "tuple_iterator", data := Data.fields #[Value.ref t, Value.int 0 0] }).objs.size))) { s with heap := (s.heap.push { cls := Value.type "tuple_iterator", data := Data.fields #[Value.ref t, Value.int 0 0] }).push { cls := Value.type "enumerate", data := Data.fields #[Value.none, Value.bool false, Value.ref s.heap.objs.size, rawInt 0, Value.none, Value.none] } } := by
  refine Meets.of_wp fun prog w A R s h => ?_
  obtain ⟨ht, hR⟩ := h
  have fin : ∀ (Q : PySem.Fin → Shared → Prop) (E : Value → Shared → Prop), (∀ v s', R (.ok (.ret v)) s' → Q (.done (.ret v)) s') → wpAny (model prog w) A.in1 (do
      let l1 ← pyIter (.ref t)
      let l2 ← Builtin.SmallTypes.newRecord (.type "enumerate") (Builtin.SmallTypes.ownedTupleFields ++ [l1, rawInt 0, .none, .none])
      PySem.ret l2) Q E s := fun Q E hQ => by
    refine wpAny_bind (wpAny_pyIter_tuple ht ?_)
    obtain ⟨hp, g, d, tk, os⟩ := s
    show wpAny _ _ (newObj (.type "enumerate") (Data.fields #[.none, .bool false, .ref hp.objs.size, rawInt 0, .none, .none]) >>= fun l2 => PySem.ret l2) Q E _
    refine wpAny_bind ?_
    unfold newObj newObjAsIs
    refine wpAny_bind (wpAny_alloc' ?_)
    refine wpAny_pure ?_
    exact wpAny_pure (hQ _ _ hR)
  unfold Builtin.«enumerate.__new__»
  refine wpAny_bind ?_
  rw [show Builtin.SmallTypes.newClass "enumerate" { pos := [Value.type "enumerate", .ref t] } = pure (Value.type "enumerate", [.ref t]) from rfl]
  refine wpAny_pure ?_
  dsimp only
  refine wpAny_ite_true (by rfl) ?_
  refine wpAny_bind ?_
  unfold Builtin.SmallTypes.calledThroughType
  refine wpAny_bind (wpAny_stack_any fun st => wpAny_pure ?_)
  have fin2 : wpAny (model prog w) A.in1 (do
      let l1 ← pyIter (.ref t)
      let l2 ← Builtin.SmallTypes.newRecord (.type "enumerate") (Builtin.SmallTypes.ownedTupleFields ++ [l1, rawInt 0, .none, .none])
      PySem.ret l2) (fun fin s' => ∃ v, fin = Fin.done (Flow.ret v) ∧ R (Except.ok (Flow.ret v)) s') (fun e s' => R (Except.error e) s') s := fin _ _ fun v s' h => ⟨v, rfl, h⟩
  split
  · split
    · refine wpAny_bind (wpAny_of_eq (a := (Value.ref t, none)) rfl ?_)
      exact fin2
    · refine wpAny_bind (wpAny_of_eq (a := (Value.ref t, none)) rfl ?_)
      exact fin2
  · split
    · refine wpAny_bind (wpAny_of_eq (a := (Value.ref t, none)) rfl ?_)
      exact fin2
    · refine wpAny_bind (wpAny_of_eq (a := (Value.ref t, none)) rfl ?_)
      exact fin2
theorem call_enum_tup {prog : Program} {w : World} {A : Around} {E : Value → Shared → Prop} {s : Shared} {l : Addr} {items : Array Value} {Q : Value → Shared → Prop} (hl : s.heap.IsTuple l items)
    (k : ∀ h' : Heap, IsEnum h' (s.heap.objs.size + 1) s.heap.objs.size 0 Value.none → h'.IsTupleIter s.heap.objs.size l 0 → h'.objs.size = s.heap.objs.size + 2 → (∀ (b : Addr) (o : Obj), s.heap.get? b = some o → h'.get? b = some o) → Q (.ref (s.heap.objs.size + 1)) { s with heap := h' }) :
    wpAny (model prog w) A (call (.type "enumerate") [.ref l]) Q E s := by
  refine callType_new F.called_enumerate (by decide) (F.typeCall_enumerate_1 _) (F.newCall_enumerate_1 _) (fun _ => F.args_object_init_2 _ _) F.entry_enumerate_new (meets_enum_tup l items) ⟨hl, ?_⟩
  have e1 : (s.heap.push { cls := Value.type "tuple_iterator", data := Data.fields #[Value.ref l, Value.int 0 0] }).objs.size = s.heap.objs.size + 1 := Heap.size_push ..
  have g1 : ((s.heap.push { cls := Value.type "tuple_iterator", data := Data.fields #[Value.ref l, Value.int 0 0] }).push { cls := Value.type "enumerate", data := Data.fields #[Value.none, Value.bool false, Value.ref s.heap.objs.size, rawInt 0, Value.none, Value.none] }).get? (s.heap.objs.size + 1) = some { cls := Value.type "enumerate", data := Data.fields #[Value.none, Value.bool false, Value.ref s.heap.objs.size, rawInt 0, Value.none, Value.none] } := by
    rw [← e1]
    exact Heap.get?_push_size _ rfl
  have g0 : ((s.heap.push { cls := Value.type "tuple_iterator", data := Data.fields #[Value.ref l, Value.int 0 0] }).push { cls := Value.type "enumerate", data := Data.fields #[Value.none, Value.bool false, Value.ref s.heap.objs.size, rawInt 0, Value.none, Value.none] }).get? s.heap.objs.size = some { cls := Value.type "tuple_iterator", data := Data.fields #[Value.ref l, Value.int 0 0] } := Heap.get?_push_of_some _ (Heap.get?_push_size _ rfl)
  refine ⟨⟨_, (by rw [e1]; exact g1), rfl⟩, ?_⟩
  rw [e1]
  exact k _ g1 ⟨_, g0, rfl, rfl⟩ (by rw [Heap.size_push, e1]) fun b o h => Heap.get?_push_of_some _ (Heap.get?_push_of_some _ h)

def IteT (K : PySem.W.Frag) (a : Addr) : It where
  go := fun i H => ∃ xs x, SqT K H a xs ∧ xs[i]? = some x
  yld := fun i H v H' => ∃ T x, v = V.ref T ∧ H T = none ∧ H' = upd H T (HO.tup [V.int i, x]) ∧ ∀ xs : List V, SqT K H a xs → xs[i]? = some x
  stop := fun i H => ∃ xs, SqT K H a xs ∧ xs.length ≤ i
theorem draws_end {prog : Program} {w : World} {A : Around} (hh : A.handled = none) (it l : Addr) (items : Array Value) (n : Nat) (hn : items.size ≤ n) :
    Draws prog w A it [it, l] n (fun _ _ => False) (fun i h => i = n ∧ h.IsTupleIter it l i ∧ h.IsTuple l items) where
  live := fun _ _ st => by obtain ⟨_, ⟨o, ho, _⟩, _⟩ := st; exact ⟨o, ho⟩
  frame := fun _ _ _ st hk => ⟨st.1, by
    obtain ⟨o, ho, r⟩ := st.2.1
    exact ⟨o, hk it (by simp) o ho, r⟩, by
    obtain ⟨o, ho, r⟩ := st.2.2
    exact ⟨o, hk l (by simp) o ho, r⟩⟩
  item := fun i s Q E hi st hQ => absurd st.1 (Nat.ne_of_lt hi)
  done := fun s Q E st hE => by
    refine RZ.nextOf_tuple_end hh st.2.1 st.2.2 (by simpa using hn) fun h' e hq he => ?_
    exact hE h' e hq he
theorem turn_enumT {P : Program} {w : World} {K : PySem.W.Frag} {elts : List Expr} {kk : Nat} {tpos : Pos} (a e it : Addr) :
    Turn P w K (.Tuple elts kk tpos) (IteT K a) [e, it] e (fun i h => (∃ old, IsEnum h e it (i : Int) old) ∧ h.IsTupleIter it a i ∧ e ≠ it) where
  mem := List.mem_cons_self
  obj := fun i h tn b hb => by
    obtain ⟨⟨old, h1⟩, ⟨o, ho, hc, hd⟩, ne⟩ := tn
    simp only [List.mem_cons, List.not_mem_nil, or_false] at hb
    rcases hb with rfl | rfl
    · exact ⟨_, h1, fun v z => by cases z⟩
    · exact ⟨o, ho, fun v z => by rw [hd] at z; cases z⟩
  keep := fun i h h' tn k => by
    obtain ⟨⟨old, h1⟩, ⟨o, ho, r⟩, ne⟩ := tn
    exact ⟨⟨old, k e (by simp) _ h1⟩, ⟨o, k it (by simp) _ ho, r⟩, ne⟩
  item := by
    rintro X rfl rfl rfl hc i pins s σ H E I fp ⟨⟨old, h1⟩, h2, ne⟩ ⟨xs, x, hq, hx⟩
    obtain ⟨its, rv, p1, z1⟩ := I.tuple hq
    have pa : s.heap.IsTuple a its.toArray := p1
    have hh : X.A.handled = none := I.ok.hd hc
    obtain ⟨u, hu, ru⟩ := rv.get hx
    have li : i < its.toArray.size := by
      have := (List.getElem?_eq_some_iff.mp hu).1
      simpa using this
    have ai : a ≠ it := fun z => by
      subst z
      obtain ⟨o, ho, c1, _⟩ := pa
      obtain ⟨o', ho', c2, _⟩ := h2
      rw [ho] at ho'
      cases ho'
      rw [c1] at c2
      exact absurd (Value.type.inj c2) (by decide)
    have ae : a ≠ e := fun z => by
      subst z
      obtain ⟨o, ho, c1, _⟩ := pa
      have h3 : s.heap.get? a = some _ := h1
      rw [ho] at h3
      cases h3
      exact absurd (Value.type.inj c1) (by decide)
    have hfe := fp e (by simp)
    have hfi := fp it (by simp)
    have le : e < s.heap.objs.size := Heap.lt_size h1
    have lit : it < s.heap.objs.size := by
      obtain ⟨o, ho, _⟩ := h2
      exact Heap.lt_size ho
    refine wpAny_pyNext_enum_itemD (draws_tup (show X.A.in1.handled = none from hh) it a ai its.toArray) h1 ⟨h2, pa⟩ li ne (by simp only [List.mem_cons, List.not_mem_nil, or_false]; rintro (z | z); exact ne z; exact ae z.symm) fun x' h' tk px out st' ht hsz hk => ?_
    have ex : x' = u := by
      have q1 : its[i]? = some x' := by simpa using px
      rw [hu] at q1
      exact (Option.some.inj q1).symm
    subst ex
    refine ⟨_, rfl, wpAny_letOwnedTupleGo_enum out fun h'' en sb => ?_⟩
    have ti : h''.IsTupleIter it a (i + 1) := by
      obtain ⟨o, ho, r⟩ := st'.1
      exact ⟨o, sb.extBut _ _ (Ne.symm ne) ho, r⟩
    have tt : h''.get? s.heap.objs.size = some { cls := Value.type "tuple", data := Data.seq #[Value.int (i : Int) tk, x'] } := sb.extBut _ _ (Nat.ne_of_gt le) ht
    refine ⟨.ref s.heap.objs.size, upd H s.heap.objs.size (.tup [.int (i : Int), x]), ?_, rfl, ⟨_, x, rfl, I.hok.fresh (Nat.le_refl _), rfl, fun xs' h => by rw [I.tuple_inj h hq]; exact hx⟩, ⟨⟨_, en⟩, ti, ne⟩, fun b hb => ?_⟩
    · refine I.turnedNew (ch := [e, it]) (fun b o hb ho => ?_) fp (Nat.le_refl _) ⟨by show 2 ≤ sizeLine; decide, [.int (i : Int) tk, x'], .cons ⟨_, rfl⟩ (.cons ru .nil), _, tt, rfl, 0, rfl⟩
      simp only [List.mem_cons, List.not_mem_nil, or_false, not_or] at hb
      exact sb.extBut _ _ hb.1 (hk b o hb.1 hb.2 ho)
    · have : b ≠ s.heap.objs.size := by
        simp only [List.mem_cons, List.not_mem_nil, or_false] at hb
        rcases hb with rfl | rfl
        · exact Nat.ne_of_lt le
        · exact Nat.ne_of_lt lit
      rw [upd_ne this]
      exact (fp b hb).1
  done := by
    rintro X rfl rfl rfl hc i pins s σ H E I fp ⟨⟨old, h1⟩, h2, ne⟩ ⟨xs, hq, hx⟩
    obtain ⟨its, rv, p1, z1⟩ := I.tuple hq
    have pa : s.heap.IsTuple a its.toArray := p1
    have hh : X.A.handled = none := I.ok.hd hc
    have ln := rv.length
    refine wpAny_pyNext_enum_endD (draws_end (show X.A.in1.handled = none from hh) it a its.toArray i (by simpa [← ln] using hx)) h1 ⟨rfl, h2, pa⟩ fun h' hq' => ?_
    refine ⟨rfl, I.turnedL (ch := [e, it]) (fun b o hb ho => ?_) fp⟩
    simp only [List.mem_cons, List.not_mem_nil, or_false, not_or] at hb
    exact hq' _ _ hb.2 ho
  self := fun A i s Q E tn q => by
    obtain ⟨⟨old, h1⟩, _⟩ := tn
    exact wpAny_pyIter_enum h1 q
def iEnumT (K : PySem.W.Frag) (ta : TA) : TI := fun σ H R => ta σ H fun vs H1 => ∃ a xs, vs = [.ref a] ∧ SqT K H1 a xs ∧ R (IteT K a) H1
/-! ### enumerate(x), x a list or a tuple -/
def iEnumA (K : PySem.W.Frag) (ta : TA) : TI := fun σ H R => ta σ H fun vs H1 => (∃ a xs, vs = [.ref a] ∧ SqL K H1 a xs ∧ R (Ite K a) H1) ∨ (∃ a xs, vs = [.ref a] ∧ SqT K H1 a xs ∧ R (IteT K a) H1)
theorem pi_enumA {X : Cx} {e : Expr} {ta : TA} {p pos tpos : Pos} {elts : List Expr} {kk : Nat} (hg : Gl X "enumerate") (hm : X.mg "enumerate" = none) (ha : PA X [e] ta) (hs : starEach [e] X.env = [(false, eval e X.env)] := by rfl) :
    PI X (.Tuple elts kk tpos) (.Call (.Name "enumerate" p) [e] [] pos) (iEnumA X.K ta) := by
  refine ⟨fun pins s σ H R I h => ?_⟩
  refine Call_ (ld_blt I hg hm (u := .type "enumerate") (by first | rfl | decide +kernel) (PyProof.Rows.callWith_type1 (thn (ha.run pos pins s σ H _ I h) fun us s1 ⟨vs, H1, I1, r1, q1⟩ => ?_) hs rfl))
  rcases q1 with ⟨a, xs, ex, hq, q1⟩ | ⟨a, xs, ex, hq, q1⟩
  · subst ex
    cases r1 with
    | cons r rr =>
      cases rr
      cases r
      obtain ⟨its, rv, p1, z1⟩ := I1.list hq
      refine call_enumerate_list p1.isList fun h' he hi hsz hk => ?_
      refine wpAny_pyIter_enum he ?_
      have I2 := I1.kept (t' := s1.toks) hk
      have n0 : H1 s1.heap.objs.size = none := I1.hok.fresh (Nat.le_refl _)
      have n1 : H1 (s1.heap.objs.size + 1) = none := I1.hok.fresh (Nat.le_succ _)
      refine ⟨_, [s1.heap.objs.size + 1, s1.heap.objs.size], _, Ite X.K a, H1, rfl, I2, turn_enum a _ _, ⟨⟨_, he⟩, hi, Nat.succ_ne_self _⟩, fun b hb => ?_, q1⟩
      simp only [List.mem_cons, List.not_mem_nil, or_false] at hb
      rcases hb with rfl | rfl
      · exact I1.fpOk (Nat.le_succ _) n1
      · exact I1.fpOk (Nat.le_refl _) n0
  · subst ex
    cases r1 with
    | cons r rr =>
      cases rr
      cases r
      obtain ⟨its, rv, p1, z1⟩ := I1.tuple hq
      have pa : s1.heap.IsTuple a its.toArray := p1
      refine call_enum_tup pa fun h' he hi hsz hk => ?_
      refine wpAny_pyIter_enum he ?_
      have I2 := I1.kept (t' := s1.toks) hk
      have n0 : H1 s1.heap.objs.size = none := I1.hok.fresh (Nat.le_refl _)
      have n1 : H1 (s1.heap.objs.size + 1) = none := I1.hok.fresh (Nat.le_succ _)
      refine ⟨_, [s1.heap.objs.size + 1, s1.heap.objs.size], _, IteT X.K a, H1, rfl, I2, turn_enumT a _ _, ⟨⟨_, he⟩, hi, Nat.succ_ne_self _⟩, fun b hb => ?_, q1⟩
      simp only [List.mem_cons, List.not_mem_nil, or_false] at hb
      rcases hb with rfl | rfl
      · exact I1.fpOk (Nat.le_succ _) n1
      · exact I1.fpOk (Nat.le_refl _) n0
theorem itd_enumT {K : PySem.W.Frag} {Hs0 : Hp} {a : Addr} {xs : List V} {l : List Dt} (h1 : SqT K Hs0 a xs) (r1 : Reps K Hs0 l xs) : ItD K (IteT K a) (numbered l) Hs0 where
  go := fun i H Hs hi s1 s2 => by
    rw [numbered_len] at hi
    have e1 := r1.length
    exact ⟨xs, xs[i]'(by omega), sqt_mono (s1.trans s2) h1, List.getElem?_eq_getElem _⟩
  yld := fun i H Hs x H' d e s1 s2 y => by
    obtain ⟨T, u, rfl, nT, rfl, k1⟩ := y
    obtain ⟨dx, f1, rfl⟩ := numbered_at e
    obtain ⟨u', g1, g2⟩ := r1.get f1
    have q1 := k1 xs (sqt_mono (s1.trans s2) h1)
    rw [g1] at q1
    cases q1
    exact ⟨_, Grow.new s2 nT, pair_rep (dx := .int (i : Nat)) (s2.free nT) rfl (Rep.mono s1 dx g2)⟩
  stop := fun H Hs s1 s2 => by
    have e1 := r1.length
    exact ⟨xs, sqt_mono (s1.trans s2) h1, by rw [numbered_len, e1]; exact Nat.le_refl _⟩
def enumOf2 : List Dt → Option (List Dt)
  | [.lst l] => some (numbered l)
  | [.tup l] => some (numbered l)
  | _ => none
def mEnum2 (ml : M (List Dt)) : M (List Dt) := bnd ml fun l => opt (enumOf2 l)
section
variable {X : Cx} {F : Fr0} {W : WX} {a b : Expr} {pos p tpos q : Pos} {elts : List Expr} {kk : Nat}
theorem pid_enum2 {ml : M (List Dt)} (hm : X.mg "enumerate" = none) (ha : PAD X F W [a] ml) (hg : Gl X "enumerate" := by rfl)
    (hs : starEach [a] X.env = [(false, eval a X.env)] := by rfl) : PID X F W (.Tuple elts kk tpos) (.Call (.Name "enumerate" p) [a] [] pos) (mEnum2 ml) := by
  refine pi_imp (pi_enumA hg hm ha hs) fun σ H R h => ?_
  obtain ⟨ρ, θ, Hs, st, h⟩ := h
  refine then_A OkI.anti st h fun xs l H1 Hs1 θ1 s1 st1 r1 h => ?_
  obtain ⟨d, e, qq⟩ := post_opt h
  unfold enumOf2 at e
  split at e
  · rename_i l
    cases e
    obtain ⟨y, r0, er, ⟨a0, xs0, ea, h1, h2⟩, e0⟩ := r1
    subst ea e0 er
    exact Or.inl ⟨a0, xs0, rfl, st1.sub.seq h1, qq _ H1 Hs1 (Same.refl _) st1 (itd_enum h1 h2)⟩
  · rename_i l
    cases e
    obtain ⟨y, r0, er, ⟨a0, xs0, ea, h1, h2⟩, e0⟩ := r1
    subst ea e0 er
    exact Or.inr ⟨a0, xs0, rfl, sqt_mono st1.sub h1, qq _ H1 Hs1 (Same.refl _) st1 (itd_enumT h1 h2)⟩
  · cases e
end
section
variable {ρ : DEnv} {θ : Pot}
theorem gv_enum2 (ml : M (List Dt)) {Q : List Dt → Pot → Prop} : Gv (mEnum2 ml ρ θ) Q = Gv (ml ρ θ) (optK enumOf2 ρ Q) := by
  unfold mEnum2
  rw [gv_bnd]
  rfl
theorem enumOf2_l (l : List Dt) {Q : List Dt → Pot → Prop} : Gv (opt (enumOf2 [.lst l]) ρ θ) Q = Q (numbered l) θ := rfl
theorem enumOf2_t (l : List Dt) {Q : List Dt → Pot → Prop} : Gv (opt (enumOf2 [.tup l]) ρ θ) Q = Q (numbered l) θ := rfl
theorem numbered_map {α : Type} (f : α → Dt) (l : List α) : numbered (l.map f) = l.zipIdx.map fun p => .tup [.int (p.2 : Nat), f p.1] := by
  unfold numbered
  rw [List.zipIdx_map, List.map_map]
  rfl
end
end Pd


namespace Pd
open PySem PySem.Spec PyProof.Rows L2
section
variable {X : Cx} {F : Fr0} {W : WX} {a : Expr}
/-! ### a list turned about -/
def gRev : Dt → Option Dt
  | .lst l => some (.lst l.reverse)
  | _ => none
def mRev (ma : M Dt) : M Dt := bnd ma fun x => opt (gRev x)
theorem reps_rev {K : PySem.W.Frag} {H : Hp} : ∀ {l : List Dt} {xs : List V}, Reps K H l xs → Reps K H l.reverse xs.reverse
  | [], _, h => by rw [show _ = _ from h]; exact Reps.nil
  | d :: ds, _, h => by
    obtain ⟨x, r, rfl, h1, h2⟩ := h
    rw [List.reverse_cons, List.reverse_cons]
    exact Reps.append (reps_rev h2) (Reps.cons h1 Reps.nil)
theorem pd_revL {ma : M Dt} {k : Nat} {p1 p2 p3 pos : Pos} (ha : PD X F W a ma) : PD X F W (.Subscript a (.Slice none none (some (.UnaryOp .USub (.Constant (.int 1) k p1) p2)) p3) pos) (mRev ma) := by
  refine pe_imp (pe_revL ha) fun σ H Q h => ?_
  obtain ⟨ρ, θ, Hs, st, h⟩ := h
  refine then_D OkD.anti st h fun x dx H1 Hs1 θ1 s1 st1 r1 h => ?_
  obtain ⟨d, e, q⟩ := post_opt h
  cases dx with
  | lst y =>
    cases e
    obtain ⟨a0, xs, rfl, h1, h2⟩ := r1
    refine ⟨a0, xs, rfl, st1.sub.seq h1, fun t nt => ?_⟩
    have g := Grow.new (o := .lst xs.reverse) st1.sub nt
    exact q (.ref t) _ _ g.s (st1.grow g) ⟨t, xs.reverse, rfl, Or.inl (Or.inl upd_same), reps_rev (Reps.mono g.s _ h2)⟩
  | _ => cases e
variable {ρ : DEnv} {θ : Pot}
theorem gv_rev (ma : M Dt) {Q : Dt → Pot → Prop} : Gv (mRev ma ρ θ) Q = Gv (ma ρ θ) (optK gRev ρ Q) := by
  unfold mRev
  rw [gv_bnd]
  rfl
theorem rev_2 (a b : Dt) {Q : Dt → Pot → Prop} : Gv (opt (gRev (.lst [a, b])) ρ θ) Q = Q (.lst [b, a]) θ := rfl
end
end Pd


namespace Pd
open PySem PySem.Spec PyProof.Rows L2
/-! ### t * 1, l * n -/
def rRepT1 (K : PySem.W.Frag) : R2 := fun x y H Q => ∃ l xs, x = .ref l ∧ y = .int 1 ∧ SqT K H l xs ∧ Q (.ref l) H
section
variable {X : Cx}
end
/-- l * n, l written there -/
def mRepO (ml : M (List Dt)) (mb : M Dt) : M (List Dt) := bnd ml fun l => bnd mb fun d => match d with
  | .int k => if (decide (-1000 ≤ k ∧ k ≤ 1000 ∧ l.length ≤ 1000)) = true then ret (List.replicate k.toNat l).flatten else bad
  | _ => bad
def gRepT1 : Dt → Dt → Option Dt
  | .tup l, .int 1 => some (.tup l)
  | _, _ => none
section
variable {X : Cx} {F : Fr0} {W : WX} {a b : Expr} {pos : Pos}
theorem po_repO {ml : M (List Dt)} {mb : M Dt} (ha : PO X F W a ml) (hb : PD X F W b mb) : PO X F W (.BinOp a .Mult b pos) (mRepO ml mb) := by
  refine pe_imp (pe_op op_rep ha hb) fun σ H Q h => ?_
  obtain ⟨ρ, θ, Hs, st, h⟩ := h
  refine then_O OkO.anti st h fun p xs l H1 Hs1 θ1 s1 st1 e1 e2 e3 e4 e5 e6 h => ?_
  have st2 := st_freeze st1 e1 e3 e4 e5 e6
  have h2 := h.imp (OkO.anti (same_upd (o := .lst xs) e3)) (ExW.anti (same_upd (o := .lst xs) e3))
  refine then_D OkO.anti st2 h2 fun v d H2 Hs2 θ2 s2 st3 r3 h => ?_
  cases d with
  | int k =>
    dsimp only at h
    by_cases z : -1000 ≤ k ∧ k ≤ 1000 ∧ l.length ≤ 1000
    · rw [if_pos (decide_eq_true z)] at h
      have k1 : Hs2 p = some (.lst xs) := s2 _ _ upd_same
      have k2 : H2 p = some (.lst xs) := st3.sub _ _ k1
      have el := e2.length
      refine ⟨p, k, xs, rfl, r3, k2, by omega, by omega, ?_, fun t nt => ?_⟩
      · have : xs.length * k.toNat ≤ 1000 * 1000 := Nat.mul_le_mul (by omega) (by omega)
        rw [sizeLine_eq]
        omega
      · have e2' := Reps.mono ((same_upd (o := .lst xs) e3).trans s2) l e2
        exact h t _ _ Hs2 (Same.refl _) (st_new st3 nt) upd_same (e2'.rep _) (st3.sub.free nt) (h0_none st3 nt) (ap_ne st3 nt) (own_ne st3 nt)
    · rw [if_neg (fun w => z (of_decide_eq_true w))] at h
      exact h.elim
  | _ => exact h.elim
def gMul3 (a b : Dt) : Option Dt := (gMul2 a b).or (gRepT1 a b)
variable {ρ : DEnv} {θ : Pot}
theorem mul3_i (i j : Int) {Q : Dt → Pot → Prop} : Gv (opt (gMul3 (.int i) (.int j)) ρ θ) Q = ((small i && small j) = true ∧ Q (.int (i * j)) θ) := by
  have e : gMul3 (.int i) (.int j) = gMul2 (.int i) (.int j) := by
    unfold gMul3
    cases gMul2 (.int i) (.int j) <;> rfl
  rw [e, mul2_i]
def repK (l : List Dt) (ρ : DEnv) (Q : List Dt → Pot → Prop) : Dt → Pot → Prop := fun d θ => match d with
  | .int k => decide (-1000 ≤ k ∧ k ≤ 1000 ∧ l.length ≤ 1000) = true ∧ Q (List.replicate k.toNat l).flatten θ
  | _ => False
def repK1 (mb : M Dt) (ρ : DEnv) (Q : List Dt → Pot → Prop) : List Dt → Pot → Prop := fun l θ => Gv (mb ρ θ) (repK l ρ Q)
theorem gv_repO (ml : M (List Dt)) (mb : M Dt) {Q : List Dt → Pot → Prop} : Gv (mRepO ml mb ρ θ) Q = Gv (ml ρ θ) (repK1 mb ρ Q) := by
  unfold mRepO
  rw [gv_bnd]
  congr 1
  funext l θ1
  unfold repK1
  rw [gv_bnd]
  congr 1
  funext d θ2
  cases d with
  | int k =>
    unfold repK
    by_cases z : decide (-1000 ≤ k ∧ k ≤ 1000 ∧ l.length ≤ 1000) = true
    · simp only [z, if_true]
      exact propext ⟨fun q => ⟨trivial, q⟩, fun q => q.2⟩
    · simp only [z, if_false]
      exact propext ⟨fun q => q.elim, fun q => absurd q.1 (by simp)⟩
  | _ => rfl
theorem repK1_a (mb : M Dt) (l : List Dt) {Q : List Dt → Pot → Prop} : repK1 mb ρ Q l θ = Gv (mb ρ θ) (repK l ρ Q) := rfl
theorem repK_a (l : List Dt) (k : Int) {Q : List Dt → Pot → Prop} : repK l ρ Q (.int k) θ = (decide (-1000 ≤ k ∧ k ≤ 1000 ∧ l.length ≤ 1000) = true ∧ Q (List.replicate k.toNat l).flatten θ) := rfl
end
end Pd


namespace Pd
open PySem PySem.Spec PyProof.Rows L2
/-! ### lists joined -/
def rCatL (K : PySem.W.Frag) : R2 := fun x y H Q => ∃ l b xs zs, x = .ref l ∧ y = .ref b ∧ SqL K H l xs ∧ SqL K H b zs ∧ xs.length + zs.length ≤ sizeLine ∧ ∀ p, H p = none → Q (.ref p) (upd H p (.lst (xs ++ zs)))
section
variable {X : Cx}
end
def gCatL : Dt → Dt → Option Dt
  | .lst l, .lst m => if l.length + m.length < bigL then some (.lst (l ++ m)) else none
  | _, _ => none
section
variable {X : Cx} {F : Fr0} {W : WX}
def gAdd3 (a b : Dt) : Option Dt := (gAdd2 a b).or (gCatL a b)
variable {ρ : DEnv} {θ : Pot}
theorem add3_i (i j : Int) {Q : Dt → Pot → Prop} : Gv (opt (gAdd3 (.int i) (.int j)) ρ θ) Q = Q (.int (i + j)) θ := rfl
theorem add3_l (l m : List Dt) {Q : Dt → Pot → Prop} : Gv (opt (gAdd3 (.lst l) (.lst m)) ρ θ) Q = (l.length + m.length < bigL ∧ Q (.lst (l ++ m)) θ) := by
  have e : gAdd3 (.lst l) (.lst m) = if l.length + m.length < bigL then some (.lst (l ++ m)) else none := rfl
  rw [e]
  by_cases z : l.length + m.length < bigL
  · rw [if_pos z, gv_opt]
    exact propext ⟨fun q => ⟨z, q⟩, fun q => q.2⟩
  · rw [if_neg z]
    exact propext ⟨fun q => q.elim, fun q => absurd q.1 z⟩
theorem add3_t (l m : List Dt) {Q : Dt → Pot → Prop} : Gv (opt (gAdd3 (.tup l) (.tup m)) ρ θ) Q = (l.length + m.length < bigL ∧ Q (.tup (l ++ m)) θ) := by
  have e : gAdd3 (.tup l) (.tup m) = if l.length + m.length < bigL then some (.tup (l ++ m)) else none := by
    have e2 : gAdd2 (.tup l) (.tup m) = if l.length + m.length < bigL then some (.tup (l ++ m)) else none := by
      show (none : Option Dt).or (gCat (.tup l) (.tup m)) = _
      rfl
    unfold gAdd3
    rw [e2]
    by_cases z : l.length + m.length < bigL
    · rw [if_pos z]
      rfl
    · rw [if_neg z]
      rfl
  rw [e]
  by_cases z : l.length + m.length < bigL
  · rw [if_pos z, gv_opt]
    exact propext ⟨fun q => ⟨z, q⟩, fun q => q.2⟩
  · rw [if_neg z]
    exact propext ⟨fun q => q.elim, fun q => absurd q.1 z⟩
end
end Pd


/-! zip of two and of three, lists and tuples in any mix -/
namespace Pd
open PySem PySem.Spec PyProof.Rows L2
def SqB (K : PySem.W.Frag) (H : Hp) : Bool → Addr → List V → Prop
  | true, a, xs => SqL K H a xs
  | false, a, xs => SqT K H a xs
def ItB (h : Heap) : Bool → Addr → Addr → Nat → Prop
  | true, it, a, i => h.IsListIter it a i
  | false, it, a, i => h.IsTupleIter it a i
def SB (h : Heap) : Bool → Addr → Array Value → Prop
  | true, a, items => h.IsList a items
  | false, a, items => h.IsTuple a items
def objZ : Bool → Addr → Obj
  | true, a => { cls := .type "list_iterator", data := .fields #[.ref a, .int 0 0] }
  | false, a => { cls := .type "tuple_iterator", data := .fields #[.ref a, .int 0 0] }
theorem sqb_mono {K : PySem.W.Frag} {H Hs : Hp} {b : Bool} {a : Addr} {xs : List V} (s : Same Hs H) (h : SqB K Hs b a xs) : SqB K H b a xs := by
  cases b
  · exact sqt_mono s h
  · exact s.seq h
theorem drawsB {prog : Program} {w : World} {A : Around} (hh : A.handled = none) (b : Bool) (it a : Addr) (ne : a ≠ it) (items : Array Value) : Draws prog w A it [it, a] items.size (fun i v => items[i]? = some v) (fun i h => ItB h b it a i ∧ SB h b a items) := by
  cases b
  · exact draws_tup hh it a ne items
  · exact Draws.list hh it a ne items
theorem beginsB (b : Bool) (a : Addr) (items : Array Value) : Begins (.ref a) (objZ b a) (fun h => SB h b a items) := by
  cases b
  · exact begins_tuple a items
  · exact begins_list a items
theorem itB_of {h : Heap} {b : Bool} {it a : Addr} (e : h.get? it = some (objZ b a)) : ItB h b it a 0 := by
  cases b
  · exact ⟨_, e, rfl, rfl⟩
  · exact ⟨_, e, rfl, rfl⟩
theorem itB_obj {h : Heap} {b : Bool} {it a : Addr} {i : Nat} (e : ItB h b it a i) : ∃ o, h.get? it = some o ∧ ∀ v, o.data ≠ .cell v := by
  cases b
  · obtain ⟨o, ho, hc, hd⟩ := e
    exact ⟨o, ho, fun v q => by rw [hd] at q; cases q⟩
  · obtain ⟨o, ho, hc, hd⟩ := e
    exact ⟨o, ho, fun v q => by rw [hd] at q; cases q⟩
theorem itB_at {h h' : Heap} {b : Bool} {it a : Addr} {i : Nat} (k : ∀ o, h.get? it = some o → h'.get? it = some o) (e : ItB h b it a i) : ItB h' b it a i := by
  cases b
  · obtain ⟨o, ho, r⟩ := e
    exact ⟨o, k o ho, r⟩
  · obtain ⟨o, ho, r⟩ := e
    exact ⟨o, k o ho, r⟩
section
variable {X : Cx} {pins : List (Addr × Obj)} {σ : L2.St} {H : Hp} {s : Shared} {b : Bool} {a : Addr} {xs ys : List V}
theorem sqb_at (I : Inv X pins σ H s) (h : SqB X.K H b a xs) : ∃ its : List Value, Vals xs its ∧ SB s.heap b a its.toArray ∧ a < s.heap.objs.size := by
  cases b
  · obtain ⟨its, rv, p, _⟩ := I.tuple h
    have pa : s.heap.IsTuple a its.toArray := p
    obtain ⟨o, ho, _⟩ := id pa
    exact ⟨its, rv, pa, Heap.lt_size ho⟩
  · obtain ⟨its, rv, p, _⟩ := I.list h
    exact ⟨its, rv, p.isList, p.lt⟩
theorem sqb_inj (I : Inv X pins σ H s) (h : SqB X.K H b a xs) (h2 : SqB X.K H b a ys) : xs = ys := by
  cases b
  · exact I.tuple_inj h h2
  · exact I.list_inj h h2
end
/-! ### two -/
def ItzB (K : PySem.W.Frag) (b1 b2 : Bool) (a b : Addr) : It where
  go := fun i H => ∃ xs ys x y, SqB K H b1 a xs ∧ SqB K H b2 b ys ∧ xs[i]? = some x ∧ ys[i]? = some y
  yld := fun i H v H' => ∃ T x y, v = V.ref T ∧ H T = none ∧ H' = upd H T (HO.tup [x, y]) ∧ (∀ xs : List V, SqB K H b1 a xs → xs[i]? = some x) ∧ ∀ ys : List V, SqB K H b2 b ys → ys[i]? = some y
  stop := fun i H => ∃ xs ys : List V, SqB K H b1 a xs ∧ SqB K H b2 b ys ∧ i = min xs.length ys.length
theorem turn_zipB {P : Program} {w : World} {K : PySem.W.Frag} {elts : List Expr} {kk : Nat} {tpos : Pos} {b1 b2 : Bool} {a b z TI TO i1 i2 : Addr} (D : ZipSep2 z TI TO i1 i2 [i1, a] [i2, b]) (ne1 : a ≠ i1) (ne2 : b ≠ i2) :
    Turn P w K (.Tuple elts kk tpos) (ItzB K b1 b2 a b) [z, TI, TO, i1, i2] z (fun i h => IsZip h z TI TO .none ∧ IsTupOf2 h TI (.ref i1) (.ref i2) ∧ (∃ x y, IsTupOf2 h TO x y) ∧ ItB h b1 i1 a i ∧ ItB h b2 i2 b i) where
  mem := List.mem_cons_self
  obj := fun i h st c hc => by
    obtain ⟨hz, hTI, ⟨x, y, hTO⟩, t1, t2⟩ := st
    simp only [List.mem_cons, List.not_mem_nil, or_false] at hc
    rcases hc with rfl | rfl | rfl | rfl | rfl
    · exact ⟨_, hz, fun v q => by cases q⟩
    · exact ⟨_, hTI, fun v q => by cases q⟩
    · exact ⟨_, hTO, fun v q => by cases q⟩
    · exact itB_obj t1
    · exact itB_obj t2
  keep := fun i h h' st k => by
    obtain ⟨hz, hTI, ⟨x, y, hTO⟩, t1, t2⟩ := st
    exact ⟨k z (by simp) _ hz, k TI (by simp) _ hTI, ⟨x, y, k TO (by simp) _ hTO⟩, itB_at (k i1 (by simp)) t1, itB_at (k i2 (by simp)) t2⟩
  item := by
    rintro X rfl rfl rfl hc i pins s σ H E I hf ⟨hz, hTI, ⟨x0, y0, hTO⟩, t1, t2⟩ ⟨xs, ys, x, y, qx, qy, hx, hy⟩
    obtain ⟨its, rv, p1, l1⟩ := sqb_at I qx
    obtain ⟨its2, rv2, p2, l2⟩ := sqb_at I qy
    obtain ⟨u, hu, ru⟩ := rv.get hx
    obtain ⟨u2, hu2, ru2⟩ := rv2.get hy
    have hh : X.A.in1.handled = none := I.ok.hd hc
    have li1 : i < its.toArray.size := by simpa using (List.getElem?_eq_some_iff.mp hu).1
    have li2 : i < its2.toArray.size := by simpa using (List.getElem?_eq_some_iff.mp hu2).1
    have gz : ∀ c ∈ [z, TI, TO, i1, i2], c < s.heap.objs.size := fun c hcm => by
      simp only [List.mem_cons, List.not_mem_nil, or_false] at hcm
      rcases hcm with rfl | rfl | rfl | rfl | rfl
      · exact Heap.lt_size hz
      · exact Heap.lt_size hTI
      · exact Heap.lt_size hTO
      · obtain ⟨_, e, _⟩ := itB_obj t1
        exact Heap.lt_size e
      · obtain ⟨_, e, _⟩ := itB_obj t2
        exact Heap.lt_size e
    refine wpAny_pyNext_zipD2_item D (drawsB hh b1 i1 a ne1 its.toArray) (drawsB hh b2 i2 b ne2 its2.toArray) hz hTI hTO ⟨t1, p1⟩ ⟨t2, p2⟩ li1 li2 fun v1 v2 h' tk e1 e2 z' TO' s1' s2' hT hsz hk => ?_
    have ex : v1 = u := by
      have q1 : its[i]? = some v1 := by simpa using e1
      rw [hu] at q1
      exact (Option.some.inj q1).symm
    have ey : v2 = u2 := by
      have q1 : its2[i]? = some v2 := by simpa using e2
      rw [hu2] at q1
      exact (Option.some.inj q1).symm
    subst ex ey
    refine ⟨_, rfl, wpAny_letOwnedTupleGo_zip (s := { s with heap := h', toks := tk }) z' fun h'' z'' sb => ?_⟩
    have hT2 : h''.get? s.heap.objs.size = some { cls := .type "tuple", data := .seq #[v1, v2] } := sb.extBut _ _ (Nat.ne_of_gt (gz z (by simp))) hT
    refine ⟨.ref s.heap.objs.size, upd H s.heap.objs.size (.tup [x, y]), ?_, rfl, ⟨_, x, y, rfl, I.hok.fresh (Nat.le_refl _), rfl, fun l hl => by rw [sqb_inj I hl qx]; exact hx, fun l hl => by rw [sqb_inj I hl qy]; exact hy⟩, ⟨z'', sb.extBut _ _ D.TIz (hk _ _ D.TIz D.TITO D.TIi1 D.TIi2 hTI), ⟨v1, v2, sb.extBut _ _ D.TOz TO'⟩, itB_at (fun o q => sb.extBut _ _ (Ne.symm D.zi1) q) s1'.1, itB_at (fun o q => sb.extBut _ _ (Ne.symm D.zi2) q) s2'.1⟩, fun c hcm => ?_⟩
    · refine I.turnedNew (ch := [z, TI, TO, i1, i2]) (fun c o hb ho => ?_) hf (Nat.le_refl _) ⟨by show 2 ≤ sizeLine; decide, [v1, v2], .cons ru (.cons ru2 .nil), _, hT2, rfl, 0, rfl⟩
      simp only [List.mem_cons, List.not_mem_nil, or_false, not_or] at hb
      exact sb.extBut _ _ hb.1 (hk c o hb.1 hb.2.2.1 hb.2.2.2.1 hb.2.2.2.2 ho)
    · rw [upd_ne (Nat.ne_of_lt (gz c hcm))]
      exact (hf c hcm).1
  done := by
    rintro X rfl rfl rfl hc i pins s σ H E I hf ⟨hz, hTI, ⟨x0, y0, hTO⟩, t1, t2⟩ ⟨xs, ys, qx, qy, he⟩
    obtain ⟨its, rv, p1, l1⟩ := sqb_at I qx
    obtain ⟨its2, rv2, p2, l2⟩ := sqb_at I qy
    have hh : X.A.in1.handled = none := I.ok.hd hc
    have n1 := rv.length
    have n2 := rv2.length
    refine wpAny_pyNext_zipD2_end D (drawsB hh b1 i1 a ne1 its.toArray) (drawsB hh b2 i2 b ne2 its2.toArray) hz hTI hTO ⟨t1, p1⟩ ⟨t2, p2⟩ (by simp only [List.size_toArray]; omega) (by simp only [List.size_toArray]; omega) (by simp only [List.size_toArray]; omega) fun h' tk hk => ?_
    refine ⟨rfl, I.turnedL (ch := [z, TI, TO, i1, i2]) (fun c o hb ho => ?_) hf⟩
    simp only [List.mem_cons, List.not_mem_nil, or_false, not_or] at hb
    exact hk c o hb.1 hb.2.2.1 hb.2.2.2.1 hb.2.2.2.2 ho
  self := fun A i s Q E st h => wpAny_pyIter_zip st.1 h
theorem itd_zipB {K : PySem.W.Frag} {Hs0 : Hp} {b1 b2 : Bool} {a b : Addr} {xs ys : List V} {l m : List Dt} (h1 : SqB K Hs0 b1 a xs) (r1 : Reps K Hs0 l xs) (h2 : SqB K Hs0 b2 b ys) (r2 : Reps K Hs0 m ys) : ItD K (ItzB K b1 b2 a b) (pairs l m) Hs0 where
  go := fun i H Hs hi s1 s2 => by
    rw [pairs_len] at hi
    have e1 := r1.length
    have e2 := r2.length
    exact ⟨xs, ys, xs[i]'(by omega), ys[i]'(by omega), sqb_mono (s1.trans s2) h1, sqb_mono (s1.trans s2) h2, List.getElem?_eq_getElem _, List.getElem?_eq_getElem _⟩
  yld := fun i H Hs x H' d e s1 s2 y => by
    obtain ⟨T, u, v, rfl, nT, rfl, k1, k2⟩ := y
    obtain ⟨dx, dy, f1, f2, rfl⟩ := pairs_at e
    obtain ⟨u', g1, g2⟩ := r1.get f1
    obtain ⟨v', g3, g4⟩ := r2.get f2
    have q1 := k1 xs (sqb_mono (s1.trans s2) h1)
    have q2 := k2 ys (sqb_mono (s1.trans s2) h2)
    rw [g1] at q1
    rw [g3] at q2
    cases q1
    cases q2
    exact ⟨_, Grow.new s2 nT, pair_rep (s2.free nT) (Rep.mono s1 dx g2) (Rep.mono s1 dy g4)⟩
  stop := fun H Hs s1 s2 => by
    have e1 := r1.length
    have e2 := r2.length
    refine ⟨xs, ys, sqb_mono (s1.trans s2) h1, sqb_mono (s1.trans s2) h2, ?_⟩
    rw [pairs_len]
    omega
def iZipB (K : PySem.W.Frag) (ta : TA) : TI := fun σ H R => ta σ H fun vs H1 => ∃ b1 b2 a b xs ys, vs = [.ref a, .ref b] ∧ SqB K H1 b1 a xs ∧ SqB K H1 b2 b ys ∧ R (ItzB K b1 b2 a b) H1
theorem pi_zipB {X : Cx} {e e2 : Expr} {ta : TA} {p pos tpos : Pos} {elts : List Expr} {kk : Nat} (hg : Gl X "zip") (hm : X.mg "zip" = none) (ha : PA X [e, e2] ta)
    (hs : starEach [e, e2] X.env = (false, eval e X.env) :: starEach [e2] X.env := by rfl) (hpl : (backTo pos (starEach [e2] X.env)).any (·.1) = false := by rfl) :
    PI X (.Tuple elts kk tpos) (.Call (.Name "zip" p) [e, e2] [] pos) (iZipB X.K ta) := by
  refine ⟨fun pins s σ H R I h => ?_⟩
  refine Call_ (ld_blt I hg hm PyProof.Rows.boot_zip (PyProof.Rows.callWith_type1 (thn (ha.run pos pins s σ H _ I h) fun us s1 ⟨vs, H1, I1, r1, q1⟩ => ?_) hs hpl))
  obtain ⟨b1, b2, a, b, xs, ys, ex, q1, q2, q3⟩ := q1
  subst ex
  cases r1 with
  | cons r rr =>
    cases rr with
    | cons r' rr =>
      cases rr
      cases r
      cases r'
      obtain ⟨its, rv, p1, l1⟩ := sqb_at I1 q1
      obtain ⟨its2, rv2, p2, l2⟩ := sqb_at I1 q2
      refine zip_begins2 (beginsB b1 a its.toArray) (beginsB b2 b its2.toArray) p1 p2 fun h' hz hTI hTO g1 g2 hsz hk => wpAny_pyIter_zip hz ?_
      have I2 := I1.kept (t' := s1.toks) hk
      refine ⟨s1.heap.objs.size + 4, [s1.heap.objs.size + 4, s1.heap.objs.size + 2, s1.heap.objs.size + 3, s1.heap.objs.size, s1.heap.objs.size + 1], _, _, H1, rfl, I2, turn_zipB (zip_sep2 (N := s1.heap.objs.size) (fp1 := [a]) (fp2 := [b]) (fun c hc => by rw [List.mem_singleton.mp hc]; exact l1) (fun c hc => by rw [List.mem_singleton.mp hc]; exact l2)) (Nat.ne_of_lt l1) (Nat.ne_of_lt (Nat.lt_succ_of_lt l2)), ⟨hz, hTI, ⟨_, _, hTO⟩, itB_of g1, itB_of g2⟩, fun c hcm => ?_, q3⟩
      have hle : s1.heap.objs.size ≤ c := by
        simp only [List.mem_cons, List.not_mem_nil, or_false] at hcm
        rcases hcm with rfl | rfl | rfl | rfl | rfl
        · exact Nat.le_add_right _ _
        · exact Nat.le_add_right _ _
        · exact Nat.le_add_right _ _
        · exact Nat.le_refl _
        · exact Nat.le_add_right _ _
      exact I1.fpOk hle (I1.hok.fresh hle)
def sqOf : Dt → Option (List Dt)
  | .lst l => some l
  | .tup l => some l
  | _ => none
def zipB : List Dt → Option (List Dt)
  | [x, y] => match sqOf x, sqOf y with
    | some l, some m => some (pairs l m)
    | _, _ => none
  | _ => none
def mZipB (ml : M (List Dt)) : M (List Dt) := bnd ml fun l => opt (zipB l)
theorem sqOf_rep {K : PySem.W.Frag} {H : Hp} {d : Dt} {l : List Dt} {x : V} (e : sqOf d = some l) (r : Rep K H d x) : ∃ b a xs, x = .ref a ∧ SqB K H b a xs ∧ Reps K H l xs := by
  unfold sqOf at e
  split at e
  · cases e
    obtain ⟨a, xs, ea, h1, h2⟩ := r
    exact ⟨true, a, xs, ea, h1, h2⟩
  · cases e
    obtain ⟨a, xs, ea, h1, h2⟩ := r
    exact ⟨false, a, xs, ea, h1, h2⟩
  · cases e
theorem zipB_inv {l d : List Dt} (e : zipB l = some d) : ∃ x y m n, l = [x, y] ∧ sqOf x = some m ∧ sqOf y = some n ∧ d = pairs m n := by
  unfold zipB at e
  split at e
  · split at e
    · rename_i h1 h2
      cases e
      exact ⟨_, _, _, _, rfl, h1, h2, rfl⟩
    · cases e
  · cases e
section
variable {X : Cx} {F : Fr0} {W : WX} {a b c : Expr} {pos p tpos : Pos} {elts : List Expr} {kk : Nat}
theorem pid_zipB {ml : M (List Dt)} (hm : X.mg "zip" = none) (ha : PAD X F W [a, b] ml) (hg : Gl X "zip" := by rfl)
    (hs : starEach [a, b] X.env = (false, eval a X.env) :: starEach [b] X.env := by rfl) (hpl : (backTo pos (starEach [b] X.env)).any (·.1) = false := by rfl) : PID X F W (.Tuple elts kk tpos) (.Call (.Name "zip" p) [a, b] [] pos) (mZipB ml) := by
  refine pi_imp (pi_zipB hg hm ha hs hpl) fun σ H R h => ?_
  obtain ⟨ρ, θ, Hs, st, h⟩ := h
  refine then_A OkI.anti st h fun xs l H1 Hs1 θ1 s1 st1 r1 h => ?_
  obtain ⟨d, e, q⟩ := post_opt h
  obtain ⟨x, y, m, n, rfl, e1, e2, rfl⟩ := zipB_inv e
  obtain ⟨v1, r0, er, k1, v2, r9, er2, k2, e0⟩ := r1
  subst e0 er2 er
  obtain ⟨b1, a1, xs1, rfl, g1, g2⟩ := sqOf_rep e1 k1
  obtain ⟨b2, a2, xs2, rfl, g3, g4⟩ := sqOf_rep e2 k2
  exact ⟨b1, b2, a1, a2, xs1, xs2, rfl, sqb_mono st1.sub g1, sqb_mono st1.sub g3, q _ H1 Hs1 (Same.refl _) st1 (itd_zipB g1 g2 g3 g4)⟩
end
section
variable {ρ : DEnv} {θ : Pot}
theorem gv_zipB (ml : M (List Dt)) {Q : List Dt → Pot → Prop} : Gv (mZipB ml ρ θ) Q = Gv (ml ρ θ) (optK zipB ρ Q) := by
  unfold mZipB
  rw [gv_bnd]
  rfl
theorem zipB_ll (l m : List Dt) {Q : List Dt → Pot → Prop} : Gv (opt (zipB [.lst l, .lst m]) ρ θ) Q = Q (pairs l m) θ := rfl
theorem zipB_tt (l m : List Dt) {Q : List Dt → Pot → Prop} : Gv (opt (zipB [.tup l, .tup m]) ρ θ) Q = Q (pairs l m) θ := rfl
theorem zipB_lt (l m : List Dt) {Q : List Dt → Pot → Prop} : Gv (opt (zipB [.lst l, .tup m]) ρ θ) Q = Q (pairs l m) θ := rfl
theorem zipB_tl (l m : List Dt) {Q : List Dt → Pot → Prop} : Gv (opt (zipB [.tup l, .lst m]) ρ θ) Q = Q (pairs l m) θ := rfl
end
end Pd


/-! zip of three, lists and tuples in any mix -/
namespace Pd
open PySem PySem.Spec PyProof.Rows L2
def Itz3 (K : PySem.W.Frag) (b1 b2 b3 : Bool) (a b c : Addr) : It where
  go := fun i H => ∃ xs ys zs x y z, SqB K H b1 a xs ∧ SqB K H b2 b ys ∧ SqB K H b3 c zs ∧ xs[i]? = some x ∧ ys[i]? = some y ∧ zs[i]? = some z
  yld := fun i H v H' => ∃ T x y z, v = V.ref T ∧ H T = none ∧ H' = upd H T (HO.tup [x, y, z]) ∧ (∀ xs : List V, SqB K H b1 a xs → xs[i]? = some x) ∧ (∀ ys : List V, SqB K H b2 b ys → ys[i]? = some y) ∧ ∀ zs : List V, SqB K H b3 c zs → zs[i]? = some z
  stop := fun i H => ∃ xs ys zs : List V, SqB K H b1 a xs ∧ SqB K H b2 b ys ∧ SqB K H b3 c zs ∧ i = min (min xs.length ys.length) zs.length
theorem turn_zip3 {P : Program} {w : World} {K : PySem.W.Frag} {elts : List Expr} {kk : Nat} {tpos : Pos} {b1 b2 b3 : Bool} {a b c z TI TO i1 i2 i3 : Addr} (D : ZipSep3 z TI TO i1 i2 i3 [i1, a] [i2, b] [i3, c]) (ne1 : a ≠ i1) (ne2 : b ≠ i2) (ne3 : c ≠ i3) :
    Turn P w K (.Tuple elts kk tpos) (Itz3 K b1 b2 b3 a b c) [z, TI, TO, i1, i2, i3] z (fun i h => IsZip h z TI TO .none ∧ IsTupOf3 h TI (.ref i1) (.ref i2) (.ref i3) ∧ (∃ x y u, IsTupOf3 h TO x y u) ∧ ItB h b1 i1 a i ∧ ItB h b2 i2 b i ∧ ItB h b3 i3 c i) where
  mem := List.mem_cons_self
  obj := fun i h st q hq => by
    obtain ⟨hz, hTI, ⟨x, y, u, hTO⟩, t1, t2, t3⟩ := st
    simp only [List.mem_cons, List.not_mem_nil, or_false] at hq
    rcases hq with rfl | rfl | rfl | rfl | rfl | rfl
    · exact ⟨_, hz, fun v r => by cases r⟩
    · exact ⟨_, hTI, fun v r => by cases r⟩
    · exact ⟨_, hTO, fun v r => by cases r⟩
    · exact itB_obj t1
    · exact itB_obj t2
    · exact itB_obj t3
  keep := fun i h h' st k => by
    obtain ⟨hz, hTI, ⟨x, y, u, hTO⟩, t1, t2, t3⟩ := st
    exact ⟨k z (by simp) _ hz, k TI (by simp) _ hTI, ⟨x, y, u, k TO (by simp) _ hTO⟩, itB_at (k i1 (by simp)) t1, itB_at (k i2 (by simp)) t2, itB_at (k i3 (by simp)) t3⟩
  item := by
    rintro X rfl rfl rfl hc i pins s σ H E I hf ⟨hz, hTI, ⟨x0, y0, u0, hTO⟩, t1, t2, t3⟩ ⟨xs, ys, zs, x, y, w3, qx, qy, qz, hx, hy, hw⟩
    obtain ⟨its, rv, p1, l1⟩ := sqb_at I qx
    obtain ⟨its2, rv2, p2, l2⟩ := sqb_at I qy
    obtain ⟨its3, rv3, p3, l3⟩ := sqb_at I qz
    obtain ⟨u, hu, ru⟩ := rv.get hx
    obtain ⟨u2, hu2, ru2⟩ := rv2.get hy
    obtain ⟨u3, hu3, ru3⟩ := rv3.get hw
    have hh : X.A.in1.handled = none := I.ok.hd hc
    have li1 : i < its.toArray.size := by simpa using (List.getElem?_eq_some_iff.mp hu).1
    have li2 : i < its2.toArray.size := by simpa using (List.getElem?_eq_some_iff.mp hu2).1
    have li3 : i < its3.toArray.size := by simpa using (List.getElem?_eq_some_iff.mp hu3).1
    have gz : ∀ q ∈ [z, TI, TO, i1, i2, i3], q < s.heap.objs.size := fun q hq => by
      simp only [List.mem_cons, List.not_mem_nil, or_false] at hq
      rcases hq with rfl | rfl | rfl | rfl | rfl | rfl
      · exact Heap.lt_size hz
      · exact Heap.lt_size hTI
      · exact Heap.lt_size hTO
      · obtain ⟨_, e, _⟩ := itB_obj t1
        exact Heap.lt_size e
      · obtain ⟨_, e, _⟩ := itB_obj t2
        exact Heap.lt_size e
      · obtain ⟨_, e, _⟩ := itB_obj t3
        exact Heap.lt_size e
    refine wpAny_pyNext_zipD3_item D (drawsB hh b1 i1 a ne1 its.toArray) (drawsB hh b2 i2 b ne2 its2.toArray) (drawsB hh b3 i3 c ne3 its3.toArray) hz hTI hTO ⟨t1, p1⟩ ⟨t2, p2⟩ ⟨t3, p3⟩ li1 li2 li3 fun v1 v2 v3 h' tk e1 e2 e3 z' TO' s1' s2' s3' hT hsz hk => ?_
    have ex : v1 = u := by
      have q1 : its[i]? = some v1 := by simpa using e1
      rw [hu] at q1
      exact (Option.some.inj q1).symm
    have ey : v2 = u2 := by
      have q1 : its2[i]? = some v2 := by simpa using e2
      rw [hu2] at q1
      exact (Option.some.inj q1).symm
    have ez : v3 = u3 := by
      have q1 : its3[i]? = some v3 := by simpa using e3
      rw [hu3] at q1
      exact (Option.some.inj q1).symm
    subst ex ey ez
    refine ⟨_, rfl, wpAny_letOwnedTupleGo_zip (s := { s with heap := h', toks := tk }) z' fun h'' z'' sb => ?_⟩
    have hT2 : h''.get? s.heap.objs.size = some { cls := .type "tuple", data := .seq #[v1, v2, v3] } := sb.extBut _ _ (Nat.ne_of_gt (gz z (by simp))) hT
    refine ⟨.ref s.heap.objs.size, upd H s.heap.objs.size (.tup [x, y, w3]), ?_, rfl, ⟨_, x, y, w3, rfl, I.hok.fresh (Nat.le_refl _), rfl, fun l hl => by rw [sqb_inj I hl qx]; exact hx, fun l hl => by rw [sqb_inj I hl qy]; exact hy, fun l hl => by rw [sqb_inj I hl qz]; exact hw⟩, ⟨z'', sb.extBut _ _ D.TIz (hk _ _ D.TIz D.TITO D.TIi1 D.TIi2 D.TIi3 hTI), ⟨v1, v2, v3, sb.extBut _ _ D.TOz TO'⟩, itB_at (fun o q => sb.extBut _ _ (Ne.symm D.zi1) q) s1'.1, itB_at (fun o q => sb.extBut _ _ (Ne.symm D.zi2) q) s2'.1, itB_at (fun o q => sb.extBut _ _ (Ne.symm D.zi3) q) s3'.1⟩, fun q hq => ?_⟩
    · refine I.turnedNew (ch := [z, TI, TO, i1, i2, i3]) (fun q o hb ho => ?_) hf (Nat.le_refl _) ⟨by show 3 ≤ sizeLine; decide, [v1, v2, v3], .cons ru (.cons ru2 (.cons ru3 .nil)), _, hT2, rfl, 0, rfl⟩
      simp only [List.mem_cons, List.not_mem_nil, or_false, not_or] at hb
      exact sb.extBut _ _ hb.1 (hk q o hb.1 hb.2.2.1 hb.2.2.2.1 hb.2.2.2.2.1 hb.2.2.2.2.2 ho)
    · rw [upd_ne (Nat.ne_of_lt (gz q hq))]
      exact (hf q hq).1
  done := by
    rintro X rfl rfl rfl hc i pins s σ H E I hf ⟨hz, hTI, ⟨x0, y0, u0, hTO⟩, t1, t2, t3⟩ ⟨xs, ys, zs, qx, qy, qz, he⟩
    obtain ⟨its, rv, p1, l1⟩ := sqb_at I qx
    obtain ⟨its2, rv2, p2, l2⟩ := sqb_at I qy
    obtain ⟨its3, rv3, p3, l3⟩ := sqb_at I qz
    have hh : X.A.in1.handled = none := I.ok.hd hc
    have n1 := rv.length
    have n2 := rv2.length
    have n3 := rv3.length
    refine wpAny_pyNext_zipD3_end D (drawsB hh b1 i1 a ne1 its.toArray) (drawsB hh b2 i2 b ne2 its2.toArray) (drawsB hh b3 i3 c ne3 its3.toArray) hz hTI hTO ⟨t1, p1⟩ ⟨t2, p2⟩ ⟨t3, p3⟩ (by simp only [List.size_toArray]; omega) (by simp only [List.size_toArray]; omega) (by simp only [List.size_toArray]; omega) (by simp only [List.size_toArray]; omega) fun h' tk hk => ?_
    refine ⟨rfl, I.turnedL (ch := [z, TI, TO, i1, i2, i3]) (fun q o hb ho => ?_) hf⟩
    simp only [List.mem_cons, List.not_mem_nil, or_false, not_or] at hb
    exact hk q o hb.1 hb.2.2.1 hb.2.2.2.1 hb.2.2.2.2.1 hb.2.2.2.2.2 ho
  self := fun A i s Q E st h => wpAny_pyIter_zip st.1 h
def trips : List Dt → List Dt → List Dt → List Dt
  | x :: l, y :: m, z :: n => .tup [x, y, z] :: trips l m n
  | _, _, _ => []
theorem trips_at : ∀ {l m n : List Dt} {i : Nat} {d : Dt}, (trips l m n)[i]? = some d → ∃ x y z, l[i]? = some x ∧ m[i]? = some y ∧ n[i]? = some z ∧ d = .tup [x, y, z]
  | [], _, _, i, d, h => by simp [trips] at h
  | _ :: _, [], _, i, d, h => by simp [trips] at h
  | _ :: _, _ :: _, [], i, d, h => by simp [trips] at h
  | x :: l, y :: m, z :: n, 0, d, h => ⟨x, y, z, rfl, rfl, rfl, (Option.some.inj h).symm⟩
  | x :: l, y :: m, z :: n, i + 1, d, h => trips_at (l := l) (m := m) (n := n) (i := i) (d := d) h
theorem trips_len : ∀ (l m n : List Dt), (trips l m n).length = min (min l.length m.length) n.length
  | [], m, n => by simp [trips]
  | _ :: _, [], n => by simp [trips]
  | _ :: _, _ :: _, [] => by simp [trips]
  | x :: l, y :: m, z :: n => by
    show (trips l m n).length + 1 = _
    rw [trips_len l m n]
    simp only [List.length_cons]
    omega
theorem trip_rep {K : PySem.W.Frag} {Hs : Hp} {T : Addr} {x y z : V} {dx dy dz : Dt} (nT : Hs T = none) (r1 : Rep K Hs dx x) (r2 : Rep K Hs dy y) (r3 : Rep K Hs dz z) : Rep K (upd Hs T (.tup [x, y, z])) (.tup [dx, dy, dz]) (.ref T) :=
  ⟨T, [x, y, z], rfl, SqT.of upd_same, Reps.mono (same_upd nT) _ (Reps.cons r1 (Reps.cons r2 (Reps.cons r3 Reps.nil)))⟩
theorem itd_zip3 {K : PySem.W.Frag} {Hs0 : Hp} {b1 b2 b3 : Bool} {a b c : Addr} {xs ys zs : List V} {l m n : List Dt} (h1 : SqB K Hs0 b1 a xs) (r1 : Reps K Hs0 l xs) (h2 : SqB K Hs0 b2 b ys) (r2 : Reps K Hs0 m ys) (h3 : SqB K Hs0 b3 c zs) (r3 : Reps K Hs0 n zs) : ItD K (Itz3 K b1 b2 b3 a b c) (trips l m n) Hs0 where
  go := fun i H Hs hi s1 s2 => by
    rw [trips_len] at hi
    have e1 := r1.length
    have e2 := r2.length
    have e3 := r3.length
    exact ⟨xs, ys, zs, xs[i]'(by omega), ys[i]'(by omega), zs[i]'(by omega), sqb_mono (s1.trans s2) h1, sqb_mono (s1.trans s2) h2, sqb_mono (s1.trans s2) h3, List.getElem?_eq_getElem _, List.getElem?_eq_getElem _, List.getElem?_eq_getElem _⟩
  yld := fun i H Hs x H' d e s1 s2 y => by
    obtain ⟨T, u, v, w, rfl, nT, rfl, k1, k2, k3⟩ := y
    obtain ⟨dx, dy, dz, f1, f2, f3, rfl⟩ := trips_at e
    obtain ⟨u', g1, g2⟩ := r1.get f1
    obtain ⟨v', g3, g4⟩ := r2.get f2
    obtain ⟨w', g5, g6⟩ := r3.get f3
    have q1 := k1 xs (sqb_mono (s1.trans s2) h1)
    have q2 := k2 ys (sqb_mono (s1.trans s2) h2)
    have q3 := k3 zs (sqb_mono (s1.trans s2) h3)
    rw [g1] at q1
    rw [g3] at q2
    rw [g5] at q3
    cases q1
    cases q2
    cases q3
    exact ⟨_, Grow.new s2 nT, trip_rep (s2.free nT) (Rep.mono s1 dx g2) (Rep.mono s1 dy g4) (Rep.mono s1 dz g6)⟩
  stop := fun H Hs s1 s2 => by
    have e1 := r1.length
    have e2 := r2.length
    have e3 := r3.length
    refine ⟨xs, ys, zs, sqb_mono (s1.trans s2) h1, sqb_mono (s1.trans s2) h2, sqb_mono (s1.trans s2) h3, ?_⟩
    rw [trips_len]
    omega
def iZip3 (K : PySem.W.Frag) (ta : TA) : TI := fun σ H R => ta σ H fun vs H1 => ∃ b1 b2 b3 a b c xs ys zs, vs = [.ref a, .ref b, .ref c] ∧ SqB K H1 b1 a xs ∧ SqB K H1 b2 b ys ∧ SqB K H1 b3 c zs ∧ R (Itz3 K b1 b2 b3 a b c) H1
theorem pi_zip3 {X : Cx} {e e2 e3 : Expr} {ta : TA} {p pos tpos : Pos} {elts : List Expr} {kk : Nat} (hg : Gl X "zip") (hm : X.mg "zip" = none) (ha : PA X [e, e2, e3] ta)
    (hs : starEach [e, e2, e3] X.env = (false, eval e X.env) :: starEach [e2, e3] X.env := by rfl) (hpl : (backTo pos (starEach [e2, e3] X.env)).any (·.1) = false := by rfl) :
    PI X (.Tuple elts kk tpos) (.Call (.Name "zip" p) [e, e2, e3] [] pos) (iZip3 X.K ta) := by
  refine ⟨fun pins s σ H R I h => ?_⟩
  refine Call_ (ld_blt I hg hm PyProof.Rows.boot_zip (PyProof.Rows.callWith_type1 (thn (ha.run pos pins s σ H _ I h) fun us s1 ⟨vs, H1, I1, r1, q1⟩ => ?_) hs hpl))
  obtain ⟨b1, b2, b3, a, b, c, xs, ys, zs, ex, q1, q2, q3, q4⟩ := q1
  subst ex
  cases r1 with
  | cons r rr =>
    cases rr with
    | cons r' rr =>
      cases rr with
      | cons r'' rr =>
        cases rr
        cases r
        cases r'
        cases r''
        obtain ⟨its, rv, p1, l1⟩ := sqb_at I1 q1
        obtain ⟨its2, rv2, p2, l2⟩ := sqb_at I1 q2
        obtain ⟨its3, rv3, p3, l3⟩ := sqb_at I1 q3
        refine zip_begins3 (beginsB b1 a its.toArray) (beginsB b2 b its2.toArray) (beginsB b3 c its3.toArray) p1 p2 p3 fun h' hz hTI hTO g1 g2 g3 hsz hk => wpAny_pyIter_zip hz ?_
        have I2 := I1.kept (t' := s1.toks) hk
        refine ⟨s1.heap.objs.size + 5, [s1.heap.objs.size + 5, s1.heap.objs.size + 3, s1.heap.objs.size + 4, s1.heap.objs.size, s1.heap.objs.size + 1, s1.heap.objs.size + 2], _, _, H1, rfl, I2, turn_zip3 (zip_sep3 (N := s1.heap.objs.size) (fp1 := [a]) (fp2 := [b]) (fp3 := [c]) (fun q hq => by rw [List.mem_singleton.mp hq]; exact l1) (fun q hq => by rw [List.mem_singleton.mp hq]; exact l2) (fun q hq => by rw [List.mem_singleton.mp hq]; exact l3)) (Nat.ne_of_lt l1) (Nat.ne_of_lt (Nat.lt_succ_of_lt l2)) (Nat.ne_of_lt (Nat.lt_of_lt_of_le l3 (Nat.le_add_right _ _))), ⟨hz, hTI, ⟨_, _, _, hTO⟩, itB_of g1, itB_of g2, itB_of g3⟩, fun q hq => ?_, q4⟩
        have hle : s1.heap.objs.size ≤ q := by
          simp only [List.mem_cons, List.not_mem_nil, or_false] at hq
          rcases hq with rfl | rfl | rfl | rfl | rfl | rfl
          · exact Nat.le_add_right _ _
          · exact Nat.le_add_right _ _
          · exact Nat.le_add_right _ _
          · exact Nat.le_refl _
          · exact Nat.le_add_right _ _
          · exact Nat.le_add_right _ _
        exact I1.fpOk hle (I1.hok.fresh hle)
def zip3 : List Dt → Option (List Dt)
  | [x, y, z] => match sqOf x, sqOf y, sqOf z with
    | some l, some m, some n => some (trips l m n)
    | _, _, _ => none
  | _ => none
def mZip3 (ml : M (List Dt)) : M (List Dt) := bnd ml fun l => opt (zip3 l)
theorem zip3_inv {l d : List Dt} (e : zip3 l = some d) : ∃ x y z m n k, l = [x, y, z] ∧ sqOf x = some m ∧ sqOf y = some n ∧ sqOf z = some k ∧ d = trips m n k := by
  unfold zip3 at e
  split at e
  · split at e
    · rename_i h1 h2 h3
      cases e
      exact ⟨_, _, _, _, _, _, rfl, h1, h2, h3, rfl⟩
    · cases e
  · cases e
section
variable {X : Cx} {F : Fr0} {W : WX} {a b c : Expr} {pos p tpos : Pos} {elts : List Expr} {kk : Nat}
theorem pid_zip3 {ml : M (List Dt)} (hm : X.mg "zip" = none) (ha : PAD X F W [a, b, c] ml) (hg : Gl X "zip" := by rfl)
    (hs : starEach [a, b, c] X.env = (false, eval a X.env) :: starEach [b, c] X.env := by rfl) (hpl : (backTo pos (starEach [b, c] X.env)).any (·.1) = false := by rfl) : PID X F W (.Tuple elts kk tpos) (.Call (.Name "zip" p) [a, b, c] [] pos) (mZip3 ml) := by
  refine pi_imp (pi_zip3 hg hm ha hs hpl) fun σ H R h => ?_
  obtain ⟨ρ, θ, Hs, st, h⟩ := h
  refine then_A OkI.anti st h fun xs l H1 Hs1 θ1 s1 st1 r1 h => ?_
  obtain ⟨d, e, q⟩ := post_opt h
  obtain ⟨x, y, z, m, n, k, rfl, e1, e2, e3, rfl⟩ := zip3_inv e
  obtain ⟨v1, r0, er, k1, v2, r9, er2, k2, v3, r8, er3, k3, e0⟩ := r1
  subst e0 er3 er2 er
  obtain ⟨b1, a1, xs1, rfl, g1, g2⟩ := sqOf_rep e1 k1
  obtain ⟨b2, a2, xs2, rfl, g3, g4⟩ := sqOf_rep e2 k2
  obtain ⟨b3, a3, xs3, rfl, g5, g6⟩ := sqOf_rep e3 k3
  exact ⟨b1, b2, b3, a1, a2, a3, xs1, xs2, xs3, rfl, sqb_mono st1.sub g1, sqb_mono st1.sub g3, sqb_mono st1.sub g5, q _ H1 Hs1 (Same.refl _) st1 (itd_zip3 g1 g2 g3 g4 g5 g6)⟩
end
section
variable {ρ : DEnv} {θ : Pot}
theorem gv_zip3 (ml : M (List Dt)) {Q : List Dt → Pot → Prop} : Gv (mZip3 ml ρ θ) Q = Gv (ml ρ θ) (optK zip3 ρ Q) := by
  unfold mZip3
  rw [gv_bnd]
  rfl
end
theorem trips_map {α β γ : Type} (f : α → Dt) (g : β → Dt) (h : γ → Dt) : ∀ (l : List α) (m : List β) (n : List γ), trips (l.map f) (m.map g) (n.map h) = (l.zip (m.zip n)).map fun p => .tup [f p.1, g p.2.1, h p.2.2]
  | [], m, n => by simp [trips]
  | _ :: _, [], n => by simp [trips]
  | _ :: _, _ :: _, [] => by simp [trips]
  | x :: l, y :: m, z :: n => by
    have ih := trips_map f g h l m n
    simp only [List.map_cons, trips, List.zip_cons_cons, ih]
end Pd


/-! sorted(list of ints) -/
namespace Pd
open PySem PySem.Spec PyProof.Rows L2
def insI (x : Int) : List Int → List Int
  | [] => [x]
  | y :: l => if x ≤ y then x :: y :: l else y :: insI x l
def sortI : List Int → List Int
  | [] => []
  | x :: l => insI x (sortI l)
def sortOf : List Dt → Option (List Dt)
  | [.lst l] => (intsOf l).map fun ns => (sortI ns).map Dt.int
  | _ => none
def mSorted (ml : M (List Dt)) : M (List Dt) := bnd ml fun l => opt (sortOf l)
section
variable {X : Cx} {F : Fr0} {W : WX} {a : Expr} {pos p : Pos}
end
section
variable {ρ : DEnv} {θ : Pot}
end
end Pd


namespace Tc
open PySem PySem.Spec PyProof.Rows L2 Pd
def r__law_pot : M Out :=
 (Pd.mSeq (Pd.mSet 2 (Pd.mIte (Pd.mBool (Pd.mOp Pd.gLt (Pd.mVar 1) (Pd.mB Pd.gLen (Pd.mCons (Pd.mVar 0) Pd.mNil)))) (Pd.mB Pd.gAbs (Pd.mCons (Pd.mOp Pd.gIx (Pd.mVar 0) (Pd.mVar 1)) Pd.mNil)) (Pd.mOp Pd.gAdd2 (Pd.mOp Pd.gMul (Pd.ret (.int 971)) (Pd.mVar 1)) (Pd.ret (.int 541)))))
 (Pd.mSeq (Pd.mSet 3 (Pd.mOp Pd.gAdd2 (Pd.mOp Pd.gMod (Pd.mB Pd.gInt (Pd.mCons (Pd.mOp Pd.gAdd2 (Pd.mOp Pd.gAdd2 (Pd.mOp Pd.gMul (Pd.mOp Pd.gMod (Pd.mB Pd.gInt (Pd.mCons (Pd.mVar 2) Pd.mNil)) (Pd.ret (.int 2147483549))) (Pd.ret (.int 48271))) (Pd.mOp Pd.gMul (Pd.ret (.int 9421)) (Pd.mVar 1))) (Pd.ret (.int 107))) Pd.mNil)) (Pd.ret (.int 2147483563))) (Pd.ret (.int 1))))
 (Pd.mRetO (Pd.mCons (Pd.mB Pd.gMax (Pd.mCons (Pd.ret (.int 0)) (Pd.mCons (Pd.mOp Pd.gSub (Pd.mVar 2) (Pd.mOp Pd.gPow (Pd.ret (.int 10)) (Pd.ret (.int 18)))) Pd.mNil))) (Pd.mCons (Pd.mVar 3) Pd.mNil)))))
def m__law_pot : Mir := Pd.mFn 4 r__law_pot
def r_is_integer : M Out :=
 (Pd.mRet (Pd.mAndV (Pd.mIsi "int" (Pd.mVar 0)) (Pd.mNotV (Pd.mIsi "bool" (Pd.mVar 0)))))
def m_is_integer : Mir := Pd.mFn 1 r_is_integer
def r_is_interval : M Out :=
 (Pd.mSeq (Pd.mIf (Pd.mOr (Pd.mNot (Pd.mBool (Pd.mIsi "tuple" (Pd.mVar 0)))) (Pd.mOr (Pd.mBool (Pd.mOp Pd.gNe (Pd.mB Pd.gLen (Pd.mCons (Pd.mVar 0) Pd.mNil)) (Pd.ret (.int 2)))) (Pd.mOr (Pd.mNot (Pd.mBool (Pd.mCallD m_is_integer [] [0] (Pd.mECons (Pd.mOp Pd.gIx (Pd.mVar 0) (Pd.ret (.int 0))) Pd.mENil) Pd.mENil))) (Pd.mNot (Pd.mBool (Pd.mCallD m_is_integer [] [0] (Pd.mECons (Pd.mOp Pd.gIx (Pd.mVar 0) (Pd.ret (.int 1))) Pd.mENil) Pd.mENil))))))
  (Pd.mRet (Pd.ret (.bl false)))
  Pd.mNext)
 (Pd.mRet (Pd.mChn (Pd.mOp Pd.gSub (Pd.ret (.int 0)) (Pd.ret (.int (1180591620717411303424)))) (Pd.cLink Pd.gLe (Pd.mOp Pd.gIx (Pd.mVar 0) (Pd.ret (.int 0))) (Pd.cLink Pd.gLe (Pd.mOp Pd.gIx (Pd.mVar 0) (Pd.ret (.int 1))) (Pd.cLast Pd.gLe (Pd.ret (.int (1180591620717411303424)))))))))
def m_is_interval : Mir := Pd.mFn 1 r_is_interval
def r_is_box : M Out :=
 (Pd.mRet (Pd.mAndV (Pd.mIsi "tuple" (Pd.mVar 0)) (Pd.mAndV (Pd.mChn (Pd.ret (.int 1)) (Pd.cLink Pd.gLe (Pd.mB Pd.gLen (Pd.mCons (Pd.mVar 0) Pd.mNil)) (Pd.cLast Pd.gLe (Pd.ret (.int (8)))))) (Pd.mB Pd.gAll (Pd.mCons (Pd.mLst (Pd.mComp (.n 1) [1] (Pd.mSeqI (Pd.mVar 0)) Pd.tt1 (Pd.mCallD m_is_interval [] [0] (Pd.mECons (Pd.mVar 1) Pd.mENil) Pd.mENil))) Pd.mNil)))))
def m_is_box : Mir := Pd.mFn 2 r_is_box
def r_want_box : M Out :=
 (Pd.mSeq (Pd.mIf (Pd.mNot (Pd.mBool (Pd.mCallD m_is_box [] [0] (Pd.mECons (Pd.mVar 0) Pd.mENil) Pd.mENil)))
  (fun _ _ => .bad)
  Pd.mNext)
 (Pd.mRet (Pd.mVar 0)))
def m_want_box : Mir := Pd.mFn 1 r_want_box
def r_made_ratio : M Out :=
 (Pd.mSeq (Pd.mSet 2 (Pd.mB Pd.gGcd (Pd.mCons (Pd.mVar 0) (Pd.mCons (Pd.mVar 1) Pd.mNil))))
 (Pd.mSeq (Pd.mIf (Pd.mBool (Pd.mOp Pd.gLt (Pd.mVar 1) (Pd.ret (.int 0))))
  (Pd.mSet 2 (Pd.mOp Pd.gSub (Pd.ret (.int 0)) (Pd.mVar 2)))
  Pd.mNext)
 (Pd.mRet (Pd.mTup (Pd.mCons (Pd.mOp Pd.gDiv (Pd.mVar 0) (Pd.mVar 2)) (Pd.mCons (Pd.mOp Pd.gDiv (Pd.mVar 1) (Pd.mVar 2)) Pd.mNil))))))
def m_made_ratio : Mir := Pd.mFn 3 r_made_ratio
def r_unit_of : M Out :=
 (Pd.mRet (Pd.mTupOf (Pd.mCons (Pd.mLst (Pd.mComp (.n 2) [2] (Pd.mRng Pd.rng1 (Pd.mCons (Pd.mVar 0) Pd.mNil)) Pd.tt1 (Pd.mTupOf (Pd.mCons (Pd.mLst (Pd.mComp (.n 1) [1] (Pd.mRng Pd.rng1 (Pd.mCons (Pd.mVar 0) Pd.mNil)) Pd.tt1 (Pd.mIte (Pd.mBool (Pd.mOp Pd.gEq (Pd.mVar 1) (Pd.mVar 2))) (Pd.ret (.tup [.int (1), .int (1)])) (Pd.ret (.tup [.int (0), .int (1)]))))) Pd.mNil)))) Pd.mNil)))
def m_unit_of : Mir := Pd.mFn 3 r_unit_of
def r_box_as_set : M Out :=
 (Pd.mSeq (Pd.mSet 1 (Pd.mLst (Pd.mComp (.t [2, 3]) [2, 3] (Pd.mSeqI (Pd.mVar 0)) Pd.tt1 (Pd.mOp Pd.gDiv (Pd.mOp Pd.gAdd2 (Pd.mVar 2) (Pd.mVar 3)) (Pd.ret (.int 2))))))
 (Pd.mSeq (Pd.mSet 4 (Pd.mTupOf (Pd.mCons (Pd.mLst (Pd.mComp (.m [.t [2, 3], .n 5]) [2, 3, 5] (Pd.mZipB (Pd.mCons (Pd.mVar 0) (Pd.mCons (Pd.mVar 1) Pd.mNil))) Pd.tt1 (Pd.mTup (Pd.mCons (Pd.mOp Pd.gSub (Pd.mVar 2) (Pd.mVar 5)) (Pd.mCons (Pd.mOp Pd.gSub (Pd.mVar 3) (Pd.mVar 5)) Pd.mNil))))) Pd.mNil)))
 (Pd.mRet (Pd.mTup (Pd.mCons (Pd.ret (.str "set")) (Pd.mCons (Pd.mTupOf (Pd.mCons (Pd.mLst (Pd.mComp (.n 5) [5] (Pd.mSeqI (Pd.mVar 1)) Pd.tt1 (Pd.mCallD m_made_ratio [] [0, 1] (Pd.mECons (Pd.mVar 5) (Pd.mECons (Pd.ret (.int (1099511627776))) Pd.mENil)) Pd.mENil))) Pd.mNil)) (Pd.mCons (Pd.mCallD m_unit_of [] [0] (Pd.mECons (Pd.mB Pd.gLen (Pd.mCons (Pd.mVar 0) Pd.mNil)) Pd.mENil) Pd.mENil) (Pd.mCons (Pd.mVar 4) Pd.mNil))))))))
def m_box_as_set : Mir := Pd.mFn 6 r_box_as_set
def r_set_of_box : M Out :=
 (Pd.mSeq (Pd.mExpr (Pd.mCallD m_want_box [] [0] (Pd.mECons (Pd.mVar 0) Pd.mENil) Pd.mENil))
 (Pd.mRet (Pd.mCallD m_box_as_set [] [0] (Pd.mECons (Pd.mVar 0) Pd.mENil) Pd.mENil)))
def m_set_of_box : Mir := Pd.mFn 1 r_set_of_box
def r_is_ratio : M Out :=
 (Pd.mSeq (Pd.mIf (Pd.mOr (Pd.mNot (Pd.mBool (Pd.mIsi "tuple" (Pd.mVar 0)))) (Pd.mOr (Pd.mBool (Pd.mOp Pd.gNe (Pd.mB Pd.gLen (Pd.mCons (Pd.mVar 0) Pd.mNil)) (Pd.ret (.int 2)))) (Pd.mOr (Pd.mNot (Pd.mBool (Pd.mCallD m_is_integer [] [0] (Pd.mECons (Pd.mOp Pd.gIx (Pd.mVar 0) (Pd.ret (.int 0))) Pd.mENil) Pd.mENil))) (Pd.mNot (Pd.mBool (Pd.mCallD m_is_integer [] [0] (Pd.mECons (Pd.mOp Pd.gIx (Pd.mVar 0) (Pd.ret (.int 1))) Pd.mENil) Pd.mENil))))))
  (Pd.mRet (Pd.ret (.bl false)))
  Pd.mNext)
 (Pd.mRet (Pd.mAndV (Pd.mOp Pd.gGe (Pd.mOp Pd.gIx (Pd.mVar 0) (Pd.ret (.int 1))) (Pd.ret (.int 1))) (Pd.mOp Pd.gEq (Pd.mB Pd.gGcd (Pd.mCons (Pd.mOp Pd.gIx (Pd.mVar 0) (Pd.ret (.int 0))) (Pd.mCons (Pd.mOp Pd.gIx (Pd.mVar 0) (Pd.ret (.int 1))) Pd.mNil))) (Pd.ret (.int 1))))))
def m_is_ratio : Mir := Pd.mFn 1 r_is_ratio
def r_is_point : M Out :=
 (Pd.mRet (Pd.mAndV (Pd.mIsi "tuple" (Pd.mVar 0)) (Pd.mAndV (Pd.mChn (Pd.ret (.int 1)) (Pd.cLink Pd.gLe (Pd.mB Pd.gLen (Pd.mCons (Pd.mVar 0) Pd.mNil)) (Pd.cLast Pd.gLe (Pd.ret (.int (8)))))) (Pd.mB Pd.gAll (Pd.mCons (Pd.mLst (Pd.mComp (.n 1) [1] (Pd.mSeqI (Pd.mVar 0)) Pd.tt1 (Pd.mCallD m_is_ratio [] [0] (Pd.mECons (Pd.mVar 1) Pd.mENil) Pd.mENil))) Pd.mNil)))))
def m_is_point : Mir := Pd.mFn 2 r_is_point
def r_is_row : M Out :=
 (Pd.mRet (Pd.mAndV (Pd.mIsi "tuple" (Pd.mVar 0)) (Pd.mAndV (Pd.mChn (Pd.ret (.int 1)) (Pd.cLink Pd.gLe (Pd.mB Pd.gLen (Pd.mCons (Pd.mVar 0) Pd.mNil)) (Pd.cLast Pd.gLe (Pd.ret (.int (8)))))) (Pd.mB Pd.gAll (Pd.mCons (Pd.mLst (Pd.mComp (.n 1) [1] (Pd.mSeqI (Pd.mVar 0)) Pd.tt1 (Pd.mCallD m_is_ratio [] [0] (Pd.mECons (Pd.mVar 1) Pd.mENil) Pd.mENil))) Pd.mNil)))))
def m_is_row : Mir := Pd.mFn 2 r_is_row
def r_is_matrix : M Out :=
 (Pd.mSeq (Pd.mIf (Pd.mOr (Pd.mNot (Pd.mBool (Pd.mIsi "tuple" (Pd.mVar 0)))) (Pd.mNot (Pd.mBool (Pd.mChn (Pd.ret (.int 1)) (Pd.cLink Pd.gLe (Pd.mB Pd.gLen (Pd.mCons (Pd.mVar 0) Pd.mNil)) (Pd.cLast Pd.gLe (Pd.ret (.int (8)))))))))
  (Pd.mRet (Pd.ret (.bl false)))
  Pd.mNext)
 (Pd.mRet (Pd.mAndV (Pd.mB Pd.gAll (Pd.mCons (Pd.mLst (Pd.mComp (.n 1) [1] (Pd.mSeqI (Pd.mVar 0)) Pd.tt1 (Pd.mCallD m_is_row [] [0] (Pd.mECons (Pd.mVar 1) Pd.mENil) Pd.mENil))) Pd.mNil)) (Pd.mB Pd.gAll (Pd.mCons (Pd.mLst (Pd.mComp (.n 1) [1] (Pd.mSeqI (Pd.mVar 0)) Pd.tt1 (Pd.mOp Pd.gEq (Pd.mB Pd.gLen (Pd.mCons (Pd.mVar 1) Pd.mNil)) (Pd.mB Pd.gLen (Pd.mCons (Pd.mOp Pd.gIx (Pd.mVar 0) (Pd.ret (.int 0))) Pd.mNil))))) Pd.mNil)))))
def m_is_matrix : Mir := Pd.mFn 2 r_is_matrix
def r_inverse_ratio : M Out :=
 (Pd.mRet (Pd.mCallD m_made_ratio [] [0, 1] (Pd.mECons (Pd.mOp Pd.gIx (Pd.mVar 0) (Pd.ret (.int 1))) (Pd.mECons (Pd.mOp Pd.gIx (Pd.mVar 0) (Pd.ret (.int 0))) Pd.mENil)) Pd.mENil))
def m_inverse_ratio : Mir := Pd.mFn 1 r_inverse_ratio
def r_mul_ratios : M Out :=
 (Pd.mRet (Pd.mCallD m_made_ratio [] [0, 1] (Pd.mECons (Pd.mOp Pd.gMul (Pd.mOp Pd.gIx (Pd.mVar 0) (Pd.ret (.int 0))) (Pd.mOp Pd.gIx (Pd.mVar 1) (Pd.ret (.int 0)))) (Pd.mECons (Pd.mOp Pd.gMul (Pd.mOp Pd.gIx (Pd.mVar 0) (Pd.ret (.int 1))) (Pd.mOp Pd.gIx (Pd.mVar 1) (Pd.ret (.int 1)))) Pd.mENil)) Pd.mENil))
def m_mul_ratios : Mir := Pd.mFn 2 r_mul_ratios
def r_row_times : M Out :=
 (Pd.mRet (Pd.mTupOf (Pd.mCons (Pd.mLst (Pd.mComp (.n 2) [2] (Pd.mSeqI (Pd.mVar 0)) Pd.tt1 (Pd.mCallD m_mul_ratios [] [0, 1] (Pd.mECons (Pd.mVar 2) (Pd.mECons (Pd.mVar 1) Pd.mENil)) Pd.mENil))) Pd.mNil)))
def m_row_times : Mir := Pd.mFn 3 r_row_times
def r_add_ratios : M Out :=
 (Pd.mRet (Pd.mCallD m_made_ratio [] [0, 1] (Pd.mECons (Pd.mOp Pd.gAdd2 (Pd.mOp Pd.gMul (Pd.mOp Pd.gIx (Pd.mVar 0) (Pd.ret (.int 0))) (Pd.mOp Pd.gIx (Pd.mVar 1) (Pd.ret (.int 1)))) (Pd.mOp Pd.gMul (Pd.mOp Pd.gIx (Pd.mVar 1) (Pd.ret (.int 0))) (Pd.mOp Pd.gIx (Pd.mVar 0) (Pd.ret (.int 1))))) (Pd.mECons (Pd.mOp Pd.gMul (Pd.mOp Pd.gIx (Pd.mVar 0) (Pd.ret (.int 1))) (Pd.mOp Pd.gIx (Pd.mVar 1) (Pd.ret (.int 1)))) Pd.mENil)) Pd.mENil))
def m_add_ratios : Mir := Pd.mFn 2 r_add_ratios
def r_neg_ratio : M Out :=
 (Pd.mRet (Pd.mTup (Pd.mCons (Pd.mOp Pd.gSub (Pd.ret (.int 0)) (Pd.mOp Pd.gIx (Pd.mVar 0) (Pd.ret (.int 0)))) (Pd.mCons (Pd.mOp Pd.gIx (Pd.mVar 0) (Pd.ret (.int 1))) Pd.mNil))))
def m_neg_ratio : Mir := Pd.mFn 1 r_neg_ratio
def r_sub_ratios : M Out :=
 (Pd.mRet (Pd.mCallD m_add_ratios [] [0, 1] (Pd.mECons (Pd.mVar 0) (Pd.mECons (Pd.mCallD m_neg_ratio [] [0] (Pd.mECons (Pd.mVar 1) Pd.mENil) Pd.mENil) Pd.mENil)) Pd.mENil))
def m_sub_ratios : Mir := Pd.mFn 2 r_sub_ratios
def r_row_less : M Out :=
 (Pd.mRet (Pd.mTupOf (Pd.mCons (Pd.mLst (Pd.mComp (.t [3, 4]) [3, 4] (Pd.mZipB (Pd.mCons (Pd.mVar 0) (Pd.mCons (Pd.mVar 1) Pd.mNil))) Pd.tt1 (Pd.mCallD m_sub_ratios [] [0, 1] (Pd.mECons (Pd.mVar 3) (Pd.mECons (Pd.mCallD m_mul_ratios [] [0, 1] (Pd.mECons (Pd.mVar 4) (Pd.mECons (Pd.mVar 2) Pd.mENil)) Pd.mENil) Pd.mENil)) Pd.mENil))) Pd.mNil)))
def m_row_less : Mir := Pd.mFn 5 r_row_less
def r_row_with : M Out :=
 (Pd.mSeq (Pd.mFor (.n 3) (Pd.mRng Pd.rng2 (Pd.mCons (Pd.mVar 2) (Pd.mCons (Pd.mB Pd.gLen (Pd.mCons (Pd.mVar 0) Pd.mNil)) Pd.mNil)))
  (Pd.mIf (Pd.mBool (Pd.mOp Pd.gNe (Pd.mOp Pd.gIx (Pd.mOp Pd.gIx (Pd.mOp Pd.gIx (Pd.mVar 0) (Pd.mVar 3)) (Pd.mVar 1)) (Pd.ret (.int 0))) (Pd.ret (.int 0))))
  (Pd.mRet (Pd.mVar 3))
  Pd.mNext))
 (Pd.mRet (Pd.ret .non)))
def m_row_with : Mir := Pd.mFn 4 r_row_with
def r_exchanged : M Out :=
 (Pd.mSeq (Pd.mSetO 3 (Pd.mListOf (Pd.mCons (Pd.mVar 0) Pd.mNil)))
 (Pd.mSeq (Pd.mSetI2 3 (Pd.mVar 1) (Pd.mVar 2) (Pd.mTup (Pd.mCons (Pd.mOp Pd.gIx (Pd.mVar 0) (Pd.mVar 2)) (Pd.mCons (Pd.mOp Pd.gIx (Pd.mVar 0) (Pd.mVar 1)) Pd.mNil))))
 (Pd.mRetV 3)))
def m_exchanged : Mir := Pd.mFn 4 r_exchanged
def r_inverse_of : M Out :=
 (Pd.mSeq (Pd.mAsg (.t [1, 2]) (Pd.mTup (Pd.mCons (Pd.mB Pd.gLen (Pd.mCons (Pd.mVar 0) Pd.mNil)) (Pd.mCons (Pd.mCallD m_unit_of [] [0] (Pd.mECons (Pd.mB Pd.gLen (Pd.mCons (Pd.mVar 0) Pd.mNil)) Pd.mENil) Pd.mENil) Pd.mNil))))
 (Pd.mSeq (Pd.mSetO 3 (Pd.mComp (.t [4, 5]) [4, 5] (Pd.mEnum2 (Pd.mCons (Pd.mVar 0) Pd.mNil)) Pd.tt1 (Pd.mOp Pd.gAdd2 (Pd.mVar 5) (Pd.mOp Pd.gIx (Pd.mVar 2) (Pd.mVar 4)))))
 (Pd.mSeq (Pd.mFor (.n 6) (Pd.mRng Pd.rng1 (Pd.mCons (Pd.mVar 1) Pd.mNil))
  (Pd.mSeq (Pd.mSet 4 (Pd.mLend (Pd.mCallD m_row_with [] [0, 1, 2] (Pd.mECons (Pd.mVar 3) (Pd.mECons (Pd.mVar 6) (Pd.mECons (Pd.mVar 6) Pd.mENil))) Pd.mENil)))
 (Pd.mSeq (Pd.mIf (Pd.mBool (Pd.mOp Pd.gIs2 (Pd.mVar 4) (Pd.ret .non)))
  (Pd.mRet (Pd.ret .non))
  Pd.mNext)
 (Pd.mSeq (Pd.mFrz 3 (Pd.mSetO 3 (Pd.mCallO m_exchanged [] [0, 1, 2] (Pd.mECons (Pd.mVar 3) (Pd.mECons (Pd.mVar 4) (Pd.mECons (Pd.mVar 6) Pd.mENil))) Pd.mENil)))
 (Pd.mSeq (Pd.mSetI 3 (Pd.mVar 6) (Pd.mCallD m_row_times [] [0, 1] (Pd.mECons (Pd.mIxO 3 (Pd.mVar 6)) (Pd.mECons (Pd.mCallD m_inverse_ratio [] [0] (Pd.mECons (Pd.mOp Pd.gIx (Pd.mIxO 3 (Pd.mVar 6)) (Pd.mVar 6)) Pd.mENil) Pd.mENil) Pd.mENil)) Pd.mENil))
 (Pd.mFor (.n 7) (Pd.mRng Pd.rng1 (Pd.mCons (Pd.mVar 1) Pd.mNil))
  (Pd.mIf (Pd.mAnd (Pd.mBool (Pd.mOp Pd.gNe (Pd.mVar 7) (Pd.mVar 6))) (Pd.mBool (Pd.mOp Pd.gNe (Pd.mOp Pd.gIx (Pd.mOp Pd.gIx (Pd.mIxO 3 (Pd.mVar 7)) (Pd.mVar 6)) (Pd.ret (.int 0))) (Pd.ret (.int 0)))))
  (Pd.mSetI 3 (Pd.mVar 7) (Pd.mCallD m_row_less [] [0, 1, 2] (Pd.mECons (Pd.mIxO 3 (Pd.mVar 7)) (Pd.mECons (Pd.mIxO 3 (Pd.mVar 6)) (Pd.mECons (Pd.mOp Pd.gIx (Pd.mIxO 3 (Pd.mVar 7)) (Pd.mVar 6)) Pd.mENil))) Pd.mENil))
  Pd.mNext)))))))
 (Pd.mFrz 3 (Pd.mRet (Pd.mTupOf (Pd.mCons (Pd.mLst (Pd.mComp (.n 5) [5] (Pd.mSeqI (Pd.mVar 3)) Pd.tt1 (Pd.mSl (Pd.mVar 5) (Pd.mPt (Pd.mVar 1)) Pd.mNoP))) Pd.mNil)))))))
def m_inverse_of : Mir := Pd.mFn 8 r_inverse_of
def r_is_set_value : M Out :=
 (Pd.mSeq (Pd.mIf (Pd.mOr (Pd.mNot (Pd.mBool (Pd.mIsi "tuple" (Pd.mVar 1)))) (Pd.mOr (Pd.mBool (Pd.mOp Pd.gNe (Pd.mB Pd.gLen (Pd.mCons (Pd.mVar 1) Pd.mNil)) (Pd.ret (.int 4)))) (Pd.mOr (Pd.mNot (Pd.mBool (Pd.mIsi "str" (Pd.mOp Pd.gIx (Pd.mVar 1) (Pd.ret (.int 0)))))) (Pd.mBool (Pd.mOp Pd.gNe (Pd.mOp Pd.gIx (Pd.mVar 1) (Pd.ret (.int 0))) (Pd.ret (.str "set")))))))
  (Pd.mRet (Pd.ret (.bl false)))
  Pd.mNext)
 (Pd.mSeq (Pd.mIf (Pd.mOr (Pd.mNot (Pd.mBool (Pd.mCallD m_is_point [] [0] (Pd.mECons (Pd.mOp Pd.gIx (Pd.mVar 1) (Pd.ret (.int 1))) Pd.mENil) Pd.mENil))) (Pd.mOr (Pd.mNot (Pd.mBool (Pd.mCallD m_is_matrix [] [0] (Pd.mECons (Pd.mOp Pd.gIx (Pd.mVar 1) (Pd.ret (.int 2))) Pd.mENil) Pd.mENil))) (Pd.mNot (Pd.mBool (Pd.mCallD m_is_box [] [0] (Pd.mECons (Pd.mOp Pd.gIx (Pd.mVar 1) (Pd.ret (.int 3))) Pd.mENil) Pd.mENil)))))
  (Pd.mRet (Pd.ret (.bl false)))
  Pd.mNext)
 (Pd.mSeq (Pd.mIf (Pd.mNot (Pd.mBool (Pd.mChn (Pd.mB Pd.gLen (Pd.mCons (Pd.mOp Pd.gIx (Pd.mVar 1) (Pd.ret (.int 1))) Pd.mNil)) (Pd.cLink Pd.gEq (Pd.mB Pd.gLen (Pd.mCons (Pd.mOp Pd.gIx (Pd.mVar 1) (Pd.ret (.int 2))) Pd.mNil)) (Pd.cLink Pd.gEq (Pd.mB Pd.gLen (Pd.mCons (Pd.mOp Pd.gIx (Pd.mOp Pd.gIx (Pd.mVar 1) (Pd.ret (.int 2))) (Pd.ret (.int 0))) Pd.mNil)) (Pd.cLink Pd.gEq (Pd.mB Pd.gLen (Pd.mCons (Pd.mOp Pd.gIx (Pd.mVar 1) (Pd.ret (.int 3))) Pd.mNil)) (Pd.cLast Pd.gEq (Pd.mVar 0))))))))
  (Pd.mRet (Pd.ret (.bl false)))
  Pd.mNext)
 (Pd.mRet (Pd.mOp Pd.gIsNot2 (Pd.mCallD m_inverse_of [] [0] (Pd.mECons (Pd.mOp Pd.gIx (Pd.mVar 1) (Pd.ret (.int 2))) Pd.mENil) Pd.mENil) (Pd.ret .non))))))
def m_is_set_value : Mir := Pd.mFn 2 r_is_set_value
def r_is_set : M Out :=
 (Pd.mSeq (Pd.mIf (Pd.mOr (Pd.mNot (Pd.mBool (Pd.mIsi "tuple" (Pd.mVar 0)))) (Pd.mOr (Pd.mBool (Pd.mOp Pd.gNe (Pd.mB Pd.gLen (Pd.mCons (Pd.mVar 0) Pd.mNil)) (Pd.ret (.int 4)))) (Pd.mNot (Pd.mBool (Pd.mCallD m_is_point [] [0] (Pd.mECons (Pd.mOp Pd.gIx (Pd.mVar 0) (Pd.ret (.int 1))) Pd.mENil) Pd.mENil)))))
  (Pd.mRet (Pd.ret (.bl false)))
  Pd.mNext)
 (Pd.mRet (Pd.mCallD m_is_set_value [] [0, 1] (Pd.mECons (Pd.mB Pd.gLen (Pd.mCons (Pd.mOp Pd.gIx (Pd.mVar 0) (Pd.ret (.int 1))) Pd.mNil)) (Pd.mECons (Pd.mVar 0) Pd.mENil)) Pd.mENil)))
def m_is_set : Mir := Pd.mFn 1 r_is_set
def r_want_set : M Out :=
 (Pd.mIf (Pd.mNot (Pd.mBool (Pd.mCallD m_is_set [] [0] (Pd.mECons (Pd.mVar 0) Pd.mENil) Pd.mENil)))
  (fun _ _ => .bad)
  Pd.mNext)
def m_want_set : Mir := Pd.mFn 1 r_want_set
def r_checked_ends : M Out :=
 (Pd.mSeq (Pd.mIf (Pd.mOr (Pd.mBool (Pd.mOp Pd.gLt (Pd.mVar 0) (Pd.mOp Pd.gSub (Pd.ret (.int 0)) (Pd.ret (.int (1180591620717411303424)))))) (Pd.mBool (Pd.mOp Pd.gGt (Pd.mVar 1) (Pd.ret (.int (1180591620717411303424))))))
  (fun _ _ => .bad)
  Pd.mNext)
 (Pd.mRet (Pd.mTup (Pd.mCons (Pd.mVar 0) (Pd.mCons (Pd.mVar 1) Pd.mNil)))))
def m_checked_ends : Mir := Pd.mFn 2 r_checked_ends
def r_rounded_down : M Out :=
 (Pd.mSeq (Pd.mIf (Pd.mBool (Pd.mOp Pd.gLt (Pd.mVar 1) (Pd.ret (.int 0))))
  (Pd.mRet (Pd.mOp Pd.gDiv (Pd.mOp Pd.gSub (Pd.ret (.int 0)) (Pd.mVar 0)) (Pd.mOp Pd.gSub (Pd.ret (.int 0)) (Pd.mVar 1))))
  Pd.mNext)
 (Pd.mRet (Pd.mOp Pd.gDiv (Pd.mVar 0) (Pd.mVar 1))))
def m_rounded_down : Mir := Pd.mFn 2 r_rounded_down
def r_rounded_up : M Out :=
 (Pd.mRet (Pd.mOp Pd.gSub (Pd.ret (.int 0)) (Pd.mCallD m_rounded_down [] [0, 1] (Pd.mECons (Pd.mOp Pd.gSub (Pd.ret (.int 0)) (Pd.mVar 0)) (Pd.mECons (Pd.mVar 1) Pd.mENil)) Pd.mENil)))
def m_rounded_up : Mir := Pd.mFn 2 r_rounded_up
def r_around_of : M Out :=
 (Pd.mSeq (Pd.mSet 1 (Pd.mOp Pd.gMul (Pd.mOp Pd.gIx (Pd.mVar 0) (Pd.ret (.int 0))) (Pd.ret (.int (1099511627776)))))
 (Pd.mRet (Pd.mCallD m_checked_ends [] [0, 1] (Pd.mECons (Pd.mCallD m_rounded_down [] [0, 1] (Pd.mECons (Pd.mVar 1) (Pd.mECons (Pd.mOp Pd.gIx (Pd.mVar 0) (Pd.ret (.int 1))) Pd.mENil)) Pd.mENil) (Pd.mECons (Pd.mCallD m_rounded_up [] [0, 1] (Pd.mECons (Pd.mVar 1) (Pd.mECons (Pd.mOp Pd.gIx (Pd.mVar 0) (Pd.ret (.int 1))) Pd.mENil)) Pd.mENil) Pd.mENil)) Pd.mENil)))
def m_around_of : Mir := Pd.mFn 2 r_around_of
def r_plus_of : M Out :=
 (Pd.mRet (Pd.mCallD m_checked_ends [] [0, 1] (Pd.mECons (Pd.mOp Pd.gAdd2 (Pd.mOp Pd.gIx (Pd.mVar 0) (Pd.ret (.int 0))) (Pd.mOp Pd.gIx (Pd.mVar 1) (Pd.ret (.int 0)))) (Pd.mECons (Pd.mOp Pd.gAdd2 (Pd.mOp Pd.gIx (Pd.mVar 0) (Pd.ret (.int 1))) (Pd.mOp Pd.gIx (Pd.mVar 1) (Pd.ret (.int 1)))) Pd.mENil)) Pd.mENil))
def m_plus_of : Mir := Pd.mFn 2 r_plus_of
def r_scaled_of : M Out :=
 (Pd.mSeq (Pd.mSet 2 (Pd.mLst (Pd.mCons (Pd.mOp Pd.gMul (Pd.mOp Pd.gIx (Pd.mVar 0) (Pd.ret (.int 0))) (Pd.mOp Pd.gIx (Pd.mVar 1) (Pd.ret (.int 0)))) (Pd.mCons (Pd.mOp Pd.gMul (Pd.mOp Pd.gIx (Pd.mVar 0) (Pd.ret (.int 1))) (Pd.mOp Pd.gIx (Pd.mVar 1) (Pd.ret (.int 0)))) Pd.mNil))))
 (Pd.mRet (Pd.mCallD m_checked_ends [] [0, 1] (Pd.mECons (Pd.mCallD m_rounded_down [] [0, 1] (Pd.mECons (Pd.mB Pd.gMin (Pd.mCons (Pd.mVar 2) Pd.mNil)) (Pd.mECons (Pd.mOp Pd.gIx (Pd.mVar 1) (Pd.ret (.int 1))) Pd.mENil)) Pd.mENil) (Pd.mECons (Pd.mCallD m_rounded_up [] [0, 1] (Pd.mECons (Pd.mB Pd.gMax (Pd.mCons (Pd.mVar 2) Pd.mNil)) (Pd.mECons (Pd.mOp Pd.gIx (Pd.mVar 1) (Pd.ret (.int 1))) Pd.mENil)) Pd.mENil) Pd.mENil)) Pd.mENil)))
def m_scaled_of : Mir := Pd.mFn 3 r_scaled_of
def r_set_hull_of : M Out :=
 (Pd.mSeq (Pd.mAsg (.t [1, 2, 3, 4]) (Pd.mVar 0))
 (Pd.mSeq (Pd.mSetO 5 Pd.mNil)
 (Pd.mSeq (Pd.mFor (.t [6, 7]) (Pd.mZipB (Pd.mCons (Pd.mVar 2) (Pd.mCons (Pd.mVar 3) Pd.mNil)))
  (Pd.mSeq (Pd.mSet 8 (Pd.mCallD m_around_of [] [0] (Pd.mECons (Pd.mVar 6) Pd.mENil) Pd.mENil))
 (Pd.mSeq (Pd.mSet 9 (Pd.mTup (Pd.mCons (Pd.ret (.int 0)) (Pd.mCons (Pd.ret (.int 0)) Pd.mNil))))
 (Pd.mSeq (Pd.mFor (.t [10, 11]) (Pd.mZipB (Pd.mCons (Pd.mVar 7) (Pd.mCons (Pd.mVar 4) Pd.mNil)))
  (Pd.mSet 9 (Pd.mCallD m_plus_of [] [0, 1] (Pd.mECons (Pd.mVar 9) (Pd.mECons (Pd.mCallD m_scaled_of [] [0, 1] (Pd.mECons (Pd.mVar 11) (Pd.mECons (Pd.mVar 10) Pd.mENil)) Pd.mENil) Pd.mENil)) Pd.mENil)))
 (Pd.mApp 5 (Pd.mCallD m_plus_of [] [0, 1] (Pd.mECons (Pd.mVar 8) (Pd.mECons (Pd.mVar 9) Pd.mENil)) Pd.mENil))))))
 (Pd.mFrz 5 (Pd.mRet (Pd.mTupOf (Pd.mCons (Pd.mVar 5) Pd.mNil)))))))
def m_set_hull_of : Mir := Pd.mFn 12 r_set_hull_of
def r_set_hull : M Out :=
 (Pd.mSeq (Pd.mExpr (Pd.mCallD m_want_set [] [0] (Pd.mECons (Pd.mVar 0) Pd.mENil) Pd.mENil))
 (Pd.mRet (Pd.mCallD m_set_hull_of [] [0] (Pd.mECons (Pd.mVar 0) Pd.mENil) Pd.mENil)))
def m_set_hull : Mir := Pd.mFn 1 r_set_hull
def r_dot : M Out :=
 (Pd.mSeq (Pd.mSet 2 (Pd.ret (.tup [.int (0), .int (1)])))
 (Pd.mSeq (Pd.mFor (.t [3, 4]) (Pd.mZipB (Pd.mCons (Pd.mVar 0) (Pd.mCons (Pd.mVar 1) Pd.mNil)))
  (Pd.mIf (Pd.mAnd (Pd.mBool (Pd.mOp Pd.gNe (Pd.mOp Pd.gIx (Pd.mVar 3) (Pd.ret (.int 0))) (Pd.ret (.int 0)))) (Pd.mBool (Pd.mOp Pd.gNe (Pd.mOp Pd.gIx (Pd.mVar 4) (Pd.ret (.int 0))) (Pd.ret (.int 0)))))
  (Pd.mSet 2 (Pd.mCallD m_add_ratios [] [0, 1] (Pd.mECons (Pd.mVar 2) (Pd.mECons (Pd.mCallD m_mul_ratios [] [0, 1] (Pd.mECons (Pd.mVar 3) (Pd.mECons (Pd.mVar 4) Pd.mENil)) Pd.mENil) Pd.mENil)) Pd.mENil))
  Pd.mNext))
 (Pd.mRet (Pd.mVar 2))))
def m_dot : Mir := Pd.mFn 5 r_dot
def r_columns_of : M Out :=
 (Pd.mRet (Pd.mTupOf (Pd.mCons (Pd.mLst (Pd.mComp (.n 2) [2] (Pd.mRng Pd.rng1 (Pd.mCons (Pd.mB Pd.gLen (Pd.mCons (Pd.mOp Pd.gIx (Pd.mVar 0) (Pd.ret (.int 0))) Pd.mNil)) Pd.mNil)) Pd.tt1 (Pd.mTupOf (Pd.mCons (Pd.mLst (Pd.mComp (.n 1) [1] (Pd.mSeqI (Pd.mVar 0)) Pd.tt1 (Pd.mOp Pd.gIx (Pd.mVar 1) (Pd.mVar 2)))) Pd.mNil)))) Pd.mNil)))
def m_columns_of : Mir := Pd.mFn 3 r_columns_of
def r_product_of : M Out :=
 (Pd.mSeq (Pd.mSet 2 (Pd.mCallD m_columns_of [] [0] (Pd.mECons (Pd.mVar 1) Pd.mENil) Pd.mENil))
 (Pd.mRet (Pd.mTupOf (Pd.mCons (Pd.mLst (Pd.mComp (.n 4) [4] (Pd.mSeqI (Pd.mVar 0)) Pd.tt1 (Pd.mTupOf (Pd.mCons (Pd.mLst (Pd.mComp (.n 3) [3] (Pd.mSeqI (Pd.mVar 2)) Pd.tt1 (Pd.mCallD m_dot [] [0, 1] (Pd.mECons (Pd.mVar 4) (Pd.mECons (Pd.mVar 3) Pd.mENil)) Pd.mENil))) Pd.mNil)))) Pd.mNil))))
def m_product_of : Mir := Pd.mFn 5 r_product_of
def r_led_by : M Out :=
 (Pd.mRet (Pd.mTupOf (Pd.mCons (Pd.mLst (Pd.mComp (.n 2) [2] (Pd.mSeqI (Pd.mVar 0)) Pd.tt1 (Pd.mCallD m_dot [] [0, 1] (Pd.mECons (Pd.mVar 2) (Pd.mECons (Pd.mVar 1) Pd.mENil)) Pd.mENil))) Pd.mNil)))
def m_led_by : Mir := Pd.mFn 3 r_led_by
def r_less_point : M Out :=
 (Pd.mRet (Pd.mTupOf (Pd.mCons (Pd.mLst (Pd.mComp (.t [2, 3]) [2, 3] (Pd.mZipB (Pd.mCons (Pd.mVar 0) (Pd.mCons (Pd.mVar 1) Pd.mNil))) Pd.tt1 (Pd.mCallD m_sub_ratios [] [0, 1] (Pd.mECons (Pd.mVar 2) (Pd.mECons (Pd.mVar 3) Pd.mENil)) Pd.mENil))) Pd.mNil)))
def m_less_point : Mir := Pd.mFn 4 r_less_point
def r_is_less_ratio : M Out :=
 (Pd.mRet (Pd.mOp Pd.gLt (Pd.mOp Pd.gMul (Pd.mOp Pd.gIx (Pd.mVar 0) (Pd.ret (.int 0))) (Pd.mOp Pd.gIx (Pd.mVar 1) (Pd.ret (.int 1)))) (Pd.mOp Pd.gMul (Pd.mOp Pd.gIx (Pd.mVar 1) (Pd.ret (.int 0))) (Pd.mOp Pd.gIx (Pd.mVar 0) (Pd.ret (.int 1))))))
def m_is_less_ratio : Mir := Pd.mFn 2 r_is_less_ratio
def r_is_from_to : M Out :=
 (Pd.mSeq (Pd.mPar [3, 4] (Pd.mCons (Pd.mCallD m_made_ratio [] [0, 1] (Pd.mECons (Pd.mOp Pd.gIx (Pd.mVar 2) (Pd.ret (.int 0))) (Pd.mECons (Pd.ret (.int (1099511627776))) Pd.mENil)) Pd.mENil) (Pd.mCons (Pd.mCallD m_made_ratio [] [0, 1] (Pd.mECons (Pd.mOp Pd.gIx (Pd.mVar 2) (Pd.ret (.int 1))) (Pd.mECons (Pd.ret (.int (1099511627776))) Pd.mENil)) Pd.mENil) Pd.mNil)))
 (Pd.mRet (Pd.mAndV (Pd.mNotV (Pd.mCallD m_is_less_ratio [] [0, 1] (Pd.mECons (Pd.mVar 0) (Pd.mECons (Pd.mVar 3) Pd.mENil)) Pd.mENil)) (Pd.mNotV (Pd.mCallD m_is_less_ratio [] [0, 1] (Pd.mECons (Pd.mVar 4) (Pd.mECons (Pd.mVar 1) Pd.mENil)) Pd.mENil)))))
def m_is_from_to : Mir := Pd.mFn 5 r_is_from_to
def r_ends_led : M Out :=
 (Pd.mSeq (Pd.mPar [2, 3] (Pd.mCons (Pd.ret (.tup [.int (0), .int (1)])) (Pd.mCons (Pd.ret (.tup [.int (0), .int (1)])) Pd.mNil)))
 (Pd.mSeq (Pd.mFor (.m [.n 4, .t [5, 6]]) (Pd.mZipB (Pd.mCons (Pd.mVar 0) (Pd.mCons (Pd.mVar 1) Pd.mNil)))
  (Pd.mSeq (Pd.mAsg (.t [7, 8]) (Pd.mIte (Pd.mBool (Pd.mOp Pd.gGe (Pd.mOp Pd.gIx (Pd.mVar 4) (Pd.ret (.int 0))) (Pd.ret (.int 0)))) (Pd.mTup (Pd.mCons (Pd.mVar 5) (Pd.mCons (Pd.mVar 6) Pd.mNil))) (Pd.mTup (Pd.mCons (Pd.mVar 6) (Pd.mCons (Pd.mVar 5) Pd.mNil)))))
 (Pd.mSeq (Pd.mSet 2 (Pd.mCallD m_add_ratios [] [0, 1] (Pd.mECons (Pd.mVar 2) (Pd.mECons (Pd.mCallD m_mul_ratios [] [0, 1] (Pd.mECons (Pd.mVar 4) (Pd.mECons (Pd.mCallD m_made_ratio [] [0, 1] (Pd.mECons (Pd.mVar 7) (Pd.mECons (Pd.ret (.int (1099511627776))) Pd.mENil)) Pd.mENil) Pd.mENil)) Pd.mENil) Pd.mENil)) Pd.mENil))
 (Pd.mSet 3 (Pd.mCallD m_add_ratios [] [0, 1] (Pd.mECons (Pd.mVar 3) (Pd.mECons (Pd.mCallD m_mul_ratios [] [0, 1] (Pd.mECons (Pd.mVar 4) (Pd.mECons (Pd.mCallD m_made_ratio [] [0, 1] (Pd.mECons (Pd.mVar 8) (Pd.mECons (Pd.ret (.int (1099511627776))) Pd.mENil)) Pd.mENil) Pd.mENil)) Pd.mENil) Pd.mENil)) Pd.mENil)))))
 (Pd.mRet (Pd.mTup (Pd.mCons (Pd.mVar 2) (Pd.mCons (Pd.mVar 3) Pd.mNil))))))
def m_ends_led : Mir := Pd.mFn 9 r_ends_led
def r_is_within_set : M Out :=
 (Pd.mSeq (Pd.mSet 2 (Pd.mCallD m_inverse_of [] [0] (Pd.mECons (Pd.mOp Pd.gIx (Pd.mVar 1) (Pd.ret (.int 2))) Pd.mENil) Pd.mENil))
 (Pd.mSeq (Pd.mPar [3, 4] (Pd.mCons (Pd.mCallD m_product_of [] [0, 1] (Pd.mECons (Pd.mVar 2) (Pd.mECons (Pd.mOp Pd.gIx (Pd.mVar 0) (Pd.ret (.int 2))) Pd.mENil)) Pd.mENil) (Pd.mCons (Pd.mCallD m_led_by [] [0, 1] (Pd.mECons (Pd.mVar 2) (Pd.mECons (Pd.mCallD m_less_point [] [0, 1] (Pd.mECons (Pd.mOp Pd.gIx (Pd.mVar 0) (Pd.ret (.int 1))) (Pd.mECons (Pd.mOp Pd.gIx (Pd.mVar 1) (Pd.ret (.int 1))) Pd.mENil)) Pd.mENil) Pd.mENil)) Pd.mENil) Pd.mNil)))
 (Pd.mSeq (Pd.mFor (.t [5, 6, 7]) (Pd.mZip3 (Pd.mCons (Pd.mVar 3) (Pd.mCons (Pd.mVar 4) (Pd.mCons (Pd.mOp Pd.gIx (Pd.mVar 1) (Pd.ret (.int 3))) Pd.mNil))))
  (Pd.mSeq (Pd.mAsg (.t [8, 9]) (Pd.mCallD m_ends_led [] [0, 1] (Pd.mECons (Pd.mVar 5) (Pd.mECons (Pd.mOp Pd.gIx (Pd.mVar 0) (Pd.ret (.int 3))) Pd.mENil)) Pd.mENil))
 (Pd.mIf (Pd.mNot (Pd.mBool (Pd.mCallD m_is_from_to [] [0, 1, 2] (Pd.mECons (Pd.mCallD m_add_ratios [] [0, 1] (Pd.mECons (Pd.mVar 6) (Pd.mECons (Pd.mVar 8) Pd.mENil)) Pd.mENil) (Pd.mECons (Pd.mCallD m_add_ratios [] [0, 1] (Pd.mECons (Pd.mVar 6) (Pd.mECons (Pd.mVar 9) Pd.mENil)) Pd.mENil) (Pd.mECons (Pd.mVar 7) Pd.mENil))) Pd.mENil)))
  (Pd.mRet (Pd.ret (.bl false)))
  Pd.mNext)))
 (Pd.mRet (Pd.ret (.bl true))))))
def m_is_within_set : Mir := Pd.mFn 10 r_is_within_set
def r_set_within : M Out :=
 (Pd.mSeq (Pd.mExpr (Pd.mCallD m_want_set [] [0] (Pd.mECons (Pd.mVar 0) Pd.mENil) Pd.mENil))
 (Pd.mSeq (Pd.mExpr (Pd.mCallD m_want_set [] [0] (Pd.mECons (Pd.mVar 1) Pd.mENil) Pd.mENil))
 (Pd.mSeq (Pd.mIf (Pd.mBool (Pd.mOp Pd.gNe (Pd.mB Pd.gLen (Pd.mCons (Pd.mOp Pd.gIx (Pd.mVar 0) (Pd.ret (.int 1))) Pd.mNil)) (Pd.mB Pd.gLen (Pd.mCons (Pd.mOp Pd.gIx (Pd.mVar 1) (Pd.ret (.int 1))) Pd.mNil))))
  (fun _ _ => .bad)
  Pd.mNext)
 (Pd.mRet (Pd.mCallD m_is_within_set [] [0, 1] (Pd.mECons (Pd.mVar 0) (Pd.mECons (Pd.mVar 1) Pd.mENil)) Pd.mENil)))))
def m_set_within : Mir := Pd.mFn 2 r_set_within
def r__law_draw : M Out :=
 (Pd.mSeq (Pd.mIf (Pd.mBool (Pd.mOp Pd.gGt (Pd.mPotI 0 0) (Pd.ret (.int 0))))
  (Pd.mSeq (Pd.mPotD 0 2 (Pd.mVar 1))
 (Pd.mRet (Pd.mVar 2)))
  Pd.mNext)
 (Pd.mSeq (Pd.mPotS 0 (Pd.mOp Pd.gMod (Pd.mB Pd.gInt (Pd.mCons (Pd.mOp Pd.gAdd2 (Pd.mOp Pd.gMul (Pd.mPotI 0 1) (Pd.ret (.int 40014))) (Pd.ret (.int 9421))) Pd.mNil)) (Pd.ret (.int 2147483563))))
 (Pd.mRet (Pd.mOp Pd.gMod (Pd.mB Pd.gInt (Pd.mCons (Pd.mOp Pd.gDiv (Pd.mOp Pd.gMod (Pd.mB Pd.gInt (Pd.mCons (Pd.mOp Pd.gMul (Pd.mPotI 0 1) (Pd.mPotI 0 1)) Pd.mNil)) (Pd.ret (.int 2147483629))) (Pd.ret (.int 19))) Pd.mNil)) (Pd.mVar 1)))))
def m__law_draw : Mir := Pd.mFn 3 r__law_draw
def r__law_pick : M Out :=
 (Pd.mRet (Pd.mOp Pd.gIx (Pd.mVar 1) (Pd.mCallD m__law_draw [] [0, 1] (Pd.mEPot 0 (Pd.mECons (Pd.mB Pd.gLen (Pd.mCons (Pd.mVar 1) Pd.mNil)) Pd.mENil)) Pd.mENil)))
def m__law_pick : Mir := Pd.mFn 2 r__law_pick
def r__law_made : M Out :=
 (Pd.mSeq (Pd.mPar [2, 3] (Pd.mCons (Pd.mB Pd.gAbs (Pd.mCons (Pd.mVar 0) Pd.mNil)) (Pd.mCons (Pd.mB Pd.gAbs (Pd.mCons (Pd.mVar 1) Pd.mNil)) Pd.mNil)))
 (Pd.mSeq (Pd.whileGo (Pd.mBool (Pd.mOp Pd.gGt (Pd.mVar 3) (Pd.ret (.int 0))))
  (Pd.mPar [2, 3] (Pd.mCons (Pd.mVar 3) (Pd.mCons (Pd.mOp Pd.gMod (Pd.mB Pd.gInt (Pd.mCons (Pd.mVar 2) Pd.mNil)) (Pd.mVar 3)) Pd.mNil))) 1000000000000000000000000000000000000000000000000000000000000000000000000000000000000000000000000000000000000000000000000000000000000000000000000000000000000000000000000000000000000000000000000000000000000000000000000000000000000000000000000000000000000000000000000000000000000000000000000000000000000000000000000000000000000000000000000000000000000000000000000000000000000000000000000000000000000000000000000000000000000000000000000000000000000000000000000000000000000000000000000000000000000000000000000000000000000000000000000000000000000000000000000000000000000000000000000000000000000000000000000000000000000000000000000000000000000000000000000000000000000000000000000000000000000000000000000000000000000000000000000000000000000000000000000000000000000000000000000000000000000000000000000000000000000000000000000000000000000000000000000000000000000000000000000000000000000000000000000000000000000000000000000000000000000000000000000000000000000000000000000000000000000000000000000000000000000000000000000000000000000000000000000000000000000000000000000000000000000000000000000000000000000000000000000000000000000000000000000000000000000000000000000000000000000000000000000000000000000000000000000000000000000000000000000000000000000000000000000000000000000000000000000000000000000000000000000000000000000000000000000000000000000000000000000000000000000000000000000000000000000000000000000000000000000000000000000000000000000000000000000000000000000000000000000000000000000000000000000000000000000000000000000000000000000000000000000000000000000000000000000000000000000000000000000000000000000000000000000000000000000000000000000000000000000000000000000000000000000000000000000000000000000000000000000000000000000000000000000000000000000000000000000000000000000000000000000000000000000000000000000000000000000000000000000000000000000000000000000000000000000000000000000000000000000000000000000000000000000000000000000000000000000000000000000000000000000000000000000000000000000000000000000000000000000000000000000000000000000000000000000000000000000000000000000000000000000000000000000000000000000000000000000000000000000000000000000000000000000000000000000000000000000000000000000000000000000000000000000000000000000000000000000000000000000000000000000000000000000000000000000000000000000000000000000000000000000000000000000000000000000000000000000000000000000000000000000000000000000000000000000000000000000000000000000000000000000000000000000000000000000000000000000000000000000000000000000000000000000000000000000000000000000000000000000000000000000000000000000000000000000000000000000000000000000000000000000000000000000000000000000000000000000000000000000000000000000000000000000000000000000)
 (Pd.mSeq (Pd.mSet 2 (Pd.mIte (Pd.mBool (Pd.mOp Pd.gGt (Pd.mVar 1) (Pd.ret (.int 0)))) (Pd.mVar 2) (Pd.mOp Pd.gSub (Pd.ret (.int 0)) (Pd.mVar 2))))
 (Pd.mRet (Pd.mTup (Pd.mCons (Pd.mOp Pd.gDiv (Pd.mVar 0) (Pd.mVar 2)) (Pd.mCons (Pd.mOp Pd.gDiv (Pd.mVar 1) (Pd.mVar 2)) Pd.mNil)))))))
def m__law_made : Mir := Pd.mFn 4 r__law_made
def r__law_ratio : M Out :=
 (Pd.mRet (Pd.mCallD m__law_made [] [0, 1] (Pd.mECons (Pd.mOp Pd.gSub (Pd.mCallD m__law_draw [] [0, 1] (Pd.mEPot 0 (Pd.mECons (Pd.ret (.int 9)) Pd.mENil)) Pd.mENil) (Pd.ret (.int 4))) (Pd.mECons (Pd.mCallD m__law_pick [] [0, 1] (Pd.mEPot 0 (Pd.mECons (Pd.mLst (Pd.mCons (Pd.ret (.int 1)) (Pd.mCons (Pd.ret (.int 1)) (Pd.mCons (Pd.ret (.int 2)) (Pd.mCons (Pd.ret (.int 3)) Pd.mNil))))) Pd.mENil)) Pd.mENil) Pd.mENil)) Pd.mENil))
def m__law_ratio : Mir := Pd.mFn 1 r__law_ratio
def r__law_row : M Out :=
 (Pd.mSeq (Pd.mSetO 2 Pd.mNil)
 (Pd.mSeq (Pd.mFor (.n 3) (Pd.mRng Pd.rng1 (Pd.mCons (Pd.mVar 1) Pd.mNil))
  (Pd.mApp 2 (Pd.mCallD m__law_ratio [] [0] (Pd.mEPot 0 Pd.mENil) Pd.mENil)))
 (Pd.mFrz 2 (Pd.mRet (Pd.mTupOf (Pd.mCons (Pd.mVar 2) Pd.mNil))))))
def m__law_row : Mir := Pd.mFn 4 r__law_row
def r__law_end : M Out :=
 (Pd.mRet (Pd.mCallD m__law_pick [] [0, 1] (Pd.mEPot 0 (Pd.mECons (Pd.mLst (Pd.mCons (Pd.ret (.int 0)) (Pd.mCons (Pd.ret (.int 1)) (Pd.mCons (Pd.mNeg (Pd.ret (.int 1))) (Pd.mCons (Pd.ret (.int 5)) (Pd.mCons (Pd.mNeg (Pd.ret (.int 7))) (Pd.mCons (Pd.mOp Pd.gPow (Pd.ret (.int 2)) (Pd.ret (.int 39))) (Pd.mCons (Pd.mNeg (Pd.mOp Pd.gPow (Pd.ret (.int 2)) (Pd.ret (.int 39)))) (Pd.mCons (Pd.mOp Pd.gPow (Pd.ret (.int 2)) (Pd.ret (.int 40))) (Pd.mCons (Pd.mOp Pd.gMul (Pd.ret (.int 3)) (Pd.mOp Pd.gPow (Pd.ret (.int 2)) (Pd.ret (.int 40)))) (Pd.mCons (Pd.mNeg (Pd.mOp Pd.gPow (Pd.ret (.int 2)) (Pd.ret (.int 41)))) Pd.mNil))))))))))) Pd.mENil)) Pd.mENil))
def m__law_end : Mir := Pd.mFn 1 r__law_end
def r__law_box : M Out :=
 (Pd.mSeq (Pd.mSetO 2 Pd.mNil)
 (Pd.mSeq (Pd.mFor (.n 3) (Pd.mRng Pd.rng1 (Pd.mCons (Pd.mVar 1) Pd.mNil))
  (Pd.mSeq (Pd.mSet 4 (Pd.mCallD m__law_end [] [0] (Pd.mEPot 0 Pd.mENil) Pd.mENil))
 (Pd.mSeq (Pd.mSet 5 (Pd.mCallD m__law_end [] [0] (Pd.mEPot 0 Pd.mENil) Pd.mENil))
 (Pd.mApp 2 (Pd.mTup (Pd.mCons (Pd.mB Pd.gMin (Pd.mCons (Pd.mVar 4) (Pd.mCons (Pd.mVar 5) Pd.mNil))) (Pd.mCons (Pd.mB Pd.gMax (Pd.mCons (Pd.mVar 4) (Pd.mCons (Pd.mVar 5) Pd.mNil))) Pd.mNil)))))))
 (Pd.mFrz 2 (Pd.mRet (Pd.mTupOf (Pd.mCons (Pd.mVar 2) Pd.mNil))))))
def m__law_box : Mir := Pd.mFn 6 r__law_box
def r__law_matrix : M Out :=
 (Pd.mSeq (Pd.mSetO 3 Pd.mNil)
 (Pd.mSeq (Pd.mFor (.n 4) (Pd.mRng Pd.rng1 (Pd.mCons (Pd.mVar 1) Pd.mNil))
  (Pd.mApp 3 (Pd.mCallD m__law_row [] [0, 1] (Pd.mEPot 0 (Pd.mECons (Pd.mVar 2) Pd.mENil)) Pd.mENil)))
 (Pd.mFrz 3 (Pd.mRet (Pd.mTupOf (Pd.mCons (Pd.mVar 3) Pd.mNil))))))
def m__law_matrix : Mir := Pd.mFn 5 r__law_matrix
def r__law_unit : M Out :=
 (Pd.mRet (Pd.mTupOf (Pd.mCons (Pd.mLst (Pd.mComp (.n 2) [2] (Pd.mRng Pd.rng1 (Pd.mCons (Pd.mVar 0) Pd.mNil)) Pd.tt1 (Pd.mTupOf (Pd.mCons (Pd.mLst (Pd.mComp (.n 1) [1] (Pd.mRng Pd.rng1 (Pd.mCons (Pd.mVar 0) Pd.mNil)) Pd.tt1 (Pd.mTup (Pd.mCons (Pd.mB Pd.gInt (Pd.mCons (Pd.mOp Pd.gEq (Pd.mVar 1) (Pd.mVar 2)) Pd.mNil)) (Pd.mCons (Pd.ret (.int 1)) Pd.mNil))))) Pd.mNil)))) Pd.mNil)))
def m__law_unit : Mir := Pd.mFn 3 r__law_unit
def r__law_sum : M Out :=
 (Pd.mRet (Pd.mCallD m__law_made [] [0, 1] (Pd.mECons (Pd.mOp Pd.gAdd2 (Pd.mOp Pd.gMul (Pd.mOp Pd.gIx (Pd.mVar 0) (Pd.ret (.int 0))) (Pd.mOp Pd.gIx (Pd.mVar 1) (Pd.ret (.int 1)))) (Pd.mOp Pd.gMul (Pd.mOp Pd.gIx (Pd.mVar 1) (Pd.ret (.int 0))) (Pd.mOp Pd.gIx (Pd.mVar 0) (Pd.ret (.int 1))))) (Pd.mECons (Pd.mOp Pd.gMul (Pd.mOp Pd.gIx (Pd.mVar 0) (Pd.ret (.int 1))) (Pd.mOp Pd.gIx (Pd.mVar 1) (Pd.ret (.int 1)))) Pd.mENil)) Pd.mENil))
def m__law_sum : Mir := Pd.mFn 2 r__law_sum
def r__law_times : M Out :=
 (Pd.mRet (Pd.mCallD m__law_made [] [0, 1] (Pd.mECons (Pd.mOp Pd.gMul (Pd.mOp Pd.gIx (Pd.mVar 0) (Pd.ret (.int 0))) (Pd.mOp Pd.gIx (Pd.mVar 1) (Pd.ret (.int 0)))) (Pd.mECons (Pd.mOp Pd.gMul (Pd.mOp Pd.gIx (Pd.mVar 0) (Pd.ret (.int 1))) (Pd.mOp Pd.gIx (Pd.mVar 1) (Pd.ret (.int 1)))) Pd.mENil)) Pd.mENil))
def m__law_times : Mir := Pd.mFn 2 r__law_times
def r__law_less : M Out :=
 (Pd.mRet (Pd.mCallD m__law_sum [] [0, 1] (Pd.mECons (Pd.mVar 0) (Pd.mECons (Pd.mTup (Pd.mCons (Pd.mOp Pd.gSub (Pd.ret (.int 0)) (Pd.mOp Pd.gIx (Pd.mVar 1) (Pd.ret (.int 0)))) (Pd.mCons (Pd.mOp Pd.gIx (Pd.mVar 1) (Pd.ret (.int 1))) Pd.mNil))) Pd.mENil)) Pd.mENil))
def m__law_less : Mir := Pd.mFn 2 r__law_less
def r__law_minor : M Out :=
 (Pd.mSeq (Pd.mSet 3 (Pd.mOp Pd.gAdd2 (Pd.mSl (Pd.mVar 0) Pd.mNoP (Pd.mPt (Pd.mVar 1))) (Pd.mSl (Pd.mVar 0) (Pd.mPt (Pd.mOp Pd.gAdd2 (Pd.mVar 1) (Pd.ret (.int 1)))) Pd.mNoP)))
 (Pd.mRet (Pd.mTupOf (Pd.mCons (Pd.mLst (Pd.mComp (.n 4) [4] (Pd.mSeqI (Pd.mVar 3)) Pd.tt1 (Pd.mOp Pd.gAdd2 (Pd.mSl (Pd.mVar 4) Pd.mNoP (Pd.mPt (Pd.mVar 2))) (Pd.mSl (Pd.mVar 4) (Pd.mPt (Pd.mOp Pd.gAdd2 (Pd.mVar 2) (Pd.ret (.int 1)))) Pd.mNoP)))) Pd.mNil))))
def m__law_minor : Mir := Pd.mFn 5 r__law_minor
def r__law_det (recm : Mir) : M Out :=
 (Pd.mSeq (Pd.mIf (Pd.mBool (Pd.mOp Pd.gEq (Pd.mB Pd.gLen (Pd.mCons (Pd.mVar 0) Pd.mNil)) (Pd.ret (.int 1))))
  (Pd.mRet (Pd.mOp Pd.gIx (Pd.mOp Pd.gIx (Pd.mVar 0) (Pd.ret (.int 0))) (Pd.ret (.int 0))))
  Pd.mNext)
 (Pd.mSeq (Pd.mSet 1 (Pd.mTup (Pd.mCons (Pd.ret (.int 0)) (Pd.mCons (Pd.ret (.int 1)) Pd.mNil))))
 (Pd.mSeq (Pd.mFor (.t [2, 3]) (Pd.mEnum2 (Pd.mCons (Pd.mOp Pd.gIx (Pd.mVar 0) (Pd.ret (.int 0))) Pd.mNil))
  (Pd.mSeq (Pd.mSet 4 (Pd.mCallD m__law_times [] [0, 1] (Pd.mECons (Pd.mVar 3) (Pd.mECons (Pd.mCallD recm [] [0] (Pd.mECons (Pd.mCallD m__law_minor [] [0, 1, 2] (Pd.mECons (Pd.mVar 0) (Pd.mECons (Pd.ret (.int 0)) (Pd.mECons (Pd.mVar 2) Pd.mENil))) Pd.mENil) Pd.mENil) Pd.mENil) Pd.mENil)) Pd.mENil))
 (Pd.mSet 1 (Pd.mIte (Pd.mBool (Pd.mOp Pd.gEq (Pd.mOp Pd.gSub (Pd.mVar 2) (Pd.mOp Pd.gMul (Pd.mOp Pd.gDiv (Pd.mVar 2) (Pd.ret (.int 2))) (Pd.ret (.int 2)))) (Pd.ret (.int 0)))) (Pd.mCallD m__law_sum [] [0, 1] (Pd.mECons (Pd.mVar 1) (Pd.mECons (Pd.mVar 4) Pd.mENil)) Pd.mENil) (Pd.mCallD m__law_less [] [0, 1] (Pd.mECons (Pd.mVar 1) (Pd.mECons (Pd.mVar 4) Pd.mENil)) Pd.mENil)))))
 (Pd.mRet (Pd.mVar 1)))))
def m__law_det : Nat → Mir
  | 0 => fun _ _ => .bad
  | n + 1 => Pd.mFn 5 (r__law_det (m__law_det n))
def r__law_strong : M Out :=
 (Pd.mSeq (Pd.mSet 2 (Pd.mCallD m__law_matrix [] [0, 1, 2] (Pd.mEPot 0 (Pd.mECons (Pd.mVar 1) (Pd.mECons (Pd.mVar 1) Pd.mENil))) Pd.mENil))
 (Pd.mRet (Pd.mIte (Pd.mBool (Pd.mOp Pd.gNe (Pd.mOp Pd.gIx (Pd.mCallD (m__law_det 12) [] [0] (Pd.mECons (Pd.mVar 2) Pd.mENil) Pd.mENil) (Pd.ret (.int 0))) (Pd.ret (.int 0)))) (Pd.mVar 2) (Pd.mCallD m__law_unit [] [0] (Pd.mECons (Pd.mVar 1) Pd.mENil) Pd.mENil))))
def m__law_strong : Mir := Pd.mFn 3 r__law_strong
def r__law_set : M Out :=
 (Pd.mSeq (Pd.mSet 2 (Pd.mCallD m__law_row [] [0, 1] (Pd.mEPot 0 (Pd.mECons (Pd.mVar 1) Pd.mENil)) Pd.mENil))
 (Pd.mSeq (Pd.mSet 3 (Pd.mCallD m__law_strong [] [0, 1] (Pd.mEPot 0 (Pd.mECons (Pd.mVar 1) Pd.mENil)) Pd.mENil))
 (Pd.mRet (Pd.mTup (Pd.mCons (Pd.ret (.str "set")) (Pd.mCons (Pd.mVar 2) (Pd.mCons (Pd.mVar 3) (Pd.mCons (Pd.mCallD m__law_box [] [0, 1] (Pd.mEPot 0 (Pd.mECons (Pd.mVar 1) Pd.mENil)) Pd.mENil) Pd.mNil))))))))
def m__law_set : Mir := Pd.mFn 4 r__law_set
def r__law_dot : M Out :=
 (Pd.mSeq (Pd.mSet 2 (Pd.mTup (Pd.mCons (Pd.ret (.int 0)) (Pd.mCons (Pd.ret (.int 1)) Pd.mNil))))
 (Pd.mSeq (Pd.mFor (.t [3, 4]) (Pd.mZipB (Pd.mCons (Pd.mVar 0) (Pd.mCons (Pd.mVar 1) Pd.mNil)))
  (Pd.mSet 2 (Pd.mCallD m__law_sum [] [0, 1] (Pd.mECons (Pd.mVar 2) (Pd.mECons (Pd.mCallD m__law_times [] [0, 1] (Pd.mECons (Pd.mVar 3) (Pd.mECons (Pd.mVar 4) Pd.mENil)) Pd.mENil) Pd.mENil)) Pd.mENil)))
 (Pd.mRet (Pd.mVar 2))))
def m__law_dot : Mir := Pd.mFn 5 r__law_dot
def r__law_led : M Out :=
 (Pd.mRet (Pd.mTupOf (Pd.mCons (Pd.mLst (Pd.mComp (.n 2) [2] (Pd.mSeqI (Pd.mVar 0)) Pd.tt1 (Pd.mCallD m__law_dot [] [0, 1] (Pd.mECons (Pd.mVar 2) (Pd.mECons (Pd.mVar 1) Pd.mENil)) Pd.mENil))) Pd.mNil)))
def m__law_led : Mir := Pd.mFn 3 r__law_led
def r__law_inverse : M Out :=
 (Pd.mSeq (Pd.mPar [1, 2] (Pd.mCons (Pd.mCallD (m__law_det 12) [] [0] (Pd.mECons (Pd.mVar 0) Pd.mENil) Pd.mENil) (Pd.mCons (Pd.mB Pd.gLen (Pd.mCons (Pd.mVar 0) Pd.mNil)) Pd.mNil)))
 (Pd.mSeq (Pd.mIf (Pd.mBool (Pd.mOp Pd.gEq (Pd.mOp Pd.gIx (Pd.mVar 1) (Pd.ret (.int 0))) (Pd.ret (.int 0))))
  (Pd.mRet (Pd.ret .non))
  Pd.mNext)
 (Pd.mSeq (Pd.mSetO 3 Pd.mNil)
 (Pd.mSeq (Pd.mFor (.n 4) (Pd.mRng Pd.rng1 (Pd.mCons (Pd.mVar 2) Pd.mNil))
  (Pd.mSeq (Pd.mSetO 5 Pd.mNil)
 (Pd.mSeq (Pd.mFor (.n 6) (Pd.mRng Pd.rng1 (Pd.mCons (Pd.mVar 2) Pd.mNil))
  (Pd.mSeq (Pd.mSet 7 (Pd.mIte (Pd.mBool (Pd.mOp Pd.gEq (Pd.mVar 2) (Pd.ret (.int 1)))) (Pd.mTup (Pd.mCons (Pd.ret (.int 1)) (Pd.mCons (Pd.ret (.int 1)) Pd.mNil))) (Pd.mCallD (m__law_det 12) [] [0] (Pd.mECons (Pd.mCallD m__law_minor [] [0, 1, 2] (Pd.mECons (Pd.mVar 0) (Pd.mECons (Pd.mVar 6) (Pd.mECons (Pd.mVar 4) Pd.mENil))) Pd.mENil) Pd.mENil) Pd.mENil)))
 (Pd.mSeq (Pd.mSet 8 (Pd.mOp Pd.gSub (Pd.ret (.int 1)) (Pd.mOp Pd.gMul (Pd.mOp Pd.gSub (Pd.mOp Pd.gAdd2 (Pd.mVar 4) (Pd.mVar 6)) (Pd.mOp Pd.gMul (Pd.mOp Pd.gDiv (Pd.mOp Pd.gAdd2 (Pd.mVar 4) (Pd.mVar 6)) (Pd.ret (.int 2))) (Pd.ret (.int 2)))) (Pd.ret (.int 2)))))
 (Pd.mApp 5 (Pd.mCallD m__law_made [] [0, 1] (Pd.mECons (Pd.mOp Pd.gMul (Pd.mOp Pd.gMul (Pd.mOp Pd.gIx (Pd.mVar 7) (Pd.ret (.int 0))) (Pd.mVar 8)) (Pd.mOp Pd.gIx (Pd.mVar 1) (Pd.ret (.int 1)))) (Pd.mECons (Pd.mOp Pd.gMul (Pd.mOp Pd.gIx (Pd.mVar 7) (Pd.ret (.int 1))) (Pd.mOp Pd.gIx (Pd.mVar 1) (Pd.ret (.int 0)))) Pd.mENil)) Pd.mENil)))))
 (Pd.mFrz 5 (Pd.mApp 3 (Pd.mTupOf (Pd.mCons (Pd.mVar 5) Pd.mNil)))))))
 (Pd.mFrz 3 (Pd.mRet (Pd.mTupOf (Pd.mCons (Pd.mVar 3) Pd.mNil))))))))
def m__law_inverse : Mir := Pd.mFn 9 r__law_inverse
def r__law_point : M Out :=
 (Pd.mSeq (Pd.mSet 2 (Pd.mCallD m__law_led [] [0, 1] (Pd.mECons (Pd.mOp Pd.gIx (Pd.mVar 0) (Pd.ret (.int 2))) (Pd.mECons (Pd.mVar 1) Pd.mENil)) Pd.mENil))
 (Pd.mRet (Pd.mTupOf (Pd.mCons (Pd.mLst (Pd.mComp (.t [3, 4]) [3, 4] (Pd.mZipB (Pd.mCons (Pd.mOp Pd.gIx (Pd.mVar 0) (Pd.ret (.int 1))) (Pd.mCons (Pd.mVar 2) Pd.mNil))) Pd.tt1 (Pd.mCallD m__law_sum [] [0, 1] (Pd.mECons (Pd.mVar 3) (Pd.mECons (Pd.mVar 4) Pd.mENil)) Pd.mENil))) Pd.mNil))))
def m__law_point : Mir := Pd.mFn 5 r__law_point
def r__law_one : M Out :=
 (Pd.mRet (Pd.ret (.int 1099511627776)))
def m__law_one : Mir := Pd.mFn 0 r__law_one
def r__law_has : M Out :=
 (Pd.mSeq (Pd.mFor (.m [.t [2, 3], .t [4, 5]]) (Pd.mZipB (Pd.mCons (Pd.mVar 0) (Pd.mCons (Pd.mVar 1) Pd.mNil)))
  (Pd.mIf (Pd.mNot (Pd.mBool (Pd.mChn (Pd.mOp Pd.gMul (Pd.mVar 2) (Pd.mVar 5)) (Pd.cLink Pd.gLe (Pd.mOp Pd.gMul (Pd.mVar 4) (Pd.mCallD m__law_one [] [] Pd.mENil Pd.mENil)) (Pd.cLast Pd.gLe (Pd.mOp Pd.gMul (Pd.mVar 3) (Pd.mVar 5)))))))
  (Pd.mRet (Pd.ret (.bl false)))
  Pd.mNext))
 (Pd.mRet (Pd.ret (.bl true))))
def m__law_has : Mir := Pd.mFn 6 r__law_has
def r__law_corners : M Out :=
 (Pd.mSeq (Pd.mSet 1 (Pd.mLst (Pd.mCons (Pd.mTup Pd.mNil) Pd.mNil)))
 (Pd.mSeq (Pd.mFor (.t [2, 3]) (Pd.mSeqI (Pd.mVar 0))
  (Pd.mSeq (Pd.mSetO 4 Pd.mNil)
 (Pd.mSeq (Pd.mFor (.n 5) (Pd.mSeqI (Pd.mVar 1))
  (Pd.mFor (.n 6) (Pd.mSeqI (Pd.mLst (Pd.mCons (Pd.mVar 2) (Pd.mCons (Pd.mVar 3) Pd.mNil))))
  (Pd.mApp 4 (Pd.mOp Pd.gAdd2 (Pd.mVar 5) (Pd.mTup (Pd.mCons (Pd.mCallD m__law_made [] [0, 1] (Pd.mECons (Pd.mVar 6) (Pd.mECons (Pd.mCallD m__law_one [] [] Pd.mENil Pd.mENil) Pd.mENil)) Pd.mENil) Pd.mNil))))))
 (Pd.mFrz 4 (Pd.mSet 1 (Pd.mVar 4))))))
 (Pd.mRet (Pd.mVar 1))))
def m__law_corners : Mir := Pd.mFn 7 r__law_corners
def r__law_within : M Out :=
 (Pd.mSeq (Pd.mSet 2 (Pd.mCallD m__law_inverse [] [0] (Pd.mECons (Pd.mOp Pd.gIx (Pd.mVar 1) (Pd.ret (.int 2))) Pd.mENil) Pd.mENil))
 (Pd.mSeq (Pd.mFor (.n 3) (Pd.mSeqI (Pd.mCallD m__law_corners [] [0] (Pd.mECons (Pd.mOp Pd.gIx (Pd.mVar 0) (Pd.ret (.int 3))) Pd.mENil) Pd.mENil))
  (Pd.mSeq (Pd.mSet 4 (Pd.mCallD m__law_point [] [0, 1] (Pd.mECons (Pd.mVar 0) (Pd.mECons (Pd.mVar 3) Pd.mENil)) Pd.mENil))
 (Pd.mSeq (Pd.mSet 5 (Pd.mTupOf (Pd.mCons (Pd.mLst (Pd.mComp (.t [6, 7]) [6, 7] (Pd.mZipB (Pd.mCons (Pd.mVar 4) (Pd.mCons (Pd.mOp Pd.gIx (Pd.mVar 1) (Pd.ret (.int 1))) Pd.mNil))) Pd.tt1 (Pd.mCallD m__law_less [] [0, 1] (Pd.mECons (Pd.mVar 6) (Pd.mECons (Pd.mVar 7) Pd.mENil)) Pd.mENil))) Pd.mNil)))
 (Pd.mIf (Pd.mNot (Pd.mBool (Pd.mCallD m__law_has [] [0, 1] (Pd.mECons (Pd.mOp Pd.gIx (Pd.mVar 1) (Pd.ret (.int 3))) (Pd.mECons (Pd.mCallD m__law_led [] [0, 1] (Pd.mECons (Pd.mVar 2) (Pd.mECons (Pd.mVar 5) Pd.mENil)) Pd.mENil) Pd.mENil)) Pd.mENil)))
  (Pd.mRet (Pd.ret (.bl false)))
  Pd.mNext))))
 (Pd.mRet (Pd.ret (.bl true)))))
def m__law_within : Mir := Pd.mFn 8 r__law_within
def r__law_floor : M Out :=
 (Pd.mRet (Pd.mOp Pd.gDiv (Pd.mOp Pd.gIx (Pd.mVar 0) (Pd.ret (.int 0))) (Pd.mOp Pd.gIx (Pd.mVar 0) (Pd.ret (.int 1)))))
def m__law_floor : Mir := Pd.mFn 1 r__law_floor
def r__law_ceiling : M Out :=
 (Pd.mRet (Pd.mOp Pd.gSub (Pd.ret (.int 0)) (Pd.mOp Pd.gDiv (Pd.mOp Pd.gSub (Pd.ret (.int 0)) (Pd.mOp Pd.gIx (Pd.mVar 0) (Pd.ret (.int 0)))) (Pd.mOp Pd.gIx (Pd.mVar 0) (Pd.ret (.int 1))))))
def m__law_ceiling : Mir := Pd.mFn 1 r__law_ceiling
def r__law_hull : M Out :=
 (Pd.mSeq (Pd.mSetO 1 Pd.mNil)
 (Pd.mSeq (Pd.mFor (.t [2, 3]) (Pd.mZipB (Pd.mCons (Pd.mOp Pd.gIx (Pd.mVar 0) (Pd.ret (.int 1))) (Pd.mCons (Pd.mOp Pd.gIx (Pd.mVar 0) (Pd.ret (.int 2))) Pd.mNil)))
  (Pd.mSeq (Pd.mSet 4 (Pd.mCallD m__law_times [] [0, 1] (Pd.mECons (Pd.mVar 2) (Pd.mECons (Pd.mTup (Pd.mCons (Pd.mCallD m__law_one [] [] Pd.mENil Pd.mENil) (Pd.mCons (Pd.ret (.int 1)) Pd.mNil))) Pd.mENil)) Pd.mENil))
 (Pd.mSeq (Pd.mPar [5, 6] (Pd.mCons (Pd.mCallD m__law_floor [] [0] (Pd.mECons (Pd.mVar 4) Pd.mENil) Pd.mENil) (Pd.mCons (Pd.mCallD m__law_ceiling [] [0] (Pd.mECons (Pd.mVar 4) Pd.mENil) Pd.mENil) Pd.mNil)))
 (Pd.mSeq (Pd.mFor (.m [.n 7, .t [8, 9]]) (Pd.mZipB (Pd.mCons (Pd.mVar 3) (Pd.mCons (Pd.mOp Pd.gIx (Pd.mVar 0) (Pd.ret (.int 3))) Pd.mNil)))
  (Pd.mSeq (Pd.mSet 10 (Pd.mLst (Pd.mCons (Pd.mCallD m__law_times [] [0, 1] (Pd.mECons (Pd.mVar 7) (Pd.mECons (Pd.mTup (Pd.mCons (Pd.mVar 8) (Pd.mCons (Pd.ret (.int 1)) Pd.mNil))) Pd.mENil)) Pd.mENil) (Pd.mCons (Pd.mCallD m__law_times [] [0, 1] (Pd.mECons (Pd.mVar 7) (Pd.mECons (Pd.mTup (Pd.mCons (Pd.mVar 9) (Pd.mCons (Pd.ret (.int 1)) Pd.mNil))) Pd.mENil)) Pd.mENil) Pd.mNil))))
 (Pd.mSeq (Pd.mSet 10 (Pd.mIte (Pd.mBool (Pd.mOp Pd.gGe (Pd.mOp Pd.gIx (Pd.mVar 7) (Pd.ret (.int 0))) (Pd.ret (.int 0)))) (Pd.mVar 10) (Pd.mRev (Pd.mVar 10))))
 (Pd.mPar [5, 6] (Pd.mCons (Pd.mOp Pd.gAdd2 (Pd.mVar 5) (Pd.mCallD m__law_floor [] [0] (Pd.mECons (Pd.mOp Pd.gIx (Pd.mVar 10) (Pd.ret (.int 0))) Pd.mENil) Pd.mENil)) (Pd.mCons (Pd.mOp Pd.gAdd2 (Pd.mVar 6) (Pd.mCallD m__law_ceiling [] [0] (Pd.mECons (Pd.mOp Pd.gIx (Pd.mVar 10) (Pd.ret (.int 1))) Pd.mENil) Pd.mENil)) Pd.mNil))))))
 (Pd.mApp 1 (Pd.mTup (Pd.mCons (Pd.mVar 5) (Pd.mCons (Pd.mVar 6) Pd.mNil))))))))
 (Pd.mFrz 1 (Pd.mRet (Pd.mTupOf (Pd.mCons (Pd.mVar 1) Pd.mNil))))))
def m__law_hull : Mir := Pd.mFn 11 r__law_hull
def r__law_near : M Out :=
 (Pd.mSeq (Pd.mSetO 2 Pd.mNil)
 (Pd.mSeq (Pd.mFor (.t [3, 4]) (Pd.mSeqI (Pd.mOp Pd.gIx (Pd.mVar 1) (Pd.ret (.int 3))))
  (Pd.mSeq (Pd.mPar [5, 6] (Pd.mCons (Pd.mCallD m__law_pick [] [0, 1] (Pd.mEPot 0 (Pd.mECons (Pd.mLst (Pd.mCons (Pd.ret (.int 0)) (Pd.mCons (Pd.ret (.int 0)) (Pd.mCons (Pd.ret (.int 1)) (Pd.mCons (Pd.mNeg (Pd.ret (.int 1))) Pd.mNil))))) Pd.mENil)) Pd.mENil) (Pd.mCons (Pd.mCallD m__law_pick [] [0, 1] (Pd.mEPot 0 (Pd.mECons (Pd.mLst (Pd.mCons (Pd.ret (.int 0)) (Pd.mCons (Pd.ret (.int 0)) (Pd.mCons (Pd.ret (.int 1)) (Pd.mCons (Pd.mNeg (Pd.ret (.int 1))) Pd.mNil))))) Pd.mENil)) Pd.mENil) Pd.mNil)))
 (Pd.mSeq (Pd.mSet 7 (Pd.mLst (Pd.mCons (Pd.mOp Pd.gSub (Pd.mVar 3) (Pd.mVar 5)) (Pd.mCons (Pd.mOp Pd.gAdd2 (Pd.mVar 4) (Pd.mVar 6)) Pd.mNil))))
 (Pd.mApp 2 (Pd.mTup (Pd.mCons (Pd.mB Pd.gMin (Pd.mCons (Pd.mVar 7) Pd.mNil)) (Pd.mCons (Pd.mB Pd.gMax (Pd.mCons (Pd.mVar 7) Pd.mNil)) Pd.mNil)))))))
 (Pd.mSeq (Pd.mIf (Pd.mBool (Pd.mOp Pd.gEq (Pd.mCallD m__law_draw [] [0, 1] (Pd.mEPot 0 (Pd.mECons (Pd.ret (.int 2)) Pd.mENil)) Pd.mENil) (Pd.ret (.int 0))))
  (Pd.mFrz 2 (Pd.mRet (Pd.mOp Pd.gAdd2 (Pd.mSl (Pd.mVar 1) Pd.mNoP (Pd.mPt (Pd.ret (.int 3)))) (Pd.mTup (Pd.mCons (Pd.mTupOf (Pd.mCons (Pd.mVar 2) Pd.mNil)) Pd.mNil)))))
  Pd.mNext)
 (Pd.mSeq (Pd.mIf (Pd.mBool (Pd.mOp Pd.gEq (Pd.mCallD m__law_draw [] [0, 1] (Pd.mEPot 0 (Pd.mECons (Pd.ret (.int 2)) Pd.mENil)) Pd.mENil) (Pd.ret (.int 0))))
  (Pd.mSeq (Pd.mParE 8 9)
 (Pd.mSeq (Pd.mFor (.n 10) (Pd.mSeqI (Pd.mOp Pd.gIx (Pd.mVar 1) (Pd.ret (.int 2))))
  (Pd.mApp 8 (Pd.mTupOf (Pd.mCons (Pd.mLst (Pd.mComp (.n 11) [11] (Pd.mSeqI (Pd.mVar 10)) Pd.tt1 (Pd.mCallD m__law_times [] [0, 1] (Pd.mECons (Pd.mTup (Pd.mCons (Pd.ret (.int 1)) (Pd.mCons (Pd.ret (.int 1000000)) Pd.mNil))) (Pd.mECons (Pd.mVar 11) Pd.mENil)) Pd.mENil))) Pd.mNil))))
 (Pd.mSeq (Pd.mFor (.t [3, 4]) (Pd.mSeqI (Pd.mOp Pd.gIx (Pd.mVar 1) (Pd.ret (.int 3))))
  (Pd.mSeq (Pd.mPar [5, 6] (Pd.mCons (Pd.mCallD m__law_pick [] [0, 1] (Pd.mEPot 0 (Pd.mECons (Pd.mLst (Pd.mCons (Pd.ret (.int 0)) (Pd.mCons (Pd.ret (.int 0)) (Pd.mCons (Pd.ret (.int 1)) (Pd.mCons (Pd.mNeg (Pd.ret (.int 1))) Pd.mNil))))) Pd.mENil)) Pd.mENil) (Pd.mCons (Pd.mCallD m__law_pick [] [0, 1] (Pd.mEPot 0 (Pd.mECons (Pd.mLst (Pd.mCons (Pd.ret (.int 0)) (Pd.mCons (Pd.ret (.int 0)) (Pd.mCons (Pd.ret (.int 1)) (Pd.mCons (Pd.mNeg (Pd.ret (.int 1))) Pd.mNil))))) Pd.mENil)) Pd.mENil) Pd.mNil)))
 (Pd.mSeq (Pd.mSet 7 (Pd.mLst (Pd.mCons (Pd.mOp Pd.gSub (Pd.mOp Pd.gMul (Pd.mVar 3) (Pd.ret (.int 1000000))) (Pd.mVar 5)) (Pd.mCons (Pd.mOp Pd.gAdd2 (Pd.mOp Pd.gMul (Pd.mVar 4) (Pd.ret (.int 1000000))) (Pd.mVar 6)) Pd.mNil))))
 (Pd.mApp 9 (Pd.mTup (Pd.mCons (Pd.mB Pd.gMin (Pd.mCons (Pd.mVar 7) Pd.mNil)) (Pd.mCons (Pd.mB Pd.gMax (Pd.mCons (Pd.mVar 7) Pd.mNil)) Pd.mNil)))))))
 (Pd.mFrz 9 (Pd.mFrz 8 (Pd.mRet (Pd.mTup (Pd.mCons (Pd.ret (.str "set")) (Pd.mCons (Pd.mOp Pd.gIx (Pd.mVar 1) (Pd.ret (.int 1))) (Pd.mCons (Pd.mTupOf (Pd.mCons (Pd.mVar 8) Pd.mNil)) (Pd.mCons (Pd.mTupOf (Pd.mCons (Pd.mVar 9) Pd.mNil)) Pd.mNil)))))))))))
  Pd.mNext)
 (Pd.mSeq (Pd.mSet 12 (Pd.mTupOf (Pd.mCons (Pd.mLst (Pd.mComp (.n 10) [10] (Pd.mSeqI (Pd.mOp Pd.gIx (Pd.mVar 1) (Pd.ret (.int 2)))) Pd.tt1 (Pd.mTupOf (Pd.mCons (Pd.mLst (Pd.mComp (.n 11) [11] (Pd.mSeqI (Pd.mVar 10)) Pd.tt1 (Pd.mCallD m__law_times [] [0, 1] (Pd.mECons (Pd.mTup (Pd.mCons (Pd.ret (.int 2)) (Pd.mCons (Pd.ret (.int 1)) Pd.mNil))) (Pd.mECons (Pd.mVar 11) Pd.mENil)) Pd.mENil))) Pd.mNil)))) Pd.mNil)))
 (Pd.mSeq (Pd.mFrz 2 (Pd.mSetO 9 (Pd.mComp (.t [3, 4]) [3, 4] (Pd.mSeqI (Pd.mVar 2)) Pd.tt1 (Pd.mTup (Pd.mCons (Pd.mOp Pd.gDiv (Pd.mOp Pd.gSub (Pd.mVar 3) (Pd.ret (.int 1))) (Pd.ret (.int 2))) (Pd.mCons (Pd.mOp Pd.gDiv (Pd.mOp Pd.gAdd2 (Pd.mVar 4) (Pd.ret (.int 1))) (Pd.ret (.int 2))) Pd.mNil))))))
 (Pd.mFrz 9 (Pd.mRet (Pd.mTup (Pd.mCons (Pd.ret (.str "set")) (Pd.mCons (Pd.mOp Pd.gIx (Pd.mVar 1) (Pd.ret (.int 1))) (Pd.mCons (Pd.mVar 12) (Pd.mCons (Pd.mTupOf (Pd.mCons (Pd.mVar 9) Pd.mNil)) Pd.mNil)))))))))))))
def m__law_near : Mir := Pd.mFn 13 r__law_near
def r__law_other : M Out :=
 (Pd.mSeq (Pd.mPar [2, 3] (Pd.mCons (Pd.mCallD m__law_draw [] [0, 1] (Pd.mEPot 0 (Pd.mECons (Pd.ret (.int 4)) Pd.mENil)) Pd.mENil) (Pd.mCons (Pd.mB Pd.gLen (Pd.mCons (Pd.mOp Pd.gIx (Pd.mVar 1) (Pd.ret (.int 1))) Pd.mNil)) Pd.mNil)))
 (Pd.mSeq (Pd.mIf (Pd.mBool (Pd.mOp Pd.gLt (Pd.mVar 2) (Pd.ret (.int 2))))
  (Pd.mRet (Pd.mCallD m__law_near [] [0, 1] (Pd.mEPot 0 (Pd.mECons (Pd.mVar 1) Pd.mENil)) Pd.mENil))
  Pd.mNext)
 (Pd.mSeq (Pd.mIf (Pd.mBool (Pd.mOp Pd.gEq (Pd.mVar 2) (Pd.ret (.int 2))))
  (Pd.mRet (Pd.mCallD m__law_set [] [0, 1] (Pd.mEPot 0 (Pd.mECons (Pd.mVar 3) Pd.mENil)) Pd.mENil))
  Pd.mNext)
 (Pd.mSeq (Pd.mSet 4 (Pd.mCallD m__law_hull [] [0] (Pd.mECons (Pd.mVar 1) Pd.mENil) Pd.mENil))
 (Pd.mSeq (Pd.mIf (Pd.mBool (Pd.mOp Pd.gEq (Pd.mCallD m__law_draw [] [0, 1] (Pd.mEPot 0 (Pd.mECons (Pd.ret (.int 2)) Pd.mENil)) Pd.mENil) (Pd.ret (.int 0))))
  (Pd.mSeq (Pd.mAsg (.t [5, 6]) (Pd.mOp Pd.gIx (Pd.mVar 4) (Pd.ret (.int 0))))
 (Pd.mSet 4 (Pd.mOp Pd.gAdd2 (Pd.mTup (Pd.mCons (Pd.mTup (Pd.mCons (Pd.mOp Pd.gAdd2 (Pd.mVar 5) (Pd.ret (.int 1))) (Pd.mCons (Pd.mB Pd.gMax (Pd.mCons (Pd.mVar 6) (Pd.mCons (Pd.mOp Pd.gAdd2 (Pd.mVar 5) (Pd.ret (.int 1))) Pd.mNil))) Pd.mNil))) Pd.mNil)) (Pd.mSl (Pd.mVar 4) (Pd.mPt (Pd.ret (.int 1))) Pd.mNoP))))
  Pd.mNext)
 (Pd.mSeq (Pd.mSet 7 (Pd.mTupOf (Pd.mCons (Pd.mLst (Pd.mRepO (Pd.mCons (Pd.mTup (Pd.mCons (Pd.ret (.int 0)) (Pd.mCons (Pd.ret (.int 1)) Pd.mNil))) Pd.mNil) (Pd.mVar 3))) Pd.mNil)))
 (Pd.mRet (Pd.mTup (Pd.mCons (Pd.ret (.str "set")) (Pd.mCons (Pd.mVar 7) (Pd.mCons (Pd.mCallD m__law_unit [] [0] (Pd.mECons (Pd.mVar 3) Pd.mENil) Pd.mENil) (Pd.mCons (Pd.mVar 4) Pd.mNil))))))))))))
def m__law_other : Mir := Pd.mFn 8 r__law_other
def r_is_count : M Out :=
 (Pd.mRet (Pd.mAndV (Pd.mCallD m_is_integer [] [0] (Pd.mECons (Pd.mVar 0) Pd.mENil) Pd.mENil) (Pd.mOp Pd.gGe (Pd.mVar 0) (Pd.ret (.int 0)))))
def m_is_count : Mir := Pd.mFn 1 r_is_count
def r_parts_of_one : M Out :=
 (Pd.mSeq (Pd.mSet 1 (Pd.ret (.int 1)))
 (Pd.mSeq (Pd.mFor (.n 2) (Pd.mRng Pd.rng1 (Pd.mCons (Pd.mVar 0) Pd.mNil))
  (Pd.mSet 1 (Pd.mOp Pd.gMul (Pd.ret (.int 2)) (Pd.mVar 1))))
 (Pd.mRet (Pd.mVar 1))))
def m_parts_of_one : Mir := Pd.mFn 3 r_parts_of_one
def r_rounded_middle : M Out :=
 (Pd.mSeq (Pd.mSet 2 (Pd.mCallD m_parts_of_one [] [0] (Pd.mECons (Pd.mVar 1) Pd.mENil) Pd.mENil))
 (Pd.mRet (Pd.mCallD m_made_ratio [] [0, 1] (Pd.mECons (Pd.mOp Pd.gDiv (Pd.mOp Pd.gAdd2 (Pd.mOp Pd.gMul (Pd.mOp Pd.gAdd2 (Pd.mOp Pd.gIx (Pd.mVar 0) (Pd.ret (.int 0))) (Pd.mOp Pd.gIx (Pd.mVar 0) (Pd.ret (.int 1)))) (Pd.mVar 2)) (Pd.ret (.int (1099511627776)))) (Pd.mOp Pd.gMul (Pd.ret (.int 2)) (Pd.ret (.int (1099511627776))))) (Pd.mECons (Pd.mVar 2) Pd.mENil)) Pd.mENil)))
def m_rounded_middle : Mir := Pd.mFn 3 r_rounded_middle
def r_rounded_rows : M Out :=
 (Pd.mRet (Pd.mTupOf (Pd.mCons (Pd.mLst (Pd.mComp (.n 3) [3] (Pd.mSeqI (Pd.mVar 0)) Pd.tt1 (Pd.mTupOf (Pd.mCons (Pd.mLst (Pd.mComp (.n 2) [2] (Pd.mSeqI (Pd.mVar 3)) Pd.tt1 (Pd.mCallD m_rounded_middle [] [0, 1] (Pd.mECons (Pd.mVar 2) (Pd.mECons (Pd.mVar 1) Pd.mENil)) Pd.mENil))) Pd.mNil)))) Pd.mNil)))
def m_rounded_rows : Mir := Pd.mFn 4 r_rounded_rows
def r_is_rows_of_intervals : M Out :=
 (Pd.mSeq (Pd.mIf (Pd.mOr (Pd.mNot (Pd.mBool (Pd.mIsi "tuple" (Pd.mVar 0)))) (Pd.mNot (Pd.mBool (Pd.mChn (Pd.ret (.int 1)) (Pd.cLink Pd.gLe (Pd.mB Pd.gLen (Pd.mCons (Pd.mVar 0) Pd.mNil)) (Pd.cLast Pd.gLe (Pd.ret (.int 8))))))))
  (Pd.mRet (Pd.ret (.bl false)))
  Pd.mNext)
 (Pd.mSeq (Pd.mIf (Pd.mNot (Pd.mBool (Pd.mB Pd.gAll (Pd.mCons (Pd.mLst (Pd.mComp (.n 1) [1] (Pd.mSeqI (Pd.mVar 0)) Pd.tt1 (Pd.mAndV (Pd.mIsi "tuple" (Pd.mVar 1)) (Pd.mChn (Pd.ret (.int 1)) (Pd.cLink Pd.gLe (Pd.mB Pd.gLen (Pd.mCons (Pd.mVar 1) Pd.mNil)) (Pd.cLast Pd.gLe (Pd.ret (.int 8)))))))) Pd.mNil))))
  (Pd.mRet (Pd.ret (.bl false)))
  Pd.mNext)
 (Pd.mSeq (Pd.mIf (Pd.mNot (Pd.mBool (Pd.mB Pd.gAll (Pd.mCons (Pd.mLst (Pd.mComp (.n 1) [1] (Pd.mSeqI (Pd.mVar 0)) Pd.tt1 (Pd.mOp Pd.gEq (Pd.mB Pd.gLen (Pd.mCons (Pd.mVar 1) Pd.mNil)) (Pd.mB Pd.gLen (Pd.mCons (Pd.mOp Pd.gIx (Pd.mVar 0) (Pd.ret (.int 0))) Pd.mNil))))) Pd.mNil))))
  (Pd.mRet (Pd.ret (.bl false)))
  Pd.mNext)
 (Pd.mRet (Pd.mB Pd.gAll (Pd.mCons (Pd.mLst (Pd.mComp (.n 1) [1] (Pd.mSeqI (Pd.mVar 0)) Pd.tt1 (Pd.mB Pd.gAll (Pd.mCons (Pd.mLst (Pd.mComp (.n 2) [2] (Pd.mSeqI (Pd.mVar 1)) Pd.tt1 (Pd.mCallD m_is_interval [] [0] (Pd.mECons (Pd.mVar 2) Pd.mENil) Pd.mENil))) Pd.mNil)))) Pd.mNil))))))
def m_is_rows_of_intervals : Mir := Pd.mFn 3 r_is_rows_of_intervals
def r_rounded_matrix : M Out :=
 (Pd.mSeq (Pd.mIf (Pd.mNot (Pd.mBool (Pd.mCallD m_is_rows_of_intervals [] [0] (Pd.mECons (Pd.mVar 0) Pd.mENil) Pd.mENil)))
  (fun _ _ => .bad)
  Pd.mNext)
 (Pd.mSeq (Pd.mIf (Pd.mOr (Pd.mNot (Pd.mBool (Pd.mCallD m_is_count [] [0] (Pd.mECons (Pd.mVar 1) Pd.mENil) Pd.mENil))) (Pd.mBool (Pd.mOp Pd.gGt (Pd.mVar 1) (Pd.ret (.int (40))))))
  (fun _ _ => .bad)
  Pd.mNext)
 (Pd.mRet (Pd.mCallD m_rounded_rows [] [0, 1] (Pd.mECons (Pd.mVar 0) (Pd.mECons (Pd.mVar 1) Pd.mENil)) Pd.mENil))))
def m_rounded_matrix : Mir := Pd.mFn 2 r_rounded_matrix
def r__law_rounded : M Out :=
 (Pd.mSeq (Pd.mSet 2 (Pd.ret (.int 1)))
 (Pd.mSeq (Pd.mFor (.n 3) (Pd.mRng Pd.rng1 (Pd.mCons (Pd.mVar 1) Pd.mNil))
  (Pd.mSet 2 (Pd.mOp Pd.gMul (Pd.mVar 2) (Pd.ret (.int 2)))))
 (Pd.mSeq (Pd.mPar [4, 5] (Pd.mCons (Pd.mOp Pd.gMul (Pd.mOp Pd.gAdd2 (Pd.mOp Pd.gIx (Pd.mVar 0) (Pd.ret (.int 0))) (Pd.mOp Pd.gIx (Pd.mVar 0) (Pd.ret (.int 1)))) (Pd.mVar 2)) (Pd.mCons (Pd.mOp Pd.gMul (Pd.ret (.int 2)) (Pd.mCallD m__law_one [] [] Pd.mENil Pd.mENil)) Pd.mNil)))
 (Pd.mRet (Pd.mCallD m__law_made [] [0, 1] (Pd.mECons (Pd.mOp Pd.gDiv (Pd.mOp Pd.gAdd2 (Pd.mOp Pd.gMul (Pd.ret (.int 2)) (Pd.mVar 4)) (Pd.mVar 5)) (Pd.mOp Pd.gMul (Pd.ret (.int 2)) (Pd.mVar 5))) (Pd.mECons (Pd.mVar 2) Pd.mENil)) Pd.mENil)))))
def m__law_rounded : Mir := Pd.mFn 6 r__law_rounded
def r__law_rounded_right : M Out :=
 (Pd.mSeq (Pd.mParDO 1 2 (Pd.mOp Pd.gAdd2 (Pd.ret (.int 1)) (Pd.mCallD m__law_draw [] [0, 1] (Pd.mEPot 0 (Pd.mECons (Pd.ret (.int 3)) Pd.mENil)) Pd.mENil)) Pd.mNil)
 (Pd.mSeq (Pd.mFor (.n 3) (Pd.mRng Pd.rng1 (Pd.mCons (Pd.mOp Pd.gAdd2 (Pd.ret (.int 1)) (Pd.mCallD m__law_draw [] [0, 1] (Pd.mEPot 0 (Pd.mECons (Pd.ret (.int 3)) Pd.mENil)) Pd.mENil)) Pd.mNil))
  (Pd.mApp 2 (Pd.mCallD m__law_box [] [0, 1] (Pd.mEPot 0 (Pd.mECons (Pd.mVar 1) Pd.mENil)) Pd.mENil)))
 (Pd.mSeq (Pd.mFrz 2 (Pd.mAsg (.t [2, 4]) (Pd.mTup (Pd.mCons (Pd.mTupOf (Pd.mCons (Pd.mVar 2) Pd.mNil)) (Pd.mCons (Pd.mCallD m__law_pick [] [0, 1] (Pd.mEPot 0 (Pd.mECons (Pd.mLst (Pd.mCons (Pd.ret (.int 0)) (Pd.mCons (Pd.ret (.int 1)) (Pd.mCons (Pd.ret (.int 2)) (Pd.mCons (Pd.ret (.int 3)) (Pd.mCons (Pd.ret (.int 20)) (Pd.mCons (Pd.ret (.int 39)) (Pd.mCons (Pd.ret (.int 40)) Pd.mNil)))))))) Pd.mENil)) Pd.mENil) Pd.mNil)))))
 (Pd.mSeq (Pd.mSet 5 (Pd.mTupOf (Pd.mCons (Pd.mLst (Pd.mComp (.n 7) [7] (Pd.mSeqI (Pd.mVar 2)) Pd.tt1 (Pd.mTupOf (Pd.mCons (Pd.mLst (Pd.mComp (.n 6) [6] (Pd.mSeqI (Pd.mVar 7)) Pd.tt1 (Pd.mCallD m__law_rounded [] [0, 1] (Pd.mECons (Pd.mVar 6) (Pd.mECons (Pd.mVar 4) Pd.mENil)) Pd.mENil))) Pd.mNil)))) Pd.mNil)))
 (Pd.mRet (Pd.mAndV (Pd.mOp Pd.gEq (Pd.mCallD m_rounded_matrix [] [0, 1] (Pd.mECons (Pd.mVar 2) (Pd.mECons (Pd.mVar 4) Pd.mENil)) Pd.mENil) (Pd.mVar 5)) (Pd.mOp Pd.gEq (Pd.mCallD m_rounded_matrix [] [1, 0] Pd.mENil (Pd.mECons (Pd.mVar 4) (Pd.mECons (Pd.mVar 2) Pd.mENil))) (Pd.mVar 5))))))))
def m__law_rounded_right : Mir := Pd.mFn 8 r__law_rounded_right
def r__law_right : M Out :=
 (Pd.mSeq (Pd.mSet 1 (Pd.mOp Pd.gAdd2 (Pd.ret (.int 1)) (Pd.mCallD m__law_draw [] [0, 1] (Pd.mEPot 0 (Pd.mECons (Pd.ret (.int 3)) Pd.mENil)) Pd.mENil)))
 (Pd.mSeq (Pd.mSet 2 (Pd.mCallD m__law_set [] [0, 1] (Pd.mEPot 0 (Pd.mECons (Pd.mVar 1) Pd.mENil)) Pd.mENil))
 (Pd.mSeq (Pd.mSet 3 (Pd.mCallD m__law_other [] [0, 1] (Pd.mEPot 0 (Pd.mECons (Pd.mVar 2) Pd.mENil)) Pd.mENil))
 (Pd.mSeq (Pd.mSet 4 (Pd.mB Pd.gRepr (Pd.mCons (Pd.mLst (Pd.mCons (Pd.mVar 2) (Pd.mCons (Pd.mVar 3) Pd.mNil))) Pd.mNil)))
 (Pd.mSeq (Pd.mSet 5 (Pd.mLst (Pd.mCons (Pd.mCallD m__law_within [] [0, 1] (Pd.mECons (Pd.mVar 2) (Pd.mECons (Pd.mVar 3) Pd.mENil)) Pd.mENil) (Pd.mCons (Pd.mCallD m__law_within [] [0, 1] (Pd.mECons (Pd.mVar 3) (Pd.mECons (Pd.mVar 2) Pd.mENil)) Pd.mENil) Pd.mNil))))
 (Pd.mSeq (Pd.mSet 6 (Pd.mLst (Pd.mCons (Pd.mCallD m_set_within [] [0, 1] (Pd.mECons (Pd.mVar 2) (Pd.mECons (Pd.mVar 3) Pd.mENil)) Pd.mENil) (Pd.mCons (Pd.mCallD m_set_within [] [1, 0] Pd.mENil (Pd.mECons (Pd.mVar 2) (Pd.mECons (Pd.mVar 3) Pd.mENil))) Pd.mNil))))
 (Pd.mSeq (Pd.mIf (Pd.mOr (Pd.mBool (Pd.mOp Pd.gNe (Pd.mB Pd.gRepr (Pd.mCons (Pd.mVar 6) Pd.mNil)) (Pd.mB Pd.gRepr (Pd.mCons (Pd.mVar 5) Pd.mNil)))) (Pd.mBool (Pd.mOp Pd.gNe (Pd.mB Pd.gRepr (Pd.mCons (Pd.mLst (Pd.mCons (Pd.mVar 2) (Pd.mCons (Pd.mVar 3) Pd.mNil))) Pd.mNil)) (Pd.mVar 4))))
  (Pd.mRet (Pd.ret (.bl false)))
  Pd.mNext)
 (Pd.mSeq (Pd.mIf (Pd.mOr (Pd.mBool (Pd.mOp Pd.gIsNot2 (Pd.mCallD m_set_within [] [0, 1] (Pd.mECons (Pd.mVar 2) (Pd.mECons (Pd.mCallD m_set_of_box [] [0] (Pd.mECons (Pd.mCallD m_set_hull [] [0] (Pd.mECons (Pd.mVar 2) Pd.mENil) Pd.mENil) Pd.mENil) Pd.mENil) Pd.mENil)) Pd.mENil) (Pd.ret (.bl true)))) (Pd.mBool (Pd.mOp Pd.gIsNot2 (Pd.mCallD m_set_within [] [0, 1] (Pd.mECons (Pd.mVar 2) (Pd.mECons (Pd.mVar 2) Pd.mENil)) Pd.mENil) (Pd.ret (.bl true)))))
  (Pd.mRet (Pd.ret (.bl false)))
  Pd.mNext)
 (Pd.mRet (Pd.mCallD m__law_rounded_right [] [0] (Pd.mEPot 0 Pd.mENil) Pd.mENil))))))))))
def m__law_right : Mir := Pd.mFn 7 r__law_right
def r_law : M Out :=
 (Pd.mLawR m__law_right (Pd.mCallO m__law_pot [] [0, 1] (Pd.mECons (Pd.mVar 0) (Pd.mECons (Pd.ret (.int 0)) Pd.mENil)) Pd.mENil))
def m_law : Mir := Pd.mFn 1 r_law
end Tc


namespace Tc
open PySem PySem.Spec PyProof.Rows L2 Pd
def topS (i : Nat) : Stmt := PySem.Challenge.pw_truecourse_k29_whole_sets_within_and_rou.main.body.getD i (.Pass ⟨0, 0, 0, 0⟩)
abbrev s__law_pot : Stmt := topS 75
abbrev s_is_integer : Stmt := topS 12
abbrev s_is_interval : Stmt := topS 34
abbrev s_is_box : Stmt := topS 37
abbrev s_want_box : Stmt := topS 39
abbrev s_made_ratio : Stmt := topS 17
abbrev s_unit_of : Stmt := topS 48
abbrev s_box_as_set : Stmt := topS 60
abbrev s_set_of_box : Stmt := topS 69
abbrev s_is_ratio : Stmt := topS 24
abbrev s_is_point : Stmt := topS 38
abbrev s_is_row : Stmt := topS 42
abbrev s_is_matrix : Stmt := topS 43
abbrev s_inverse_ratio : Stmt := topS 22
abbrev s_mul_ratios : Stmt := topS 21
abbrev s_row_times : Stmt := topS 49
abbrev s_add_ratios : Stmt := topS 18
abbrev s_neg_ratio : Stmt := topS 19
abbrev s_sub_ratios : Stmt := topS 20
abbrev s_row_less : Stmt := topS 50
abbrev s_row_with : Stmt := topS 51
abbrev s_exchanged : Stmt := topS 52
abbrev s_inverse_of : Stmt := topS 53
abbrev s_is_set_value : Stmt := topS 57
abbrev s_is_set : Stmt := topS 58
abbrev s_want_set : Stmt := topS 59
abbrev s_checked_ends : Stmt := topS 28
abbrev s_rounded_down : Stmt := topS 29
abbrev s_rounded_up : Stmt := topS 30
abbrev s_around_of : Stmt := topS 31
abbrev s_plus_of : Stmt := topS 32
abbrev s_scaled_of : Stmt := topS 33
abbrev s_set_hull_of : Stmt := topS 61
abbrev s_set_hull : Stmt := topS 70
abbrev s_dot : Stmt := topS 44
abbrev s_columns_of : Stmt := topS 45
abbrev s_product_of : Stmt := topS 46
abbrev s_led_by : Stmt := topS 47
abbrev s_less_point : Stmt := topS 62
abbrev s_is_less_ratio : Stmt := topS 23
abbrev s_is_from_to : Stmt := topS 63
abbrev s_ends_led : Stmt := topS 64
abbrev s_is_within_set : Stmt := topS 65
abbrev s_set_within : Stmt := topS 71
abbrev s__law_draw : Stmt := topS 76
abbrev s__law_pick : Stmt := topS 77
abbrev s__law_made : Stmt := topS 78
abbrev s__law_ratio : Stmt := topS 82
abbrev s__law_row : Stmt := topS 84
abbrev s__law_end : Stmt := topS 92
abbrev s__law_box : Stmt := topS 93
abbrev s__law_matrix : Stmt := topS 85
abbrev s__law_unit : Stmt := topS 87
abbrev s__law_sum : Stmt := topS 79
abbrev s__law_times : Stmt := topS 80
abbrev s__law_less : Stmt := topS 81
abbrev s__law_minor : Stmt := topS 89
abbrev s__law_det : Stmt := topS 88
abbrev s__law_strong : Stmt := topS 94
abbrev s__law_set : Stmt := topS 95
abbrev s__law_dot : Stmt := topS 83
abbrev s__law_led : Stmt := topS 86
abbrev s__law_inverse : Stmt := topS 90
abbrev s__law_point : Stmt := topS 99
abbrev s__law_one : Stmt := topS 91
abbrev s__law_has : Stmt := topS 100
abbrev s__law_corners : Stmt := topS 101
abbrev s__law_within : Stmt := topS 102
abbrev s__law_floor : Stmt := topS 96
abbrev s__law_ceiling : Stmt := topS 97
abbrev s__law_hull : Stmt := topS 98
abbrev s__law_near : Stmt := topS 103
abbrev s__law_other : Stmt := topS 104
abbrev s_is_count : Stmt := topS 13
abbrev s_parts_of_one : Stmt := topS 66
abbrev s_rounded_middle : Stmt := topS 67
abbrev s_rounded_rows : Stmt := topS 68
abbrev s_is_rows_of_intervals : Stmt := topS 72
abbrev s_rounded_matrix : Stmt := topS 73
abbrev s__law_rounded : Stmt := topS 105
abbrev s__law_rounded_right : Stmt := topS 106
abbrev s__law_right : Stmt := topS 107
abbrev s_law : Stmt := topS 108
structure Tx (K : PySem.W.Frag) (mg : Str → Option Value) where
  a__law_pot : Addr
  d__law_pot : FuncData
  D__law_pot : FunD K "_law_pot" "_law_pot" (defArgs s__law_pot) (defBody s__law_pot) (defScope s__law_pot) [] [] a__law_pot d__law_pot
  g__law_pot : mg "_law_pot" = some (.ref a__law_pot)
  a_is_integer : Addr
  d_is_integer : FuncData
  D_is_integer : FunD K "is_integer" "is_integer" (defArgs s_is_integer) (defBody s_is_integer) (defScope s_is_integer) [] [] a_is_integer d_is_integer
  g_is_integer : mg "is_integer" = some (.ref a_is_integer)
  a_is_interval : Addr
  d_is_interval : FuncData
  D_is_interval : FunD K "is_interval" "is_interval" (defArgs s_is_interval) (defBody s_is_interval) (defScope s_is_interval) [] [] a_is_interval d_is_interval
  g_is_interval : mg "is_interval" = some (.ref a_is_interval)
  a_is_box : Addr
  d_is_box : FuncData
  D_is_box : FunD K "is_box" "is_box" (defArgs s_is_box) (defBody s_is_box) (defScope s_is_box) [] [] a_is_box d_is_box
  g_is_box : mg "is_box" = some (.ref a_is_box)
  a_want_box : Addr
  d_want_box : FuncData
  D_want_box : FunD K "want_box" "want_box" (defArgs s_want_box) (defBody s_want_box) (defScope s_want_box) [] [] a_want_box d_want_box
  g_want_box : mg "want_box" = some (.ref a_want_box)
  a_made_ratio : Addr
  d_made_ratio : FuncData
  D_made_ratio : FunD K "made_ratio" "made_ratio" (defArgs s_made_ratio) (defBody s_made_ratio) (defScope s_made_ratio) [] [] a_made_ratio d_made_ratio
  g_made_ratio : mg "made_ratio" = some (.ref a_made_ratio)
  a_unit_of : Addr
  d_unit_of : FuncData
  D_unit_of : FunD K "unit_of" "unit_of" (defArgs s_unit_of) (defBody s_unit_of) (defScope s_unit_of) [] [] a_unit_of d_unit_of
  g_unit_of : mg "unit_of" = some (.ref a_unit_of)
  a_box_as_set : Addr
  d_box_as_set : FuncData
  D_box_as_set : FunD K "box_as_set" "box_as_set" (defArgs s_box_as_set) (defBody s_box_as_set) (defScope s_box_as_set) [] [] a_box_as_set d_box_as_set
  g_box_as_set : mg "box_as_set" = some (.ref a_box_as_set)
  a_set_of_box : Addr
  d_set_of_box : FuncData
  D_set_of_box : FunD K "set_of_box" "set_of_box" (defArgs s_set_of_box) (defBody s_set_of_box) (defScope s_set_of_box) [] [] a_set_of_box d_set_of_box
  g_set_of_box : mg "set_of_box" = some (.ref a_set_of_box)
  a_is_ratio : Addr
  d_is_ratio : FuncData
  D_is_ratio : FunD K "is_ratio" "is_ratio" (defArgs s_is_ratio) (defBody s_is_ratio) (defScope s_is_ratio) [] [] a_is_ratio d_is_ratio
  g_is_ratio : mg "is_ratio" = some (.ref a_is_ratio)
  a_is_point : Addr
  d_is_point : FuncData
  D_is_point : FunD K "is_point" "is_point" (defArgs s_is_point) (defBody s_is_point) (defScope s_is_point) [] [] a_is_point d_is_point
  g_is_point : mg "is_point" = some (.ref a_is_point)
  a_is_row : Addr
  d_is_row : FuncData
  D_is_row : FunD K "is_row" "is_row" (defArgs s_is_row) (defBody s_is_row) (defScope s_is_row) [] [] a_is_row d_is_row
  g_is_row : mg "is_row" = some (.ref a_is_row)
  a_is_matrix : Addr
  d_is_matrix : FuncData
  D_is_matrix : FunD K "is_matrix" "is_matrix" (defArgs s_is_matrix) (defBody s_is_matrix) (defScope s_is_matrix) [] [] a_is_matrix d_is_matrix
  g_is_matrix : mg "is_matrix" = some (.ref a_is_matrix)
  a_inverse_ratio : Addr
  d_inverse_ratio : FuncData
  D_inverse_ratio : FunD K "inverse_ratio" "inverse_ratio" (defArgs s_inverse_ratio) (defBody s_inverse_ratio) (defScope s_inverse_ratio) [] [] a_inverse_ratio d_inverse_ratio
  g_inverse_ratio : mg "inverse_ratio" = some (.ref a_inverse_ratio)
  a_mul_ratios : Addr
  d_mul_ratios : FuncData
  D_mul_ratios : FunD K "mul_ratios" "mul_ratios" (defArgs s_mul_ratios) (defBody s_mul_ratios) (defScope s_mul_ratios) [] [] a_mul_ratios d_mul_ratios
  g_mul_ratios : mg "mul_ratios" = some (.ref a_mul_ratios)
  a_row_times : Addr
  d_row_times : FuncData
  D_row_times : FunD K "row_times" "row_times" (defArgs s_row_times) (defBody s_row_times) (defScope s_row_times) [] [] a_row_times d_row_times
  g_row_times : mg "row_times" = some (.ref a_row_times)
  a_add_ratios : Addr
  d_add_ratios : FuncData
  D_add_ratios : FunD K "add_ratios" "add_ratios" (defArgs s_add_ratios) (defBody s_add_ratios) (defScope s_add_ratios) [] [] a_add_ratios d_add_ratios
  g_add_ratios : mg "add_ratios" = some (.ref a_add_ratios)
  a_neg_ratio : Addr
  d_neg_ratio : FuncData
  D_neg_ratio : FunD K "neg_ratio" "neg_ratio" (defArgs s_neg_ratio) (defBody s_neg_ratio) (defScope s_neg_ratio) [] [] a_neg_ratio d_neg_ratio
  g_neg_ratio : mg "neg_ratio" = some (.ref a_neg_ratio)
  a_sub_ratios : Addr
  d_sub_ratios : FuncData
  D_sub_ratios : FunD K "sub_ratios" "sub_ratios" (defArgs s_sub_ratios) (defBody s_sub_ratios) (defScope s_sub_ratios) [] [] a_sub_ratios d_sub_ratios
  g_sub_ratios : mg "sub_ratios" = some (.ref a_sub_ratios)
  a_row_less : Addr
  d_row_less : FuncData
  D_row_less : FunD K "row_less" "row_less" (defArgs s_row_less) (defBody s_row_less) (defScope s_row_less) [] [] a_row_less d_row_less
  g_row_less : mg "row_less" = some (.ref a_row_less)
  a_row_with : Addr
  d_row_with : FuncData
  D_row_with : FunD K "row_with" "row_with" (defArgs s_row_with) (defBody s_row_with) (defScope s_row_with) [] [] a_row_with d_row_with
  g_row_with : mg "row_with" = some (.ref a_row_with)
  a_exchanged : Addr
  d_exchanged : FuncData
  D_exchanged : FunD K "exchanged" "exchanged" (defArgs s_exchanged) (defBody s_exchanged) (defScope s_exchanged) [] [] a_exchanged d_exchanged
  g_exchanged : mg "exchanged" = some (.ref a_exchanged)
  a_inverse_of : Addr
  d_inverse_of : FuncData
  D_inverse_of : FunD K "inverse_of" "inverse_of" (defArgs s_inverse_of) (defBody s_inverse_of) (defScope s_inverse_of) [] [] a_inverse_of d_inverse_of
  g_inverse_of : mg "inverse_of" = some (.ref a_inverse_of)
  a_is_set_value : Addr
  d_is_set_value : FuncData
  D_is_set_value : FunD K "is_set_value" "is_set_value" (defArgs s_is_set_value) (defBody s_is_set_value) (defScope s_is_set_value) [] [] a_is_set_value d_is_set_value
  g_is_set_value : mg "is_set_value" = some (.ref a_is_set_value)
  a_is_set : Addr
  d_is_set : FuncData
  D_is_set : FunD K "is_set" "is_set" (defArgs s_is_set) (defBody s_is_set) (defScope s_is_set) [] [] a_is_set d_is_set
  g_is_set : mg "is_set" = some (.ref a_is_set)
  a_want_set : Addr
  d_want_set : FuncData
  D_want_set : FunD K "want_set" "want_set" (defArgs s_want_set) (defBody s_want_set) (defScope s_want_set) [] [] a_want_set d_want_set
  g_want_set : mg "want_set" = some (.ref a_want_set)
  a_checked_ends : Addr
  d_checked_ends : FuncData
  D_checked_ends : FunD K "checked_ends" "checked_ends" (defArgs s_checked_ends) (defBody s_checked_ends) (defScope s_checked_ends) [] [] a_checked_ends d_checked_ends
  g_checked_ends : mg "checked_ends" = some (.ref a_checked_ends)
  a_rounded_down : Addr
  d_rounded_down : FuncData
  D_rounded_down : FunD K "rounded_down" "rounded_down" (defArgs s_rounded_down) (defBody s_rounded_down) (defScope s_rounded_down) [] [] a_rounded_down d_rounded_down
  g_rounded_down : mg "rounded_down" = some (.ref a_rounded_down)
  a_rounded_up : Addr
  d_rounded_up : FuncData
  D_rounded_up : FunD K "rounded_up" "rounded_up" (defArgs s_rounded_up) (defBody s_rounded_up) (defScope s_rounded_up) [] [] a_rounded_up d_rounded_up
  g_rounded_up : mg "rounded_up" = some (.ref a_rounded_up)
  a_around_of : Addr
  d_around_of : FuncData
  D_around_of : FunD K "around_of" "around_of" (defArgs s_around_of) (defBody s_around_of) (defScope s_around_of) [] [] a_around_of d_around_of
  g_around_of : mg "around_of" = some (.ref a_around_of)
  a_plus_of : Addr
  d_plus_of : FuncData
  D_plus_of : FunD K "plus_of" "plus_of" (defArgs s_plus_of) (defBody s_plus_of) (defScope s_plus_of) [] [] a_plus_of d_plus_of
  g_plus_of : mg "plus_of" = some (.ref a_plus_of)
  a_scaled_of : Addr
  d_scaled_of : FuncData
  D_scaled_of : FunD K "scaled_of" "scaled_of" (defArgs s_scaled_of) (defBody s_scaled_of) (defScope s_scaled_of) [] [] a_scaled_of d_scaled_of
  g_scaled_of : mg "scaled_of" = some (.ref a_scaled_of)
  a_set_hull_of : Addr
  d_set_hull_of : FuncData
  D_set_hull_of : FunD K "set_hull_of" "set_hull_of" (defArgs s_set_hull_of) (defBody s_set_hull_of) (defScope s_set_hull_of) [] [] a_set_hull_of d_set_hull_of
  g_set_hull_of : mg "set_hull_of" = some (.ref a_set_hull_of)
  a_set_hull : Addr
  d_set_hull : FuncData
  D_set_hull : FunD K "set_hull" "set_hull" (defArgs s_set_hull) (defBody s_set_hull) (defScope s_set_hull) [] [] a_set_hull d_set_hull
  g_set_hull : mg "set_hull" = some (.ref a_set_hull)
  a_dot : Addr
  d_dot : FuncData
  D_dot : FunD K "dot" "dot" (defArgs s_dot) (defBody s_dot) (defScope s_dot) [] [] a_dot d_dot
  g_dot : mg "dot" = some (.ref a_dot)
  a_columns_of : Addr
  d_columns_of : FuncData
  D_columns_of : FunD K "columns_of" "columns_of" (defArgs s_columns_of) (defBody s_columns_of) (defScope s_columns_of) [] [] a_columns_of d_columns_of
  g_columns_of : mg "columns_of" = some (.ref a_columns_of)
  a_product_of : Addr
  d_product_of : FuncData
  D_product_of : FunD K "product_of" "product_of" (defArgs s_product_of) (defBody s_product_of) (defScope s_product_of) [] [] a_product_of d_product_of
  g_product_of : mg "product_of" = some (.ref a_product_of)
  a_led_by : Addr
  d_led_by : FuncData
  D_led_by : FunD K "led_by" "led_by" (defArgs s_led_by) (defBody s_led_by) (defScope s_led_by) [] [] a_led_by d_led_by
  g_led_by : mg "led_by" = some (.ref a_led_by)
  a_less_point : Addr
  d_less_point : FuncData
  D_less_point : FunD K "less_point" "less_point" (defArgs s_less_point) (defBody s_less_point) (defScope s_less_point) [] [] a_less_point d_less_point
  g_less_point : mg "less_point" = some (.ref a_less_point)
  a_is_less_ratio : Addr
  d_is_less_ratio : FuncData
  D_is_less_ratio : FunD K "is_less_ratio" "is_less_ratio" (defArgs s_is_less_ratio) (defBody s_is_less_ratio) (defScope s_is_less_ratio) [] [] a_is_less_ratio d_is_less_ratio
  g_is_less_ratio : mg "is_less_ratio" = some (.ref a_is_less_ratio)
  a_is_from_to : Addr
  d_is_from_to : FuncData
  D_is_from_to : FunD K "is_from_to" "is_from_to" (defArgs s_is_from_to) (defBody s_is_from_to) (defScope s_is_from_to) [] [] a_is_from_to d_is_from_to
  g_is_from_to : mg "is_from_to" = some (.ref a_is_from_to)
  a_ends_led : Addr
  d_ends_led : FuncData
  D_ends_led : FunD K "ends_led" "ends_led" (defArgs s_ends_led) (defBody s_ends_led) (defScope s_ends_led) [] [] a_ends_led d_ends_led
  g_ends_led : mg "ends_led" = some (.ref a_ends_led)
  a_is_within_set : Addr
  d_is_within_set : FuncData
  D_is_within_set : FunD K "is_within_set" "is_within_set" (defArgs s_is_within_set) (defBody s_is_within_set) (defScope s_is_within_set) [] [] a_is_within_set d_is_within_set
  g_is_within_set : mg "is_within_set" = some (.ref a_is_within_set)
  a_set_within : Addr
  d_set_within : FuncData
  D_set_within : FunD K "set_within" "set_within" (defArgs s_set_within) (defBody s_set_within) (defScope s_set_within) [] [] a_set_within d_set_within
  g_set_within : mg "set_within" = some (.ref a_set_within)
  a__law_draw : Addr
  d__law_draw : FuncData
  D__law_draw : FunD K "_law_draw" "_law_draw" (defArgs s__law_draw) (defBody s__law_draw) (defScope s__law_draw) [] [] a__law_draw d__law_draw
  g__law_draw : mg "_law_draw" = some (.ref a__law_draw)
  a__law_pick : Addr
  d__law_pick : FuncData
  D__law_pick : FunD K "_law_pick" "_law_pick" (defArgs s__law_pick) (defBody s__law_pick) (defScope s__law_pick) [] [] a__law_pick d__law_pick
  g__law_pick : mg "_law_pick" = some (.ref a__law_pick)
  a__law_made : Addr
  d__law_made : FuncData
  D__law_made : FunD K "_law_made" "_law_made" (defArgs s__law_made) (defBody s__law_made) (defScope s__law_made) [] [] a__law_made d__law_made
  g__law_made : mg "_law_made" = some (.ref a__law_made)
  a__law_ratio : Addr
  d__law_ratio : FuncData
  D__law_ratio : FunD K "_law_ratio" "_law_ratio" (defArgs s__law_ratio) (defBody s__law_ratio) (defScope s__law_ratio) [] [] a__law_ratio d__law_ratio
  g__law_ratio : mg "_law_ratio" = some (.ref a__law_ratio)
  a__law_row : Addr
  d__law_row : FuncData
  D__law_row : FunD K "_law_row" "_law_row" (defArgs s__law_row) (defBody s__law_row) (defScope s__law_row) [] [] a__law_row d__law_row
  g__law_row : mg "_law_row" = some (.ref a__law_row)
  a__law_end : Addr
  d__law_end : FuncData
  D__law_end : FunD K "_law_end" "_law_end" (defArgs s__law_end) (defBody s__law_end) (defScope s__law_end) [] [] a__law_end d__law_end
  g__law_end : mg "_law_end" = some (.ref a__law_end)
  a__law_box : Addr
  d__law_box : FuncData
  D__law_box : FunD K "_law_box" "_law_box" (defArgs s__law_box) (defBody s__law_box) (defScope s__law_box) [] [] a__law_box d__law_box
  g__law_box : mg "_law_box" = some (.ref a__law_box)
  a__law_matrix : Addr
  d__law_matrix : FuncData
  D__law_matrix : FunD K "_law_matrix" "_law_matrix" (defArgs s__law_matrix) (defBody s__law_matrix) (defScope s__law_matrix) [] [] a__law_matrix d__law_matrix
  g__law_matrix : mg "_law_matrix" = some (.ref a__law_matrix)
  a__law_unit : Addr
  d__law_unit : FuncData
  D__law_unit : FunD K "_law_unit" "_law_unit" (defArgs s__law_unit) (defBody s__law_unit) (defScope s__law_unit) [] [] a__law_unit d__law_unit
  g__law_unit : mg "_law_unit" = some (.ref a__law_unit)
  a__law_sum : Addr
  d__law_sum : FuncData
  D__law_sum : FunD K "_law_sum" "_law_sum" (defArgs s__law_sum) (defBody s__law_sum) (defScope s__law_sum) [] [] a__law_sum d__law_sum
  g__law_sum : mg "_law_sum" = some (.ref a__law_sum)
  a__law_times : Addr
  d__law_times : FuncData
  D__law_times : FunD K "_law_times" "_law_times" (defArgs s__law_times) (defBody s__law_times) (defScope s__law_times) [] [] a__law_times d__law_times
  g__law_times : mg "_law_times" = some (.ref a__law_times)
  a__law_less : Addr
  d__law_less : FuncData
  D__law_less : FunD K "_law_less" "_law_less" (defArgs s__law_less) (defBody s__law_less) (defScope s__law_less) [] [] a__law_less d__law_less
  g__law_less : mg "_law_less" = some (.ref a__law_less)
  a__law_minor : Addr
  d__law_minor : FuncData
  D__law_minor : FunD K "_law_minor" "_law_minor" (defArgs s__law_minor) (defBody s__law_minor) (defScope s__law_minor) [] [] a__law_minor d__law_minor
  g__law_minor : mg "_law_minor" = some (.ref a__law_minor)
  a__law_det : Addr
  d__law_det : FuncData
  D__law_det : FunD K "_law_det" "_law_det" (defArgs s__law_det) (defBody s__law_det) (defScope s__law_det) [] [] a__law_det d__law_det
  g__law_det : mg "_law_det" = some (.ref a__law_det)
  a__law_strong : Addr
  d__law_strong : FuncData
  D__law_strong : FunD K "_law_strong" "_law_strong" (defArgs s__law_strong) (defBody s__law_strong) (defScope s__law_strong) [] [] a__law_strong d__law_strong
  g__law_strong : mg "_law_strong" = some (.ref a__law_strong)
  a__law_set : Addr
  d__law_set : FuncData
  D__law_set : FunD K "_law_set" "_law_set" (defArgs s__law_set) (defBody s__law_set) (defScope s__law_set) [] [] a__law_set d__law_set
  g__law_set : mg "_law_set" = some (.ref a__law_set)
  a__law_dot : Addr
  d__law_dot : FuncData
  D__law_dot : FunD K "_law_dot" "_law_dot" (defArgs s__law_dot) (defBody s__law_dot) (defScope s__law_dot) [] [] a__law_dot d__law_dot
  g__law_dot : mg "_law_dot" = some (.ref a__law_dot)
  a__law_led : Addr
  d__law_led : FuncData
  D__law_led : FunD K "_law_led" "_law_led" (defArgs s__law_led) (defBody s__law_led) (defScope s__law_led) [] [] a__law_led d__law_led
  g__law_led : mg "_law_led" = some (.ref a__law_led)
  a__law_inverse : Addr
  d__law_inverse : FuncData
  D__law_inverse : FunD K "_law_inverse" "_law_inverse" (defArgs s__law_inverse) (defBody s__law_inverse) (defScope s__law_inverse) [] [] a__law_inverse d__law_inverse
  g__law_inverse : mg "_law_inverse" = some (.ref a__law_inverse)
  a__law_point : Addr
  d__law_point : FuncData
  D__law_point : FunD K "_law_point" "_law_point" (defArgs s__law_point) (defBody s__law_point) (defScope s__law_point) [] [] a__law_point d__law_point
  g__law_point : mg "_law_point" = some (.ref a__law_point)
  a__law_one : Addr
  d__law_one : FuncData
  D__law_one : FunD K "_law_one" "_law_one" (defArgs s__law_one) (defBody s__law_one) (defScope s__law_one) [] [] a__law_one d__law_one
  g__law_one : mg "_law_one" = some (.ref a__law_one)
  a__law_has : Addr
  d__law_has : FuncData
  D__law_has : FunD K "_law_has" "_law_has" (defArgs s__law_has) (defBody s__law_has) (defScope s__law_has) [] [] a__law_has d__law_has
  g__law_has : mg "_law_has" = some (.ref a__law_has)
  a__law_corners : Addr
  d__law_corners : FuncData
  D__law_corners : FunD K "_law_corners" "_law_corners" (defArgs s__law_corners) (defBody s__law_corners) (defScope s__law_corners) [] [] a__law_corners d__law_corners
  g__law_corners : mg "_law_corners" = some (.ref a__law_corners)
  a__law_within : Addr
  d__law_within : FuncData
  D__law_within : FunD K "_law_within" "_law_within" (defArgs s__law_within) (defBody s__law_within) (defScope s__law_within) [] [] a__law_within d__law_within
  g__law_within : mg "_law_within" = some (.ref a__law_within)
  a__law_floor : Addr
  d__law_floor : FuncData
  D__law_floor : FunD K "_law_floor" "_law_floor" (defArgs s__law_floor) (defBody s__law_floor) (defScope s__law_floor) [] [] a__law_floor d__law_floor
  g__law_floor : mg "_law_floor" = some (.ref a__law_floor)
  a__law_ceiling : Addr
  d__law_ceiling : FuncData
  D__law_ceiling : FunD K "_law_ceiling" "_law_ceiling" (defArgs s__law_ceiling) (defBody s__law_ceiling) (defScope s__law_ceiling) [] [] a__law_ceiling d__law_ceiling
  g__law_ceiling : mg "_law_ceiling" = some (.ref a__law_ceiling)
  a__law_hull : Addr
  d__law_hull : FuncData
  D__law_hull : FunD K "_law_hull" "_law_hull" (defArgs s__law_hull) (defBody s__law_hull) (defScope s__law_hull) [] [] a__law_hull d__law_hull
  g__law_hull : mg "_law_hull" = some (.ref a__law_hull)
  a__law_near : Addr
  d__law_near : FuncData
  D__law_near : FunD K "_law_near" "_law_near" (defArgs s__law_near) (defBody s__law_near) (defScope s__law_near) [] [] a__law_near d__law_near
  g__law_near : mg "_law_near" = some (.ref a__law_near)
  a__law_other : Addr
  d__law_other : FuncData
  D__law_other : FunD K "_law_other" "_law_other" (defArgs s__law_other) (defBody s__law_other) (defScope s__law_other) [] [] a__law_other d__law_other
  g__law_other : mg "_law_other" = some (.ref a__law_other)
  a_is_count : Addr
  d_is_count : FuncData
  D_is_count : FunD K "is_count" "is_count" (defArgs s_is_count) (defBody s_is_count) (defScope s_is_count) [] [] a_is_count d_is_count
  g_is_count : mg "is_count" = some (.ref a_is_count)
  a_parts_of_one : Addr
  d_parts_of_one : FuncData
  D_parts_of_one : FunD K "parts_of_one" "parts_of_one" (defArgs s_parts_of_one) (defBody s_parts_of_one) (defScope s_parts_of_one) [] [] a_parts_of_one d_parts_of_one
  g_parts_of_one : mg "parts_of_one" = some (.ref a_parts_of_one)
  a_rounded_middle : Addr
  d_rounded_middle : FuncData
  D_rounded_middle : FunD K "rounded_middle" "rounded_middle" (defArgs s_rounded_middle) (defBody s_rounded_middle) (defScope s_rounded_middle) [] [] a_rounded_middle d_rounded_middle
  g_rounded_middle : mg "rounded_middle" = some (.ref a_rounded_middle)
  a_rounded_rows : Addr
  d_rounded_rows : FuncData
  D_rounded_rows : FunD K "rounded_rows" "rounded_rows" (defArgs s_rounded_rows) (defBody s_rounded_rows) (defScope s_rounded_rows) [] [] a_rounded_rows d_rounded_rows
  g_rounded_rows : mg "rounded_rows" = some (.ref a_rounded_rows)
  a_is_rows_of_intervals : Addr
  d_is_rows_of_intervals : FuncData
  D_is_rows_of_intervals : FunD K "is_rows_of_intervals" "is_rows_of_intervals" (defArgs s_is_rows_of_intervals) (defBody s_is_rows_of_intervals) (defScope s_is_rows_of_intervals) [] [] a_is_rows_of_intervals d_is_rows_of_intervals
  g_is_rows_of_intervals : mg "is_rows_of_intervals" = some (.ref a_is_rows_of_intervals)
  a_rounded_matrix : Addr
  d_rounded_matrix : FuncData
  D_rounded_matrix : FunD K "rounded_matrix" "rounded_matrix" (defArgs s_rounded_matrix) (defBody s_rounded_matrix) (defScope s_rounded_matrix) [] [] a_rounded_matrix d_rounded_matrix
  g_rounded_matrix : mg "rounded_matrix" = some (.ref a_rounded_matrix)
  a__law_rounded : Addr
  d__law_rounded : FuncData
  D__law_rounded : FunD K "_law_rounded" "_law_rounded" (defArgs s__law_rounded) (defBody s__law_rounded) (defScope s__law_rounded) [] [] a__law_rounded d__law_rounded
  g__law_rounded : mg "_law_rounded" = some (.ref a__law_rounded)
  a__law_rounded_right : Addr
  d__law_rounded_right : FuncData
  D__law_rounded_right : FunD K "_law_rounded_right" "_law_rounded_right" (defArgs s__law_rounded_right) (defBody s__law_rounded_right) (defScope s__law_rounded_right) [] [] a__law_rounded_right d__law_rounded_right
  g__law_rounded_right : mg "_law_rounded_right" = some (.ref a__law_rounded_right)
  a__law_right : Addr
  d__law_right : FuncData
  D__law_right : FunD K "_law_right" "_law_right" (defArgs s__law_right) (defBody s__law_right) (defScope s__law_right) [] [] a__law_right d__law_right
  g__law_right : mg "_law_right" = some (.ref a__law_right)
  a_law : Addr
  d_law : FuncData
  D_law : FunD K "law" "law" (defArgs s_law) (defBody s_law) (defScope s_law) [] [] a_law d_law
  g_law : mg "law" = some (.ref a_law)
  n_ArithmeticError : mg "ArithmeticError" = none
  n_RuntimeError : mg "RuntimeError" = none
  n_ValueError : mg "ValueError" = none
  n_abs : mg "abs" = none
  n_all : mg "all" = none
  n_bool : mg "bool" = none
  n_divmod : mg "divmod" = none
  n_enumerate : mg "enumerate" = none
  n_int : mg "int" = none
  n_isinstance : mg "isinstance" = none
  n_len : mg "len" = none
  n_list : mg "list" = none
  n_max : mg "max" = none
  n_min : mg "min" = none
  n_range : mg "range" = none
  n_repr : mg "repr" = none
  n_str : mg "str" = none
  n_tuple : mg "tuple" = none
  n_zip : mg "zip" = none
  c_ONE : ∃ t, mg "ONE" = some (.int (1099511627776) t)
  c_MOST_GRAINS : ∃ t, mg "MOST_GRAINS" = some (.int (1180591620717411303424) t)
  c_MOST_LETTERS : ∃ t, mg "MOST_LETTERS" = some (.int (8) t)
  c_MOST_ROWS : ∃ t, mg "MOST_ROWS" = some (.int (8) t)
  c_MOST_BITS : ∃ t, mg "MOST_BITS" = some (.int (40) t)
  c_WORD : ∃ t, mg "WORD" = some (.str "set" t)
  t_NOUGHT : ∃ a, mg "NOUGHT" = some (.ref a) ∧ ∀ H, Pd.Rep K H (.tup [.int (0), .int (1)]) (.ref a)
  t_WHOLE : ∃ a, mg "WHOLE" = some (.ref a) ∧ ∀ H, Pd.Rep K H (.tup [.int (1), .int (1)]) (.ref a)
  i_gcd : mg "gcd" = some (.builtin "math.gcd")
theorem sc__law_pot : FnScope ["_law_script", "_law_k", "_law_cell", "_law_low"] ["_law_script", "_law_k"] (defScope s__law_pot) := ⟨rfl, rfl, rfl, by decide +kernel, rfl, by decide +kernel, by decide +kernel⟩
theorem sc_is_integer : FnScope ["value"] ["value"] (defScope s_is_integer) := ⟨rfl, rfl, rfl, by decide +kernel, rfl, by decide +kernel, by decide +kernel⟩
theorem sc_is_interval : FnScope ["value"] ["value"] (defScope s_is_interval) := ⟨rfl, rfl, rfl, by decide +kernel, rfl, by decide +kernel, by decide +kernel⟩
theorem sc_is_box : FnScope ["value", "one"] ["value"] (defScope s_is_box) := ⟨rfl, rfl, rfl, by decide +kernel, rfl, by decide +kernel, by decide +kernel⟩
theorem sc_want_box : FnScope ["value"] ["value"] (defScope s_want_box) := ⟨rfl, rfl, rfl, by decide +kernel, rfl, by decide +kernel, by decide +kernel⟩
theorem sc_made_ratio : FnScope ["number", "under", "part"] ["number", "under"] (defScope s_made_ratio) := ⟨rfl, rfl, rfl, by decide +kernel, rfl, by decide +kernel, by decide +kernel⟩
theorem sc_unit_of : FnScope ["many", "place", "at"] ["many"] (defScope s_unit_of) := ⟨rfl, rfl, rfl, by decide +kernel, rfl, by decide +kernel, by decide +kernel⟩
theorem sc_box_as_set : FnScope ["box", "middles", "low", "high", "left", "at"] ["box"] (defScope s_box_as_set) := ⟨rfl, rfl, rfl, by decide +kernel, rfl, by decide +kernel, by decide +kernel⟩
theorem sc_set_of_box : FnScope ["box"] ["box"] (defScope s_set_of_box) := ⟨rfl, rfl, rfl, by decide +kernel, rfl, by decide +kernel, by decide +kernel⟩
theorem sc_is_ratio : FnScope ["value"] ["value"] (defScope s_is_ratio) := ⟨rfl, rfl, rfl, by decide +kernel, rfl, by decide +kernel, by decide +kernel⟩
theorem sc_is_point : FnScope ["value", "one"] ["value"] (defScope s_is_point) := ⟨rfl, rfl, rfl, by decide +kernel, rfl, by decide +kernel, by decide +kernel⟩
theorem sc_is_row : FnScope ["value", "one"] ["value"] (defScope s_is_row) := ⟨rfl, rfl, rfl, by decide +kernel, rfl, by decide +kernel, by decide +kernel⟩
theorem sc_is_matrix : FnScope ["value", "row"] ["value"] (defScope s_is_matrix) := ⟨rfl, rfl, rfl, by decide +kernel, rfl, by decide +kernel, by decide +kernel⟩
theorem sc_inverse_ratio : FnScope ["ratio"] ["ratio"] (defScope s_inverse_ratio) := ⟨rfl, rfl, rfl, by decide +kernel, rfl, by decide +kernel, by decide +kernel⟩
theorem sc_mul_ratios : FnScope ["one", "other"] ["one", "other"] (defScope s_mul_ratios) := ⟨rfl, rfl, rfl, by decide +kernel, rfl, by decide +kernel, by decide +kernel⟩
theorem sc_row_times : FnScope ["row", "ratio", "one"] ["row", "ratio"] (defScope s_row_times) := ⟨rfl, rfl, rfl, by decide +kernel, rfl, by decide +kernel, by decide +kernel⟩
theorem sc_add_ratios : FnScope ["one", "other"] ["one", "other"] (defScope s_add_ratios) := ⟨rfl, rfl, rfl, by decide +kernel, rfl, by decide +kernel, by decide +kernel⟩
theorem sc_neg_ratio : FnScope ["ratio"] ["ratio"] (defScope s_neg_ratio) := ⟨rfl, rfl, rfl, by decide +kernel, rfl, by decide +kernel, by decide +kernel⟩
theorem sc_sub_ratios : FnScope ["one", "other"] ["one", "other"] (defScope s_sub_ratios) := ⟨rfl, rfl, rfl, by decide +kernel, rfl, by decide +kernel, by decide +kernel⟩
theorem sc_row_less : FnScope ["row", "other", "often", "one", "late"] ["row", "other", "often"] (defScope s_row_less) := ⟨rfl, rfl, rfl, by decide +kernel, rfl, by decide +kernel, by decide +kernel⟩
theorem sc_row_with : FnScope ["rows", "place", "begin", "at"] ["rows", "place", "begin"] (defScope s_row_with) := ⟨rfl, rfl, rfl, by decide +kernel, rfl, by decide +kernel, by decide +kernel⟩
theorem sc_exchanged : FnScope ["rows", "one", "other", "found"] ["rows", "one", "other"] (defScope s_exchanged) := ⟨rfl, rfl, rfl, by decide +kernel, rfl, by decide +kernel, by decide +kernel⟩
theorem sc_inverse_of : FnScope ["matrix", "many", "unit", "rows", "at", "row", "place", "late"] ["matrix"] (defScope s_inverse_of) := ⟨rfl, rfl, rfl, by decide +kernel, rfl, by decide +kernel, by decide +kernel⟩
theorem sc_is_set_value : FnScope ["many", "value"] ["many", "value"] (defScope s_is_set_value) := ⟨rfl, rfl, rfl, by decide +kernel, rfl, by decide +kernel, by decide +kernel⟩
theorem sc_is_set : FnScope ["value"] ["value"] (defScope s_is_set) := ⟨rfl, rfl, rfl, by decide +kernel, rfl, by decide +kernel, by decide +kernel⟩
theorem sc_want_set : FnScope ["value"] ["value"] (defScope s_want_set) := ⟨rfl, rfl, rfl, by decide +kernel, rfl, by decide +kernel, by decide +kernel⟩
theorem sc_checked_ends : FnScope ["low", "high"] ["low", "high"] (defScope s_checked_ends) := ⟨rfl, rfl, rfl, by decide +kernel, rfl, by decide +kernel, by decide +kernel⟩
theorem sc_rounded_down : FnScope ["number", "under"] ["number", "under"] (defScope s_rounded_down) := ⟨rfl, rfl, rfl, by decide +kernel, rfl, by decide +kernel, by decide +kernel⟩
theorem sc_rounded_up : FnScope ["number", "under"] ["number", "under"] (defScope s_rounded_up) := ⟨rfl, rfl, rfl, by decide +kernel, rfl, by decide +kernel, by decide +kernel⟩
theorem sc_around_of : FnScope ["ratio", "number"] ["ratio"] (defScope s_around_of) := ⟨rfl, rfl, rfl, by decide +kernel, rfl, by decide +kernel, by decide +kernel⟩
theorem sc_plus_of : FnScope ["one", "other"] ["one", "other"] (defScope s_plus_of) := ⟨rfl, rfl, rfl, by decide +kernel, rfl, by decide +kernel, by decide +kernel⟩
theorem sc_scaled_of : FnScope ["interval", "ratio", "ends"] ["interval", "ratio"] (defScope s_scaled_of) := ⟨rfl, rfl, rfl, by decide +kernel, rfl, by decide +kernel, by decide +kernel⟩
theorem sc_set_hull_of : FnScope ["one", "word", "middle", "matrix", "box", "found", "at", "row", "total", "spread", "ratio", "interval"] ["one"] (defScope s_set_hull_of) := ⟨rfl, rfl, rfl, by decide +kernel, rfl, by decide +kernel, by decide +kernel⟩
theorem sc_set_hull : FnScope ["affine"] ["affine"] (defScope s_set_hull) := ⟨rfl, rfl, rfl, by decide +kernel, rfl, by decide +kernel, by decide +kernel⟩
theorem sc_dot : FnScope ["row", "other", "total", "one", "late"] ["row", "other"] (defScope s_dot) := ⟨rfl, rfl, rfl, by decide +kernel, rfl, by decide +kernel, by decide +kernel⟩
theorem sc_columns_of : FnScope ["matrix", "row", "place"] ["matrix"] (defScope s_columns_of) := ⟨rfl, rfl, rfl, by decide +kernel, rfl, by decide +kernel, by decide +kernel⟩
theorem sc_product_of : FnScope ["one", "other", "columns", "column", "row"] ["one", "other"] (defScope s_product_of) := ⟨rfl, rfl, rfl, by decide +kernel, rfl, by decide +kernel, by decide +kernel⟩
theorem sc_led_by : FnScope ["matrix", "row", "line"] ["matrix", "row"] (defScope s_led_by) := ⟨rfl, rfl, rfl, by decide +kernel, rfl, by decide +kernel, by decide +kernel⟩
theorem sc_less_point : FnScope ["point", "other", "one", "late"] ["point", "other"] (defScope s_less_point) := ⟨rfl, rfl, rfl, by decide +kernel, rfl, by decide +kernel, by decide +kernel⟩
theorem sc_is_less_ratio : FnScope ["one", "other"] ["one", "other"] (defScope s_is_less_ratio) := ⟨rfl, rfl, rfl, by decide +kernel, rfl, by decide +kernel, by decide +kernel⟩
theorem sc_is_from_to : FnScope ["low", "high", "interval", "begin", "end"] ["low", "high", "interval"] (defScope s_is_from_to) := ⟨rfl, rfl, rfl, by decide +kernel, rfl, by decide +kernel, by decide +kernel⟩
theorem sc_ends_led : FnScope ["row", "box", "low", "high", "ratio", "begin", "end", "first", "last"] ["row", "box"] (defScope s_ends_led) := ⟨rfl, rfl, rfl, by decide +kernel, rfl, by decide +kernel, by decide +kernel⟩
theorem sc_is_within_set : FnScope ["one", "other", "back", "rows", "shift", "row", "at", "interval", "low", "high"] ["one", "other"] (defScope s_is_within_set) := ⟨rfl, rfl, rfl, by decide +kernel, rfl, by decide +kernel, by decide +kernel⟩
theorem sc_set_within : FnScope ["affine", "other"] ["affine", "other"] (defScope s_set_within) := ⟨rfl, rfl, rfl, by decide +kernel, rfl, by decide +kernel, by decide +kernel⟩
theorem sc__law_draw : FnScope ["_law_pot_here", "_law_size", "_law_digit"] ["_law_pot_here", "_law_size"] (defScope s__law_draw) := ⟨rfl, rfl, rfl, by decide +kernel, rfl, by decide +kernel, by decide +kernel⟩
theorem sc__law_pick : FnScope ["_law_pot_here", "_law_some"] ["_law_pot_here", "_law_some"] (defScope s__law_pick) := ⟨rfl, rfl, rfl, by decide +kernel, rfl, by decide +kernel, by decide +kernel⟩
theorem sc__law_made : FnScope ["_law_number", "_law_under", "_law_one_here", "_law_other_here"] ["_law_number", "_law_under"] (defScope s__law_made) := ⟨rfl, rfl, rfl, by decide +kernel, rfl, by decide +kernel, by decide +kernel⟩
theorem sc__law_ratio : FnScope ["_law_pot_here"] ["_law_pot_here"] (defScope s__law_ratio) := ⟨rfl, rfl, rfl, by decide +kernel, rfl, by decide +kernel, by decide +kernel⟩
theorem sc__law_row : FnScope ["_law_pot_here", "_law_many", "_law_found", "_law_turn"] ["_law_pot_here", "_law_many"] (defScope s__law_row) := ⟨rfl, rfl, rfl, by decide +kernel, rfl, by decide +kernel, by decide +kernel⟩
theorem sc__law_end : FnScope ["_law_pot_here"] ["_law_pot_here"] (defScope s__law_end) := ⟨rfl, rfl, rfl, by decide +kernel, rfl, by decide +kernel, by decide +kernel⟩
theorem sc__law_box : FnScope ["_law_pot_here", "_law_many", "_law_found", "_law_turn", "_law_one_here", "_law_other_here"] ["_law_pot_here", "_law_many"] (defScope s__law_box) := ⟨rfl, rfl, rfl, by decide +kernel, rfl, by decide +kernel, by decide +kernel⟩
theorem sc__law_matrix : FnScope ["_law_pot_here", "_law_many", "_law_long", "_law_found", "_law_turn"] ["_law_pot_here", "_law_many", "_law_long"] (defScope s__law_matrix) := ⟨rfl, rfl, rfl, by decide +kernel, rfl, by decide +kernel, by decide +kernel⟩
theorem sc__law_unit : FnScope ["_law_many", "_law_at", "_law_here"] ["_law_many"] (defScope s__law_unit) := ⟨rfl, rfl, rfl, by decide +kernel, rfl, by decide +kernel, by decide +kernel⟩
theorem sc__law_sum : FnScope ["_law_one_here", "_law_other_here"] ["_law_one_here", "_law_other_here"] (defScope s__law_sum) := ⟨rfl, rfl, rfl, by decide +kernel, rfl, by decide +kernel, by decide +kernel⟩
theorem sc__law_times : FnScope ["_law_one_here", "_law_other_here"] ["_law_one_here", "_law_other_here"] (defScope s__law_times) := ⟨rfl, rfl, rfl, by decide +kernel, rfl, by decide +kernel, by decide +kernel⟩
theorem sc__law_less : FnScope ["_law_one_here", "_law_other_here"] ["_law_one_here", "_law_other_here"] (defScope s__law_less) := ⟨rfl, rfl, rfl, by decide +kernel, rfl, by decide +kernel, by decide +kernel⟩
theorem sc__law_minor : FnScope ["_law_matrix_here", "_law_here", "_law_at", "_law_rows", "_law_row_here"] ["_law_matrix_here", "_law_here", "_law_at"] (defScope s__law_minor) := ⟨rfl, rfl, rfl, by decide +kernel, rfl, by decide +kernel, by decide +kernel⟩
theorem sc__law_det : FnScope ["_law_matrix_here", "_law_found", "_law_at", "_law_one_here", "_law_part"] ["_law_matrix_here"] (defScope s__law_det) := ⟨rfl, rfl, rfl, by decide +kernel, rfl, by decide +kernel, by decide +kernel⟩
theorem sc__law_strong : FnScope ["_law_pot_here", "_law_many", "_law_found"] ["_law_pot_here", "_law_many"] (defScope s__law_strong) := ⟨rfl, rfl, rfl, by decide +kernel, rfl, by decide +kernel, by decide +kernel⟩
theorem sc__law_set : FnScope ["_law_pot_here", "_law_many", "_law_middle", "_law_matrix_here"] ["_law_pot_here", "_law_many"] (defScope s__law_set) := ⟨rfl, rfl, rfl, by decide +kernel, rfl, by decide +kernel, by decide +kernel⟩
theorem sc__law_dot : FnScope ["_law_one_here", "_law_other_here", "_law_found", "_law_near_here", "_law_far"] ["_law_one_here", "_law_other_here"] (defScope s__law_dot) := ⟨rfl, rfl, rfl, by decide +kernel, rfl, by decide +kernel, by decide +kernel⟩
theorem sc__law_led : FnScope ["_law_matrix_here", "_law_row_here", "_law_line"] ["_law_matrix_here", "_law_row_here"] (defScope s__law_led) := ⟨rfl, rfl, rfl, by decide +kernel, rfl, by decide +kernel, by decide +kernel⟩
theorem sc__law_inverse : FnScope ["_law_matrix_here", "_law_whole", "_law_many", "_law_found", "_law_here", "_law_row_here", "_law_at", "_law_part", "_law_sign"] ["_law_matrix_here"] (defScope s__law_inverse) := ⟨rfl, rfl, rfl, by decide +kernel, rfl, by decide +kernel, by decide +kernel⟩
theorem sc__law_point : FnScope ["_law_one_here", "_law_row_here", "_law_led_here", "_law_near_here", "_law_far"] ["_law_one_here", "_law_row_here"] (defScope s__law_point) := ⟨rfl, rfl, rfl, by decide +kernel, rfl, by decide +kernel, by decide +kernel⟩
theorem sc__law_one : FnScope [] [] (defScope s__law_one) := ⟨rfl, rfl, rfl, by decide +kernel, rfl, by decide +kernel, by decide +kernel⟩
theorem sc__law_has : FnScope ["_law_box_here", "_law_row_here", "_law_low", "_law_high", "_law_number", "_law_under"] ["_law_box_here", "_law_row_here"] (defScope s__law_has) := ⟨rfl, rfl, rfl, by decide +kernel, rfl, by decide +kernel, by decide +kernel⟩
theorem sc__law_corners : FnScope ["_law_box_here", "_law_rows", "_law_low", "_law_high", "_law_found", "_law_row_here", "_law_end_here"] ["_law_box_here"] (defScope s__law_corners) := ⟨rfl, rfl, rfl, by decide +kernel, rfl, by decide +kernel, by decide +kernel⟩
theorem sc__law_within : FnScope ["_law_one_here", "_law_other_here", "_law_back", "_law_row_here", "_law_point_here", "_law_rest", "_law_near_here", "_law_far"] ["_law_one_here", "_law_other_here"] (defScope s__law_within) := ⟨rfl, rfl, rfl, by decide +kernel, rfl, by decide +kernel, by decide +kernel⟩
theorem sc__law_floor : FnScope ["_law_ratio_here"] ["_law_ratio_here"] (defScope s__law_floor) := ⟨rfl, rfl, rfl, by decide +kernel, rfl, by decide +kernel, by decide +kernel⟩
theorem sc__law_ceiling : FnScope ["_law_ratio_here"] ["_law_ratio_here"] (defScope s__law_ceiling) := ⟨rfl, rfl, rfl, by decide +kernel, rfl, by decide +kernel, by decide +kernel⟩
theorem sc__law_hull : FnScope ["_law_one_here", "_law_found", "_law_middle", "_law_row_here", "_law_whole", "_law_low", "_law_high", "_law_ratio_here", "_law_near_here", "_law_far", "_law_ends"] ["_law_one_here"] (defScope s__law_hull) := ⟨rfl, rfl, rfl, by decide +kernel, rfl, by decide +kernel, by decide +kernel⟩
theorem sc__law_near : FnScope ["_law_pot_here", "_law_one_here", "_law_found", "_law_low", "_law_high", "_law_near_here", "_law_far", "_law_ends", "_law_less_here", "_law_rows", "_law_row_here", "_law_late", "_law_twice"] ["_law_pot_here", "_law_one_here"] (defScope s__law_near) := ⟨rfl, rfl, rfl, by decide +kernel, rfl, by decide +kernel, by decide +kernel⟩
theorem sc__law_other : FnScope ["_law_pot_here", "_law_one_here", "_law_way", "_law_many", "_law_hull_here", "_law_low", "_law_high", "_law_middles"] ["_law_pot_here", "_law_one_here"] (defScope s__law_other) := ⟨rfl, rfl, rfl, by decide +kernel, rfl, by decide +kernel, by decide +kernel⟩
theorem sc_is_count : FnScope ["value"] ["value"] (defScope s_is_count) := ⟨rfl, rfl, rfl, by decide +kernel, rfl, by decide +kernel, by decide +kernel⟩
theorem sc_parts_of_one : FnScope ["bits", "parts", "turn"] ["bits"] (defScope s_parts_of_one) := ⟨rfl, rfl, rfl, by decide +kernel, rfl, by decide +kernel, by decide +kernel⟩
theorem sc_rounded_middle : FnScope ["interval", "bits", "parts"] ["interval", "bits"] (defScope s_rounded_middle) := ⟨rfl, rfl, rfl, by decide +kernel, rfl, by decide +kernel, by decide +kernel⟩
theorem sc_rounded_rows : FnScope ["rows", "bits", "interval", "row"] ["rows", "bits"] (defScope s_rounded_rows) := ⟨rfl, rfl, rfl, by decide +kernel, rfl, by decide +kernel, by decide +kernel⟩
theorem sc_is_rows_of_intervals : FnScope ["value", "row", "one"] ["value"] (defScope s_is_rows_of_intervals) := ⟨rfl, rfl, rfl, by decide +kernel, rfl, by decide +kernel, by decide +kernel⟩
theorem sc_rounded_matrix : FnScope ["rows", "bits"] ["rows", "bits"] (defScope s_rounded_matrix) := ⟨rfl, rfl, rfl, by decide +kernel, rfl, by decide +kernel, by decide +kernel⟩
theorem sc__law_rounded : FnScope ["_law_interval", "_law_bits", "_law_parts", "_law_turn", "_law_number", "_law_under"] ["_law_interval", "_law_bits"] (defScope s__law_rounded) := ⟨rfl, rfl, rfl, by decide +kernel, rfl, by decide +kernel, by decide +kernel⟩
theorem sc__law_rounded_right : FnScope ["_law_pot_here", "_law_long", "_law_rows", "_law_turn", "_law_bits", "_law_due", "_law_one_here", "_law_row_here"] ["_law_pot_here"] (defScope s__law_rounded_right) := ⟨rfl, rfl, rfl, by decide +kernel, rfl, by decide +kernel, by decide +kernel⟩
theorem sc__law_right : FnScope ["_law_pot_here", "_law_many", "_law_one_here", "_law_other_here", "_law_shown", "_law_due", "_law_told"] ["_law_pot_here"] (defScope s__law_right) := ⟨rfl, rfl, rfl, by decide +kernel, rfl, by decide +kernel, by decide +kernel⟩
theorem sc_law : FnScope ["_law_script"] ["_law_script"] (defScope s_law) := ⟨rfl, rfl, rfl, by decide +kernel, rfl, by decide +kernel, by decide +kernel⟩
theorem b_is_integer_0 {K : PySem.W.Frag} {f : Addr} {fd : FuncData} (D : FunD K "is_integer" "is_integer" (defArgs s_is_integer) (defBody s_is_integer) (defScope s_is_integer) [] [] f fd) : Pd.Bt K fd ["value"] 1 [] [] [0] :=
  Pd.bt0 D fun _ _ _ _ _ _ us ws h1 h2 => match us, h1, ws, h2 with | [_], _, [], _ => rfl
theorem bl_b_is_integer_0 : ∀ l : List Nat, l.length = 1 + (([] : List PySem.Str).length + ([] : List Value).length) → (Pd.pick [0] l).length = (["value"] : List PySem.Str).length := fun l h => match l, h with | [_], _ => rfl
theorem b_is_interval_0 {K : PySem.W.Frag} {f : Addr} {fd : FuncData} (D : FunD K "is_interval" "is_interval" (defArgs s_is_interval) (defBody s_is_interval) (defScope s_is_interval) [] [] f fd) : Pd.Bt K fd ["value"] 1 [] [] [0] :=
  Pd.bt0 D fun _ _ _ _ _ _ us ws h1 h2 => match us, h1, ws, h2 with | [_], _, [], _ => rfl
theorem bl_b_is_interval_0 : ∀ l : List Nat, l.length = 1 + (([] : List PySem.Str).length + ([] : List Value).length) → (Pd.pick [0] l).length = (["value"] : List PySem.Str).length := fun l h => match l, h with | [_], _ => rfl
theorem b_is_box_0 {K : PySem.W.Frag} {f : Addr} {fd : FuncData} (D : FunD K "is_box" "is_box" (defArgs s_is_box) (defBody s_is_box) (defScope s_is_box) [] [] f fd) : Pd.Bt K fd ["value"] 1 [] [] [0] :=
  Pd.bt0 D fun _ _ _ _ _ _ us ws h1 h2 => match us, h1, ws, h2 with | [_], _, [], _ => rfl
theorem bl_b_is_box_0 : ∀ l : List Nat, l.length = 1 + (([] : List PySem.Str).length + ([] : List Value).length) → (Pd.pick [0] l).length = (["value"] : List PySem.Str).length := fun l h => match l, h with | [_], _ => rfl
theorem b_unit_of_0 {K : PySem.W.Frag} {f : Addr} {fd : FuncData} (D : FunD K "unit_of" "unit_of" (defArgs s_unit_of) (defBody s_unit_of) (defScope s_unit_of) [] [] f fd) : Pd.Bt K fd ["many"] 1 [] [] [0] :=
  Pd.bt0 D fun _ _ _ _ _ _ us ws h1 h2 => match us, h1, ws, h2 with | [_], _, [], _ => rfl
theorem bl_b_unit_of_0 : ∀ l : List Nat, l.length = 1 + (([] : List PySem.Str).length + ([] : List Value).length) → (Pd.pick [0] l).length = (["many"] : List PySem.Str).length := fun l h => match l, h with | [_], _ => rfl
theorem b_made_ratio_0 {K : PySem.W.Frag} {f : Addr} {fd : FuncData} (D : FunD K "made_ratio" "made_ratio" (defArgs s_made_ratio) (defBody s_made_ratio) (defScope s_made_ratio) [] [] f fd) : Pd.Bt K fd ["number", "under"] 2 [] [] [0, 1] :=
  Pd.bt0 D fun _ _ _ _ _ _ us ws h1 h2 => match us, h1, ws, h2 with | [_, _], _, [], _ => rfl
theorem bl_b_made_ratio_0 : ∀ l : List Nat, l.length = 2 + (([] : List PySem.Str).length + ([] : List Value).length) → (Pd.pick [0, 1] l).length = (["number", "under"] : List PySem.Str).length := fun l h => match l, h with | [_, _], _ => rfl
theorem b_want_box_0 {K : PySem.W.Frag} {f : Addr} {fd : FuncData} (D : FunD K "want_box" "want_box" (defArgs s_want_box) (defBody s_want_box) (defScope s_want_box) [] [] f fd) : Pd.Bt K fd ["value"] 1 [] [] [0] :=
  Pd.bt0 D fun _ _ _ _ _ _ us ws h1 h2 => match us, h1, ws, h2 with | [_], _, [], _ => rfl
theorem bl_b_want_box_0 : ∀ l : List Nat, l.length = 1 + (([] : List PySem.Str).length + ([] : List Value).length) → (Pd.pick [0] l).length = (["value"] : List PySem.Str).length := fun l h => match l, h with | [_], _ => rfl
theorem b_box_as_set_0 {K : PySem.W.Frag} {f : Addr} {fd : FuncData} (D : FunD K "box_as_set" "box_as_set" (defArgs s_box_as_set) (defBody s_box_as_set) (defScope s_box_as_set) [] [] f fd) : Pd.Bt K fd ["box"] 1 [] [] [0] :=
  Pd.bt0 D fun _ _ _ _ _ _ us ws h1 h2 => match us, h1, ws, h2 with | [_], _, [], _ => rfl
theorem bl_b_box_as_set_0 : ∀ l : List Nat, l.length = 1 + (([] : List PySem.Str).length + ([] : List Value).length) → (Pd.pick [0] l).length = (["box"] : List PySem.Str).length := fun l h => match l, h with | [_], _ => rfl
theorem b_is_ratio_0 {K : PySem.W.Frag} {f : Addr} {fd : FuncData} (D : FunD K "is_ratio" "is_ratio" (defArgs s_is_ratio) (defBody s_is_ratio) (defScope s_is_ratio) [] [] f fd) : Pd.Bt K fd ["value"] 1 [] [] [0] :=
  Pd.bt0 D fun _ _ _ _ _ _ us ws h1 h2 => match us, h1, ws, h2 with | [_], _, [], _ => rfl
theorem bl_b_is_ratio_0 : ∀ l : List Nat, l.length = 1 + (([] : List PySem.Str).length + ([] : List Value).length) → (Pd.pick [0] l).length = (["value"] : List PySem.Str).length := fun l h => match l, h with | [_], _ => rfl
theorem b_is_row_0 {K : PySem.W.Frag} {f : Addr} {fd : FuncData} (D : FunD K "is_row" "is_row" (defArgs s_is_row) (defBody s_is_row) (defScope s_is_row) [] [] f fd) : Pd.Bt K fd ["value"] 1 [] [] [0] :=
  Pd.bt0 D fun _ _ _ _ _ _ us ws h1 h2 => match us, h1, ws, h2 with | [_], _, [], _ => rfl
theorem bl_b_is_row_0 : ∀ l : List Nat, l.length = 1 + (([] : List PySem.Str).length + ([] : List Value).length) → (Pd.pick [0] l).length = (["value"] : List PySem.Str).length := fun l h => match l, h with | [_], _ => rfl
theorem b_mul_ratios_0 {K : PySem.W.Frag} {f : Addr} {fd : FuncData} (D : FunD K "mul_ratios" "mul_ratios" (defArgs s_mul_ratios) (defBody s_mul_ratios) (defScope s_mul_ratios) [] [] f fd) : Pd.Bt K fd ["one", "other"] 2 [] [] [0, 1] :=
  Pd.bt0 D fun _ _ _ _ _ _ us ws h1 h2 => match us, h1, ws, h2 with | [_, _], _, [], _ => rfl
theorem bl_b_mul_ratios_0 : ∀ l : List Nat, l.length = 2 + (([] : List PySem.Str).length + ([] : List Value).length) → (Pd.pick [0, 1] l).length = (["one", "other"] : List PySem.Str).length := fun l h => match l, h with | [_, _], _ => rfl
theorem b_add_ratios_0 {K : PySem.W.Frag} {f : Addr} {fd : FuncData} (D : FunD K "add_ratios" "add_ratios" (defArgs s_add_ratios) (defBody s_add_ratios) (defScope s_add_ratios) [] [] f fd) : Pd.Bt K fd ["one", "other"] 2 [] [] [0, 1] :=
  Pd.bt0 D fun _ _ _ _ _ _ us ws h1 h2 => match us, h1, ws, h2 with | [_, _], _, [], _ => rfl
theorem bl_b_add_ratios_0 : ∀ l : List Nat, l.length = 2 + (([] : List PySem.Str).length + ([] : List Value).length) → (Pd.pick [0, 1] l).length = (["one", "other"] : List PySem.Str).length := fun l h => match l, h with | [_, _], _ => rfl
theorem b_neg_ratio_0 {K : PySem.W.Frag} {f : Addr} {fd : FuncData} (D : FunD K "neg_ratio" "neg_ratio" (defArgs s_neg_ratio) (defBody s_neg_ratio) (defScope s_neg_ratio) [] [] f fd) : Pd.Bt K fd ["ratio"] 1 [] [] [0] :=
  Pd.bt0 D fun _ _ _ _ _ _ us ws h1 h2 => match us, h1, ws, h2 with | [_], _, [], _ => rfl
theorem bl_b_neg_ratio_0 : ∀ l : List Nat, l.length = 1 + (([] : List PySem.Str).length + ([] : List Value).length) → (Pd.pick [0] l).length = (["ratio"] : List PySem.Str).length := fun l h => match l, h with | [_], _ => rfl
theorem b_sub_ratios_0 {K : PySem.W.Frag} {f : Addr} {fd : FuncData} (D : FunD K "sub_ratios" "sub_ratios" (defArgs s_sub_ratios) (defBody s_sub_ratios) (defScope s_sub_ratios) [] [] f fd) : Pd.Bt K fd ["one", "other"] 2 [] [] [0, 1] :=
  Pd.bt0 D fun _ _ _ _ _ _ us ws h1 h2 => match us, h1, ws, h2 with | [_, _], _, [], _ => rfl
theorem bl_b_sub_ratios_0 : ∀ l : List Nat, l.length = 2 + (([] : List PySem.Str).length + ([] : List Value).length) → (Pd.pick [0, 1] l).length = (["one", "other"] : List PySem.Str).length := fun l h => match l, h with | [_, _], _ => rfl
theorem b_row_with_0 {K : PySem.W.Frag} {f : Addr} {fd : FuncData} (D : FunD K "row_with" "row_with" (defArgs s_row_with) (defBody s_row_with) (defScope s_row_with) [] [] f fd) : Pd.Bt K fd ["rows", "place", "begin"] 3 [] [] [0, 1, 2] :=
  Pd.bt0 D fun _ _ _ _ _ _ us ws h1 h2 => match us, h1, ws, h2 with | [_, _, _], _, [], _ => rfl
theorem bl_b_row_with_0 : ∀ l : List Nat, l.length = 3 + (([] : List PySem.Str).length + ([] : List Value).length) → (Pd.pick [0, 1, 2] l).length = (["rows", "place", "begin"] : List PySem.Str).length := fun l h => match l, h with | [_, _, _], _ => rfl
theorem b_exchanged_0 {K : PySem.W.Frag} {f : Addr} {fd : FuncData} (D : FunD K "exchanged" "exchanged" (defArgs s_exchanged) (defBody s_exchanged) (defScope s_exchanged) [] [] f fd) : Pd.Bt K fd ["rows", "one", "other"] 3 [] [] [0, 1, 2] :=
  Pd.bt0 D fun _ _ _ _ _ _ us ws h1 h2 => match us, h1, ws, h2 with | [_, _, _], _, [], _ => rfl
theorem bl_b_exchanged_0 : ∀ l : List Nat, l.length = 3 + (([] : List PySem.Str).length + ([] : List Value).length) → (Pd.pick [0, 1, 2] l).length = (["rows", "one", "other"] : List PySem.Str).length := fun l h => match l, h with | [_, _, _], _ => rfl
theorem b_row_times_0 {K : PySem.W.Frag} {f : Addr} {fd : FuncData} (D : FunD K "row_times" "row_times" (defArgs s_row_times) (defBody s_row_times) (defScope s_row_times) [] [] f fd) : Pd.Bt K fd ["row", "ratio"] 2 [] [] [0, 1] :=
  Pd.bt0 D fun _ _ _ _ _ _ us ws h1 h2 => match us, h1, ws, h2 with | [_, _], _, [], _ => rfl
theorem bl_b_row_times_0 : ∀ l : List Nat, l.length = 2 + (([] : List PySem.Str).length + ([] : List Value).length) → (Pd.pick [0, 1] l).length = (["row", "ratio"] : List PySem.Str).length := fun l h => match l, h with | [_, _], _ => rfl
theorem b_inverse_ratio_0 {K : PySem.W.Frag} {f : Addr} {fd : FuncData} (D : FunD K "inverse_ratio" "inverse_ratio" (defArgs s_inverse_ratio) (defBody s_inverse_ratio) (defScope s_inverse_ratio) [] [] f fd) : Pd.Bt K fd ["ratio"] 1 [] [] [0] :=
  Pd.bt0 D fun _ _ _ _ _ _ us ws h1 h2 => match us, h1, ws, h2 with | [_], _, [], _ => rfl
theorem bl_b_inverse_ratio_0 : ∀ l : List Nat, l.length = 1 + (([] : List PySem.Str).length + ([] : List Value).length) → (Pd.pick [0] l).length = (["ratio"] : List PySem.Str).length := fun l h => match l, h with | [_], _ => rfl
theorem b_row_less_0 {K : PySem.W.Frag} {f : Addr} {fd : FuncData} (D : FunD K "row_less" "row_less" (defArgs s_row_less) (defBody s_row_less) (defScope s_row_less) [] [] f fd) : Pd.Bt K fd ["row", "other", "often"] 3 [] [] [0, 1, 2] :=
  Pd.bt0 D fun _ _ _ _ _ _ us ws h1 h2 => match us, h1, ws, h2 with | [_, _, _], _, [], _ => rfl
theorem bl_b_row_less_0 : ∀ l : List Nat, l.length = 3 + (([] : List PySem.Str).length + ([] : List Value).length) → (Pd.pick [0, 1, 2] l).length = (["row", "other", "often"] : List PySem.Str).length := fun l h => match l, h with | [_, _, _], _ => rfl
theorem b_is_point_0 {K : PySem.W.Frag} {f : Addr} {fd : FuncData} (D : FunD K "is_point" "is_point" (defArgs s_is_point) (defBody s_is_point) (defScope s_is_point) [] [] f fd) : Pd.Bt K fd ["value"] 1 [] [] [0] :=
  Pd.bt0 D fun _ _ _ _ _ _ us ws h1 h2 => match us, h1, ws, h2 with | [_], _, [], _ => rfl
theorem bl_b_is_point_0 : ∀ l : List Nat, l.length = 1 + (([] : List PySem.Str).length + ([] : List Value).length) → (Pd.pick [0] l).length = (["value"] : List PySem.Str).length := fun l h => match l, h with | [_], _ => rfl
theorem b_is_matrix_0 {K : PySem.W.Frag} {f : Addr} {fd : FuncData} (D : FunD K "is_matrix" "is_matrix" (defArgs s_is_matrix) (defBody s_is_matrix) (defScope s_is_matrix) [] [] f fd) : Pd.Bt K fd ["value"] 1 [] [] [0] :=
  Pd.bt0 D fun _ _ _ _ _ _ us ws h1 h2 => match us, h1, ws, h2 with | [_], _, [], _ => rfl
theorem bl_b_is_matrix_0 : ∀ l : List Nat, l.length = 1 + (([] : List PySem.Str).length + ([] : List Value).length) → (Pd.pick [0] l).length = (["value"] : List PySem.Str).length := fun l h => match l, h with | [_], _ => rfl
theorem b_inverse_of_0 {K : PySem.W.Frag} {f : Addr} {fd : FuncData} (D : FunD K "inverse_of" "inverse_of" (defArgs s_inverse_of) (defBody s_inverse_of) (defScope s_inverse_of) [] [] f fd) : Pd.Bt K fd ["matrix"] 1 [] [] [0] :=
  Pd.bt0 D fun _ _ _ _ _ _ us ws h1 h2 => match us, h1, ws, h2 with | [_], _, [], _ => rfl
theorem bl_b_inverse_of_0 : ∀ l : List Nat, l.length = 1 + (([] : List PySem.Str).length + ([] : List Value).length) → (Pd.pick [0] l).length = (["matrix"] : List PySem.Str).length := fun l h => match l, h with | [_], _ => rfl
theorem b_is_set_value_0 {K : PySem.W.Frag} {f : Addr} {fd : FuncData} (D : FunD K "is_set_value" "is_set_value" (defArgs s_is_set_value) (defBody s_is_set_value) (defScope s_is_set_value) [] [] f fd) : Pd.Bt K fd ["many", "value"] 2 [] [] [0, 1] :=
  Pd.bt0 D fun _ _ _ _ _ _ us ws h1 h2 => match us, h1, ws, h2 with | [_, _], _, [], _ => rfl
theorem bl_b_is_set_value_0 : ∀ l : List Nat, l.length = 2 + (([] : List PySem.Str).length + ([] : List Value).length) → (Pd.pick [0, 1] l).length = (["many", "value"] : List PySem.Str).length := fun l h => match l, h with | [_, _], _ => rfl
theorem b_is_set_0 {K : PySem.W.Frag} {f : Addr} {fd : FuncData} (D : FunD K "is_set" "is_set" (defArgs s_is_set) (defBody s_is_set) (defScope s_is_set) [] [] f fd) : Pd.Bt K fd ["value"] 1 [] [] [0] :=
  Pd.bt0 D fun _ _ _ _ _ _ us ws h1 h2 => match us, h1, ws, h2 with | [_], _, [], _ => rfl
theorem bl_b_is_set_0 : ∀ l : List Nat, l.length = 1 + (([] : List PySem.Str).length + ([] : List Value).length) → (Pd.pick [0] l).length = (["value"] : List PySem.Str).length := fun l h => match l, h with | [_], _ => rfl
theorem b_rounded_down_0 {K : PySem.W.Frag} {f : Addr} {fd : FuncData} (D : FunD K "rounded_down" "rounded_down" (defArgs s_rounded_down) (defBody s_rounded_down) (defScope s_rounded_down) [] [] f fd) : Pd.Bt K fd ["number", "under"] 2 [] [] [0, 1] :=
  Pd.bt0 D fun _ _ _ _ _ _ us ws h1 h2 => match us, h1, ws, h2 with | [_, _], _, [], _ => rfl
theorem bl_b_rounded_down_0 : ∀ l : List Nat, l.length = 2 + (([] : List PySem.Str).length + ([] : List Value).length) → (Pd.pick [0, 1] l).length = (["number", "under"] : List PySem.Str).length := fun l h => match l, h with | [_, _], _ => rfl
theorem b_checked_ends_0 {K : PySem.W.Frag} {f : Addr} {fd : FuncData} (D : FunD K "checked_ends" "checked_ends" (defArgs s_checked_ends) (defBody s_checked_ends) (defScope s_checked_ends) [] [] f fd) : Pd.Bt K fd ["low", "high"] 2 [] [] [0, 1] :=
  Pd.bt0 D fun _ _ _ _ _ _ us ws h1 h2 => match us, h1, ws, h2 with | [_, _], _, [], _ => rfl
theorem bl_b_checked_ends_0 : ∀ l : List Nat, l.length = 2 + (([] : List PySem.Str).length + ([] : List Value).length) → (Pd.pick [0, 1] l).length = (["low", "high"] : List PySem.Str).length := fun l h => match l, h with | [_, _], _ => rfl
theorem b_rounded_up_0 {K : PySem.W.Frag} {f : Addr} {fd : FuncData} (D : FunD K "rounded_up" "rounded_up" (defArgs s_rounded_up) (defBody s_rounded_up) (defScope s_rounded_up) [] [] f fd) : Pd.Bt K fd ["number", "under"] 2 [] [] [0, 1] :=
  Pd.bt0 D fun _ _ _ _ _ _ us ws h1 h2 => match us, h1, ws, h2 with | [_, _], _, [], _ => rfl
theorem bl_b_rounded_up_0 : ∀ l : List Nat, l.length = 2 + (([] : List PySem.Str).length + ([] : List Value).length) → (Pd.pick [0, 1] l).length = (["number", "under"] : List PySem.Str).length := fun l h => match l, h with | [_, _], _ => rfl
theorem b_around_of_0 {K : PySem.W.Frag} {f : Addr} {fd : FuncData} (D : FunD K "around_of" "around_of" (defArgs s_around_of) (defBody s_around_of) (defScope s_around_of) [] [] f fd) : Pd.Bt K fd ["ratio"] 1 [] [] [0] :=
  Pd.bt0 D fun _ _ _ _ _ _ us ws h1 h2 => match us, h1, ws, h2 with | [_], _, [], _ => rfl
theorem bl_b_around_of_0 : ∀ l : List Nat, l.length = 1 + (([] : List PySem.Str).length + ([] : List Value).length) → (Pd.pick [0] l).length = (["ratio"] : List PySem.Str).length := fun l h => match l, h with | [_], _ => rfl
theorem b_plus_of_0 {K : PySem.W.Frag} {f : Addr} {fd : FuncData} (D : FunD K "plus_of" "plus_of" (defArgs s_plus_of) (defBody s_plus_of) (defScope s_plus_of) [] [] f fd) : Pd.Bt K fd ["one", "other"] 2 [] [] [0, 1] :=
  Pd.bt0 D fun _ _ _ _ _ _ us ws h1 h2 => match us, h1, ws, h2 with | [_, _], _, [], _ => rfl
theorem bl_b_plus_of_0 : ∀ l : List Nat, l.length = 2 + (([] : List PySem.Str).length + ([] : List Value).length) → (Pd.pick [0, 1] l).length = (["one", "other"] : List PySem.Str).length := fun l h => match l, h with | [_, _], _ => rfl
theorem b_scaled_of_0 {K : PySem.W.Frag} {f : Addr} {fd : FuncData} (D : FunD K "scaled_of" "scaled_of" (defArgs s_scaled_of) (defBody s_scaled_of) (defScope s_scaled_of) [] [] f fd) : Pd.Bt K fd ["interval", "ratio"] 2 [] [] [0, 1] :=
  Pd.bt0 D fun _ _ _ _ _ _ us ws h1 h2 => match us, h1, ws, h2 with | [_, _], _, [], _ => rfl
theorem bl_b_scaled_of_0 : ∀ l : List Nat, l.length = 2 + (([] : List PySem.Str).length + ([] : List Value).length) → (Pd.pick [0, 1] l).length = (["interval", "ratio"] : List PySem.Str).length := fun l h => match l, h with | [_, _], _ => rfl
theorem b_want_set_0 {K : PySem.W.Frag} {f : Addr} {fd : FuncData} (D : FunD K "want_set" "want_set" (defArgs s_want_set) (defBody s_want_set) (defScope s_want_set) [] [] f fd) : Pd.Bt K fd ["value"] 1 [] [] [0] :=
  Pd.bt0 D fun _ _ _ _ _ _ us ws h1 h2 => match us, h1, ws, h2 with | [_], _, [], _ => rfl
theorem bl_b_want_set_0 : ∀ l : List Nat, l.length = 1 + (([] : List PySem.Str).length + ([] : List Value).length) → (Pd.pick [0] l).length = (["value"] : List PySem.Str).length := fun l h => match l, h with | [_], _ => rfl
theorem b_set_hull_of_0 {K : PySem.W.Frag} {f : Addr} {fd : FuncData} (D : FunD K "set_hull_of" "set_hull_of" (defArgs s_set_hull_of) (defBody s_set_hull_of) (defScope s_set_hull_of) [] [] f fd) : Pd.Bt K fd ["one"] 1 [] [] [0] :=
  Pd.bt0 D fun _ _ _ _ _ _ us ws h1 h2 => match us, h1, ws, h2 with | [_], _, [], _ => rfl
theorem bl_b_set_hull_of_0 : ∀ l : List Nat, l.length = 1 + (([] : List PySem.Str).length + ([] : List Value).length) → (Pd.pick [0] l).length = (["one"] : List PySem.Str).length := fun l h => match l, h with | [_], _ => rfl
theorem b_columns_of_0 {K : PySem.W.Frag} {f : Addr} {fd : FuncData} (D : FunD K "columns_of" "columns_of" (defArgs s_columns_of) (defBody s_columns_of) (defScope s_columns_of) [] [] f fd) : Pd.Bt K fd ["matrix"] 1 [] [] [0] :=
  Pd.bt0 D fun _ _ _ _ _ _ us ws h1 h2 => match us, h1, ws, h2 with | [_], _, [], _ => rfl
theorem bl_b_columns_of_0 : ∀ l : List Nat, l.length = 1 + (([] : List PySem.Str).length + ([] : List Value).length) → (Pd.pick [0] l).length = (["matrix"] : List PySem.Str).length := fun l h => match l, h with | [_], _ => rfl
theorem b_dot_0 {K : PySem.W.Frag} {f : Addr} {fd : FuncData} (D : FunD K "dot" "dot" (defArgs s_dot) (defBody s_dot) (defScope s_dot) [] [] f fd) : Pd.Bt K fd ["row", "other"] 2 [] [] [0, 1] :=
  Pd.bt0 D fun _ _ _ _ _ _ us ws h1 h2 => match us, h1, ws, h2 with | [_, _], _, [], _ => rfl
theorem bl_b_dot_0 : ∀ l : List Nat, l.length = 2 + (([] : List PySem.Str).length + ([] : List Value).length) → (Pd.pick [0, 1] l).length = (["row", "other"] : List PySem.Str).length := fun l h => match l, h with | [_, _], _ => rfl
theorem b_is_less_ratio_0 {K : PySem.W.Frag} {f : Addr} {fd : FuncData} (D : FunD K "is_less_ratio" "is_less_ratio" (defArgs s_is_less_ratio) (defBody s_is_less_ratio) (defScope s_is_less_ratio) [] [] f fd) : Pd.Bt K fd ["one", "other"] 2 [] [] [0, 1] :=
  Pd.bt0 D fun _ _ _ _ _ _ us ws h1 h2 => match us, h1, ws, h2 with | [_, _], _, [], _ => rfl
theorem bl_b_is_less_ratio_0 : ∀ l : List Nat, l.length = 2 + (([] : List PySem.Str).length + ([] : List Value).length) → (Pd.pick [0, 1] l).length = (["one", "other"] : List PySem.Str).length := fun l h => match l, h with | [_, _], _ => rfl
theorem b_led_by_0 {K : PySem.W.Frag} {f : Addr} {fd : FuncData} (D : FunD K "led_by" "led_by" (defArgs s_led_by) (defBody s_led_by) (defScope s_led_by) [] [] f fd) : Pd.Bt K fd ["matrix", "row"] 2 [] [] [0, 1] :=
  Pd.bt0 D fun _ _ _ _ _ _ us ws h1 h2 => match us, h1, ws, h2 with | [_, _], _, [], _ => rfl
theorem bl_b_led_by_0 : ∀ l : List Nat, l.length = 2 + (([] : List PySem.Str).length + ([] : List Value).length) → (Pd.pick [0, 1] l).length = (["matrix", "row"] : List PySem.Str).length := fun l h => match l, h with | [_, _], _ => rfl
theorem b_less_point_0 {K : PySem.W.Frag} {f : Addr} {fd : FuncData} (D : FunD K "less_point" "less_point" (defArgs s_less_point) (defBody s_less_point) (defScope s_less_point) [] [] f fd) : Pd.Bt K fd ["point", "other"] 2 [] [] [0, 1] :=
  Pd.bt0 D fun _ _ _ _ _ _ us ws h1 h2 => match us, h1, ws, h2 with | [_, _], _, [], _ => rfl
theorem bl_b_less_point_0 : ∀ l : List Nat, l.length = 2 + (([] : List PySem.Str).length + ([] : List Value).length) → (Pd.pick [0, 1] l).length = (["point", "other"] : List PySem.Str).length := fun l h => match l, h with | [_, _], _ => rfl
theorem b_product_of_0 {K : PySem.W.Frag} {f : Addr} {fd : FuncData} (D : FunD K "product_of" "product_of" (defArgs s_product_of) (defBody s_product_of) (defScope s_product_of) [] [] f fd) : Pd.Bt K fd ["one", "other"] 2 [] [] [0, 1] :=
  Pd.bt0 D fun _ _ _ _ _ _ us ws h1 h2 => match us, h1, ws, h2 with | [_, _], _, [], _ => rfl
theorem bl_b_product_of_0 : ∀ l : List Nat, l.length = 2 + (([] : List PySem.Str).length + ([] : List Value).length) → (Pd.pick [0, 1] l).length = (["one", "other"] : List PySem.Str).length := fun l h => match l, h with | [_, _], _ => rfl
theorem b_ends_led_0 {K : PySem.W.Frag} {f : Addr} {fd : FuncData} (D : FunD K "ends_led" "ends_led" (defArgs s_ends_led) (defBody s_ends_led) (defScope s_ends_led) [] [] f fd) : Pd.Bt K fd ["row", "box"] 2 [] [] [0, 1] :=
  Pd.bt0 D fun _ _ _ _ _ _ us ws h1 h2 => match us, h1, ws, h2 with | [_, _], _, [], _ => rfl
theorem bl_b_ends_led_0 : ∀ l : List Nat, l.length = 2 + (([] : List PySem.Str).length + ([] : List Value).length) → (Pd.pick [0, 1] l).length = (["row", "box"] : List PySem.Str).length := fun l h => match l, h with | [_, _], _ => rfl
theorem b_is_from_to_0 {K : PySem.W.Frag} {f : Addr} {fd : FuncData} (D : FunD K "is_from_to" "is_from_to" (defArgs s_is_from_to) (defBody s_is_from_to) (defScope s_is_from_to) [] [] f fd) : Pd.Bt K fd ["low", "high", "interval"] 3 [] [] [0, 1, 2] :=
  Pd.bt0 D fun _ _ _ _ _ _ us ws h1 h2 => match us, h1, ws, h2 with | [_, _, _], _, [], _ => rfl
theorem bl_b_is_from_to_0 : ∀ l : List Nat, l.length = 3 + (([] : List PySem.Str).length + ([] : List Value).length) → (Pd.pick [0, 1, 2] l).length = (["low", "high", "interval"] : List PySem.Str).length := fun l h => match l, h with | [_, _, _], _ => rfl
theorem b_is_within_set_0 {K : PySem.W.Frag} {f : Addr} {fd : FuncData} (D : FunD K "is_within_set" "is_within_set" (defArgs s_is_within_set) (defBody s_is_within_set) (defScope s_is_within_set) [] [] f fd) : Pd.Bt K fd ["one", "other"] 2 [] [] [0, 1] :=
  Pd.bt0 D fun _ _ _ _ _ _ us ws h1 h2 => match us, h1, ws, h2 with | [_, _], _, [], _ => rfl
theorem bl_b_is_within_set_0 : ∀ l : List Nat, l.length = 2 + (([] : List PySem.Str).length + ([] : List Value).length) → (Pd.pick [0, 1] l).length = (["one", "other"] : List PySem.Str).length := fun l h => match l, h with | [_, _], _ => rfl
theorem b__law_draw_0 {K : PySem.W.Frag} {f : Addr} {fd : FuncData} (D : FunD K "_law_draw" "_law_draw" (defArgs s__law_draw) (defBody s__law_draw) (defScope s__law_draw) [] [] f fd) : Pd.Bt K fd ["_law_pot_here", "_law_size"] 2 [] [] [0, 1] :=
  Pd.bt0 D fun _ _ _ _ _ _ us ws h1 h2 => match us, h1, ws, h2 with | [_, _], _, [], _ => rfl
theorem bl_b__law_draw_0 : ∀ l : List Nat, l.length = 2 + (([] : List PySem.Str).length + ([] : List Value).length) → (Pd.pick [0, 1] l).length = (["_law_pot_here", "_law_size"] : List PySem.Str).length := fun l h => match l, h with | [_, _], _ => rfl
theorem b__law_made_0 {K : PySem.W.Frag} {f : Addr} {fd : FuncData} (D : FunD K "_law_made" "_law_made" (defArgs s__law_made) (defBody s__law_made) (defScope s__law_made) [] [] f fd) : Pd.Bt K fd ["_law_number", "_law_under"] 2 [] [] [0, 1] :=
  Pd.bt0 D fun _ _ _ _ _ _ us ws h1 h2 => match us, h1, ws, h2 with | [_, _], _, [], _ => rfl
theorem bl_b__law_made_0 : ∀ l : List Nat, l.length = 2 + (([] : List PySem.Str).length + ([] : List Value).length) → (Pd.pick [0, 1] l).length = (["_law_number", "_law_under"] : List PySem.Str).length := fun l h => match l, h with | [_, _], _ => rfl
theorem b__law_pick_0 {K : PySem.W.Frag} {f : Addr} {fd : FuncData} (D : FunD K "_law_pick" "_law_pick" (defArgs s__law_pick) (defBody s__law_pick) (defScope s__law_pick) [] [] f fd) : Pd.Bt K fd ["_law_pot_here", "_law_some"] 2 [] [] [0, 1] :=
  Pd.bt0 D fun _ _ _ _ _ _ us ws h1 h2 => match us, h1, ws, h2 with | [_, _], _, [], _ => rfl
theorem bl_b__law_pick_0 : ∀ l : List Nat, l.length = 2 + (([] : List PySem.Str).length + ([] : List Value).length) → (Pd.pick [0, 1] l).length = (["_law_pot_here", "_law_some"] : List PySem.Str).length := fun l h => match l, h with | [_, _], _ => rfl
theorem b__law_ratio_0 {K : PySem.W.Frag} {f : Addr} {fd : FuncData} (D : FunD K "_law_ratio" "_law_ratio" (defArgs s__law_ratio) (defBody s__law_ratio) (defScope s__law_ratio) [] [] f fd) : Pd.Bt K fd ["_law_pot_here"] 1 [] [] [0] :=
  Pd.bt0 D fun _ _ _ _ _ _ us ws h1 h2 => match us, h1, ws, h2 with | [_], _, [], _ => rfl
theorem bl_b__law_ratio_0 : ∀ l : List Nat, l.length = 1 + (([] : List PySem.Str).length + ([] : List Value).length) → (Pd.pick [0] l).length = (["_law_pot_here"] : List PySem.Str).length := fun l h => match l, h with | [_], _ => rfl
theorem b__law_end_0 {K : PySem.W.Frag} {f : Addr} {fd : FuncData} (D : FunD K "_law_end" "_law_end" (defArgs s__law_end) (defBody s__law_end) (defScope s__law_end) [] [] f fd) : Pd.Bt K fd ["_law_pot_here"] 1 [] [] [0] :=
  Pd.bt0 D fun _ _ _ _ _ _ us ws h1 h2 => match us, h1, ws, h2 with | [_], _, [], _ => rfl
theorem bl_b__law_end_0 : ∀ l : List Nat, l.length = 1 + (([] : List PySem.Str).length + ([] : List Value).length) → (Pd.pick [0] l).length = (["_law_pot_here"] : List PySem.Str).length := fun l h => match l, h with | [_], _ => rfl
theorem b__law_row_0 {K : PySem.W.Frag} {f : Addr} {fd : FuncData} (D : FunD K "_law_row" "_law_row" (defArgs s__law_row) (defBody s__law_row) (defScope s__law_row) [] [] f fd) : Pd.Bt K fd ["_law_pot_here", "_law_many"] 2 [] [] [0, 1] :=
  Pd.bt0 D fun _ _ _ _ _ _ us ws h1 h2 => match us, h1, ws, h2 with | [_, _], _, [], _ => rfl
theorem bl_b__law_row_0 : ∀ l : List Nat, l.length = 2 + (([] : List PySem.Str).length + ([] : List Value).length) → (Pd.pick [0, 1] l).length = (["_law_pot_here", "_law_many"] : List PySem.Str).length := fun l h => match l, h with | [_, _], _ => rfl
theorem b__law_sum_0 {K : PySem.W.Frag} {f : Addr} {fd : FuncData} (D : FunD K "_law_sum" "_law_sum" (defArgs s__law_sum) (defBody s__law_sum) (defScope s__law_sum) [] [] f fd) : Pd.Bt K fd ["_law_one_here", "_law_other_here"] 2 [] [] [0, 1] :=
  Pd.bt0 D fun _ _ _ _ _ _ us ws h1 h2 => match us, h1, ws, h2 with | [_, _], _, [], _ => rfl
theorem bl_b__law_sum_0 : ∀ l : List Nat, l.length = 2 + (([] : List PySem.Str).length + ([] : List Value).length) → (Pd.pick [0, 1] l).length = (["_law_one_here", "_law_other_here"] : List PySem.Str).length := fun l h => match l, h with | [_, _], _ => rfl
theorem b__law_times_0 {K : PySem.W.Frag} {f : Addr} {fd : FuncData} (D : FunD K "_law_times" "_law_times" (defArgs s__law_times) (defBody s__law_times) (defScope s__law_times) [] [] f fd) : Pd.Bt K fd ["_law_one_here", "_law_other_here"] 2 [] [] [0, 1] :=
  Pd.bt0 D fun _ _ _ _ _ _ us ws h1 h2 => match us, h1, ws, h2 with | [_, _], _, [], _ => rfl
theorem bl_b__law_times_0 : ∀ l : List Nat, l.length = 2 + (([] : List PySem.Str).length + ([] : List Value).length) → (Pd.pick [0, 1] l).length = (["_law_one_here", "_law_other_here"] : List PySem.Str).length := fun l h => match l, h with | [_, _], _ => rfl
theorem b__law_det_0 {K : PySem.W.Frag} {f : Addr} {fd : FuncData} (D : FunD K "_law_det" "_law_det" (defArgs s__law_det) (defBody s__law_det) (defScope s__law_det) [] [] f fd) : Pd.Bt K fd ["_law_matrix_here"] 1 [] [] [0] :=
  Pd.bt0 D fun _ _ _ _ _ _ us ws h1 h2 => match us, h1, ws, h2 with | [_], _, [], _ => rfl
theorem bl_b__law_det_0 : ∀ l : List Nat, l.length = 1 + (([] : List PySem.Str).length + ([] : List Value).length) → (Pd.pick [0] l).length = (["_law_matrix_here"] : List PySem.Str).length := fun l h => match l, h with | [_], _ => rfl
theorem b__law_minor_0 {K : PySem.W.Frag} {f : Addr} {fd : FuncData} (D : FunD K "_law_minor" "_law_minor" (defArgs s__law_minor) (defBody s__law_minor) (defScope s__law_minor) [] [] f fd) : Pd.Bt K fd ["_law_matrix_here", "_law_here", "_law_at"] 3 [] [] [0, 1, 2] :=
  Pd.bt0 D fun _ _ _ _ _ _ us ws h1 h2 => match us, h1, ws, h2 with | [_, _, _], _, [], _ => rfl
theorem bl_b__law_minor_0 : ∀ l : List Nat, l.length = 3 + (([] : List PySem.Str).length + ([] : List Value).length) → (Pd.pick [0, 1, 2] l).length = (["_law_matrix_here", "_law_here", "_law_at"] : List PySem.Str).length := fun l h => match l, h with | [_, _, _], _ => rfl
theorem b__law_less_0 {K : PySem.W.Frag} {f : Addr} {fd : FuncData} (D : FunD K "_law_less" "_law_less" (defArgs s__law_less) (defBody s__law_less) (defScope s__law_less) [] [] f fd) : Pd.Bt K fd ["_law_one_here", "_law_other_here"] 2 [] [] [0, 1] :=
  Pd.bt0 D fun _ _ _ _ _ _ us ws h1 h2 => match us, h1, ws, h2 with | [_, _], _, [], _ => rfl
theorem bl_b__law_less_0 : ∀ l : List Nat, l.length = 2 + (([] : List PySem.Str).length + ([] : List Value).length) → (Pd.pick [0, 1] l).length = (["_law_one_here", "_law_other_here"] : List PySem.Str).length := fun l h => match l, h with | [_, _], _ => rfl
theorem b__law_matrix_0 {K : PySem.W.Frag} {f : Addr} {fd : FuncData} (D : FunD K "_law_matrix" "_law_matrix" (defArgs s__law_matrix) (defBody s__law_matrix) (defScope s__law_matrix) [] [] f fd) : Pd.Bt K fd ["_law_pot_here", "_law_many", "_law_long"] 3 [] [] [0, 1, 2] :=
  Pd.bt0 D fun _ _ _ _ _ _ us ws h1 h2 => match us, h1, ws, h2 with | [_, _, _], _, [], _ => rfl
theorem bl_b__law_matrix_0 : ∀ l : List Nat, l.length = 3 + (([] : List PySem.Str).length + ([] : List Value).length) → (Pd.pick [0, 1, 2] l).length = (["_law_pot_here", "_law_many", "_law_long"] : List PySem.Str).length := fun l h => match l, h with | [_, _, _], _ => rfl
theorem b__law_unit_0 {K : PySem.W.Frag} {f : Addr} {fd : FuncData} (D : FunD K "_law_unit" "_law_unit" (defArgs s__law_unit) (defBody s__law_unit) (defScope s__law_unit) [] [] f fd) : Pd.Bt K fd ["_law_many"] 1 [] [] [0] :=
  Pd.bt0 D fun _ _ _ _ _ _ us ws h1 h2 => match us, h1, ws, h2 with | [_], _, [], _ => rfl
theorem bl_b__law_unit_0 : ∀ l : List Nat, l.length = 1 + (([] : List PySem.Str).length + ([] : List Value).length) → (Pd.pick [0] l).length = (["_law_many"] : List PySem.Str).length := fun l h => match l, h with | [_], _ => rfl
theorem b__law_strong_0 {K : PySem.W.Frag} {f : Addr} {fd : FuncData} (D : FunD K "_law_strong" "_law_strong" (defArgs s__law_strong) (defBody s__law_strong) (defScope s__law_strong) [] [] f fd) : Pd.Bt K fd ["_law_pot_here", "_law_many"] 2 [] [] [0, 1] :=
  Pd.bt0 D fun _ _ _ _ _ _ us ws h1 h2 => match us, h1, ws, h2 with | [_, _], _, [], _ => rfl
theorem bl_b__law_strong_0 : ∀ l : List Nat, l.length = 2 + (([] : List PySem.Str).length + ([] : List Value).length) → (Pd.pick [0, 1] l).length = (["_law_pot_here", "_law_many"] : List PySem.Str).length := fun l h => match l, h with | [_, _], _ => rfl
theorem b__law_box_0 {K : PySem.W.Frag} {f : Addr} {fd : FuncData} (D : FunD K "_law_box" "_law_box" (defArgs s__law_box) (defBody s__law_box) (defScope s__law_box) [] [] f fd) : Pd.Bt K fd ["_law_pot_here", "_law_many"] 2 [] [] [0, 1] :=
  Pd.bt0 D fun _ _ _ _ _ _ us ws h1 h2 => match us, h1, ws, h2 with | [_, _], _, [], _ => rfl
theorem bl_b__law_box_0 : ∀ l : List Nat, l.length = 2 + (([] : List PySem.Str).length + ([] : List Value).length) → (Pd.pick [0, 1] l).length = (["_law_pot_here", "_law_many"] : List PySem.Str).length := fun l h => match l, h with | [_, _], _ => rfl
theorem b__law_dot_0 {K : PySem.W.Frag} {f : Addr} {fd : FuncData} (D : FunD K "_law_dot" "_law_dot" (defArgs s__law_dot) (defBody s__law_dot) (defScope s__law_dot) [] [] f fd) : Pd.Bt K fd ["_law_one_here", "_law_other_here"] 2 [] [] [0, 1] :=
  Pd.bt0 D fun _ _ _ _ _ _ us ws h1 h2 => match us, h1, ws, h2 with | [_, _], _, [], _ => rfl
theorem bl_b__law_dot_0 : ∀ l : List Nat, l.length = 2 + (([] : List PySem.Str).length + ([] : List Value).length) → (Pd.pick [0, 1] l).length = (["_law_one_here", "_law_other_here"] : List PySem.Str).length := fun l h => match l, h with | [_, _], _ => rfl
theorem b__law_led_0 {K : PySem.W.Frag} {f : Addr} {fd : FuncData} (D : FunD K "_law_led" "_law_led" (defArgs s__law_led) (defBody s__law_led) (defScope s__law_led) [] [] f fd) : Pd.Bt K fd ["_law_matrix_here", "_law_row_here"] 2 [] [] [0, 1] :=
  Pd.bt0 D fun _ _ _ _ _ _ us ws h1 h2 => match us, h1, ws, h2 with | [_, _], _, [], _ => rfl
theorem bl_b__law_led_0 : ∀ l : List Nat, l.length = 2 + (([] : List PySem.Str).length + ([] : List Value).length) → (Pd.pick [0, 1] l).length = (["_law_matrix_here", "_law_row_here"] : List PySem.Str).length := fun l h => match l, h with | [_, _], _ => rfl
theorem b__law_one_0 {K : PySem.W.Frag} {f : Addr} {fd : FuncData} (D : FunD K "_law_one" "_law_one" (defArgs s__law_one) (defBody s__law_one) (defScope s__law_one) [] [] f fd) : Pd.Bt K fd [] 0 [] [] [] :=
  Pd.bt0 D fun _ _ _ _ _ _ us ws h1 h2 => match us, h1, ws, h2 with | [], _, [], _ => rfl
theorem bl_b__law_one_0 : ∀ l : List Nat, l.length = 0 + (([] : List PySem.Str).length + ([] : List Value).length) → (Pd.pick [] l).length = ([] : List PySem.Str).length := fun l h => match l, h with | [], _ => rfl
theorem b__law_inverse_0 {K : PySem.W.Frag} {f : Addr} {fd : FuncData} (D : FunD K "_law_inverse" "_law_inverse" (defArgs s__law_inverse) (defBody s__law_inverse) (defScope s__law_inverse) [] [] f fd) : Pd.Bt K fd ["_law_matrix_here"] 1 [] [] [0] :=
  Pd.bt0 D fun _ _ _ _ _ _ us ws h1 h2 => match us, h1, ws, h2 with | [_], _, [], _ => rfl
theorem bl_b__law_inverse_0 : ∀ l : List Nat, l.length = 1 + (([] : List PySem.Str).length + ([] : List Value).length) → (Pd.pick [0] l).length = (["_law_matrix_here"] : List PySem.Str).length := fun l h => match l, h with | [_], _ => rfl
theorem b__law_corners_0 {K : PySem.W.Frag} {f : Addr} {fd : FuncData} (D : FunD K "_law_corners" "_law_corners" (defArgs s__law_corners) (defBody s__law_corners) (defScope s__law_corners) [] [] f fd) : Pd.Bt K fd ["_law_box_here"] 1 [] [] [0] :=
  Pd.bt0 D fun _ _ _ _ _ _ us ws h1 h2 => match us, h1, ws, h2 with | [_], _, [], _ => rfl
theorem bl_b__law_corners_0 : ∀ l : List Nat, l.length = 1 + (([] : List PySem.Str).length + ([] : List Value).length) → (Pd.pick [0] l).length = (["_law_box_here"] : List PySem.Str).length := fun l h => match l, h with | [_], _ => rfl
theorem b__law_point_0 {K : PySem.W.Frag} {f : Addr} {fd : FuncData} (D : FunD K "_law_point" "_law_point" (defArgs s__law_point) (defBody s__law_point) (defScope s__law_point) [] [] f fd) : Pd.Bt K fd ["_law_one_here", "_law_row_here"] 2 [] [] [0, 1] :=
  Pd.bt0 D fun _ _ _ _ _ _ us ws h1 h2 => match us, h1, ws, h2 with | [_, _], _, [], _ => rfl
theorem bl_b__law_point_0 : ∀ l : List Nat, l.length = 2 + (([] : List PySem.Str).length + ([] : List Value).length) → (Pd.pick [0, 1] l).length = (["_law_one_here", "_law_row_here"] : List PySem.Str).length := fun l h => match l, h with | [_, _], _ => rfl
theorem b__law_has_0 {K : PySem.W.Frag} {f : Addr} {fd : FuncData} (D : FunD K "_law_has" "_law_has" (defArgs s__law_has) (defBody s__law_has) (defScope s__law_has) [] [] f fd) : Pd.Bt K fd ["_law_box_here", "_law_row_here"] 2 [] [] [0, 1] :=
  Pd.bt0 D fun _ _ _ _ _ _ us ws h1 h2 => match us, h1, ws, h2 with | [_, _], _, [], _ => rfl
theorem bl_b__law_has_0 : ∀ l : List Nat, l.length = 2 + (([] : List PySem.Str).length + ([] : List Value).length) → (Pd.pick [0, 1] l).length = (["_law_box_here", "_law_row_here"] : List PySem.Str).length := fun l h => match l, h with | [_, _], _ => rfl
theorem b__law_ceiling_0 {K : PySem.W.Frag} {f : Addr} {fd : FuncData} (D : FunD K "_law_ceiling" "_law_ceiling" (defArgs s__law_ceiling) (defBody s__law_ceiling) (defScope s__law_ceiling) [] [] f fd) : Pd.Bt K fd ["_law_ratio_here"] 1 [] [] [0] :=
  Pd.bt0 D fun _ _ _ _ _ _ us ws h1 h2 => match us, h1, ws, h2 with | [_], _, [], _ => rfl
theorem bl_b__law_ceiling_0 : ∀ l : List Nat, l.length = 1 + (([] : List PySem.Str).length + ([] : List Value).length) → (Pd.pick [0] l).length = (["_law_ratio_here"] : List PySem.Str).length := fun l h => match l, h with | [_], _ => rfl
theorem b__law_floor_0 {K : PySem.W.Frag} {f : Addr} {fd : FuncData} (D : FunD K "_law_floor" "_law_floor" (defArgs s__law_floor) (defBody s__law_floor) (defScope s__law_floor) [] [] f fd) : Pd.Bt K fd ["_law_ratio_here"] 1 [] [] [0] :=
  Pd.bt0 D fun _ _ _ _ _ _ us ws h1 h2 => match us, h1, ws, h2 with | [_], _, [], _ => rfl
theorem bl_b__law_floor_0 : ∀ l : List Nat, l.length = 1 + (([] : List PySem.Str).length + ([] : List Value).length) → (Pd.pick [0] l).length = (["_law_ratio_here"] : List PySem.Str).length := fun l h => match l, h with | [_], _ => rfl
theorem b__law_near_0 {K : PySem.W.Frag} {f : Addr} {fd : FuncData} (D : FunD K "_law_near" "_law_near" (defArgs s__law_near) (defBody s__law_near) (defScope s__law_near) [] [] f fd) : Pd.Bt K fd ["_law_pot_here", "_law_one_here"] 2 [] [] [0, 1] :=
  Pd.bt0 D fun _ _ _ _ _ _ us ws h1 h2 => match us, h1, ws, h2 with | [_, _], _, [], _ => rfl
theorem bl_b__law_near_0 : ∀ l : List Nat, l.length = 2 + (([] : List PySem.Str).length + ([] : List Value).length) → (Pd.pick [0, 1] l).length = (["_law_pot_here", "_law_one_here"] : List PySem.Str).length := fun l h => match l, h with | [_, _], _ => rfl
theorem b__law_set_0 {K : PySem.W.Frag} {f : Addr} {fd : FuncData} (D : FunD K "_law_set" "_law_set" (defArgs s__law_set) (defBody s__law_set) (defScope s__law_set) [] [] f fd) : Pd.Bt K fd ["_law_pot_here", "_law_many"] 2 [] [] [0, 1] :=
  Pd.bt0 D fun _ _ _ _ _ _ us ws h1 h2 => match us, h1, ws, h2 with | [_, _], _, [], _ => rfl
theorem bl_b__law_set_0 : ∀ l : List Nat, l.length = 2 + (([] : List PySem.Str).length + ([] : List Value).length) → (Pd.pick [0, 1] l).length = (["_law_pot_here", "_law_many"] : List PySem.Str).length := fun l h => match l, h with | [_, _], _ => rfl
theorem b__law_hull_0 {K : PySem.W.Frag} {f : Addr} {fd : FuncData} (D : FunD K "_law_hull" "_law_hull" (defArgs s__law_hull) (defBody s__law_hull) (defScope s__law_hull) [] [] f fd) : Pd.Bt K fd ["_law_one_here"] 1 [] [] [0] :=
  Pd.bt0 D fun _ _ _ _ _ _ us ws h1 h2 => match us, h1, ws, h2 with | [_], _, [], _ => rfl
theorem bl_b__law_hull_0 : ∀ l : List Nat, l.length = 1 + (([] : List PySem.Str).length + ([] : List Value).length) → (Pd.pick [0] l).length = (["_law_one_here"] : List PySem.Str).length := fun l h => match l, h with | [_], _ => rfl
theorem b_parts_of_one_0 {K : PySem.W.Frag} {f : Addr} {fd : FuncData} (D : FunD K "parts_of_one" "parts_of_one" (defArgs s_parts_of_one) (defBody s_parts_of_one) (defScope s_parts_of_one) [] [] f fd) : Pd.Bt K fd ["bits"] 1 [] [] [0] :=
  Pd.bt0 D fun _ _ _ _ _ _ us ws h1 h2 => match us, h1, ws, h2 with | [_], _, [], _ => rfl
theorem bl_b_parts_of_one_0 : ∀ l : List Nat, l.length = 1 + (([] : List PySem.Str).length + ([] : List Value).length) → (Pd.pick [0] l).length = (["bits"] : List PySem.Str).length := fun l h => match l, h with | [_], _ => rfl
theorem b_rounded_middle_0 {K : PySem.W.Frag} {f : Addr} {fd : FuncData} (D : FunD K "rounded_middle" "rounded_middle" (defArgs s_rounded_middle) (defBody s_rounded_middle) (defScope s_rounded_middle) [] [] f fd) : Pd.Bt K fd ["interval", "bits"] 2 [] [] [0, 1] :=
  Pd.bt0 D fun _ _ _ _ _ _ us ws h1 h2 => match us, h1, ws, h2 with | [_, _], _, [], _ => rfl
theorem bl_b_rounded_middle_0 : ∀ l : List Nat, l.length = 2 + (([] : List PySem.Str).length + ([] : List Value).length) → (Pd.pick [0, 1] l).length = (["interval", "bits"] : List PySem.Str).length := fun l h => match l, h with | [_, _], _ => rfl
theorem b_is_rows_of_intervals_0 {K : PySem.W.Frag} {f : Addr} {fd : FuncData} (D : FunD K "is_rows_of_intervals" "is_rows_of_intervals" (defArgs s_is_rows_of_intervals) (defBody s_is_rows_of_intervals) (defScope s_is_rows_of_intervals) [] [] f fd) : Pd.Bt K fd ["value"] 1 [] [] [0] :=
  Pd.bt0 D fun _ _ _ _ _ _ us ws h1 h2 => match us, h1, ws, h2 with | [_], _, [], _ => rfl
theorem bl_b_is_rows_of_intervals_0 : ∀ l : List Nat, l.length = 1 + (([] : List PySem.Str).length + ([] : List Value).length) → (Pd.pick [0] l).length = (["value"] : List PySem.Str).length := fun l h => match l, h with | [_], _ => rfl
theorem b_is_count_0 {K : PySem.W.Frag} {f : Addr} {fd : FuncData} (D : FunD K "is_count" "is_count" (defArgs s_is_count) (defBody s_is_count) (defScope s_is_count) [] [] f fd) : Pd.Bt K fd ["value"] 1 [] [] [0] :=
  Pd.bt0 D fun _ _ _ _ _ _ us ws h1 h2 => match us, h1, ws, h2 with | [_], _, [], _ => rfl
theorem bl_b_is_count_0 : ∀ l : List Nat, l.length = 1 + (([] : List PySem.Str).length + ([] : List Value).length) → (Pd.pick [0] l).length = (["value"] : List PySem.Str).length := fun l h => match l, h with | [_], _ => rfl
theorem b_rounded_rows_0 {K : PySem.W.Frag} {f : Addr} {fd : FuncData} (D : FunD K "rounded_rows" "rounded_rows" (defArgs s_rounded_rows) (defBody s_rounded_rows) (defScope s_rounded_rows) [] [] f fd) : Pd.Bt K fd ["rows", "bits"] 2 [] [] [0, 1] :=
  Pd.bt0 D fun _ _ _ _ _ _ us ws h1 h2 => match us, h1, ws, h2 with | [_, _], _, [], _ => rfl
theorem bl_b_rounded_rows_0 : ∀ l : List Nat, l.length = 2 + (([] : List PySem.Str).length + ([] : List Value).length) → (Pd.pick [0, 1] l).length = (["rows", "bits"] : List PySem.Str).length := fun l h => match l, h with | [_, _], _ => rfl
theorem b__law_rounded_0 {K : PySem.W.Frag} {f : Addr} {fd : FuncData} (D : FunD K "_law_rounded" "_law_rounded" (defArgs s__law_rounded) (defBody s__law_rounded) (defScope s__law_rounded) [] [] f fd) : Pd.Bt K fd ["_law_interval", "_law_bits"] 2 [] [] [0, 1] :=
  Pd.bt0 D fun _ _ _ _ _ _ us ws h1 h2 => match us, h1, ws, h2 with | [_, _], _, [], _ => rfl
theorem bl_b__law_rounded_0 : ∀ l : List Nat, l.length = 2 + (([] : List PySem.Str).length + ([] : List Value).length) → (Pd.pick [0, 1] l).length = (["_law_interval", "_law_bits"] : List PySem.Str).length := fun l h => match l, h with | [_, _], _ => rfl
theorem b_rounded_matrix_0 {K : PySem.W.Frag} {f : Addr} {fd : FuncData} (D : FunD K "rounded_matrix" "rounded_matrix" (defArgs s_rounded_matrix) (defBody s_rounded_matrix) (defScope s_rounded_matrix) [] [] f fd) : Pd.Bt K fd ["rows", "bits"] 2 [] [] [0, 1] :=
  Pd.bt0 D fun _ _ _ _ _ _ us ws h1 h2 => match us, h1, ws, h2 with | [_, _], _, [], _ => rfl
theorem bl_b_rounded_matrix_0 : ∀ l : List Nat, l.length = 2 + (([] : List PySem.Str).length + ([] : List Value).length) → (Pd.pick [0, 1] l).length = (["rows", "bits"] : List PySem.Str).length := fun l h => match l, h with | [_, _], _ => rfl
theorem b_rounded_matrix_1 {K : PySem.W.Frag} {f : Addr} {fd : FuncData} (D : FunD K "rounded_matrix" "rounded_matrix" (defArgs s_rounded_matrix) (defBody s_rounded_matrix) (defScope s_rounded_matrix) [] [] f fd) : Pd.Bt K fd ["rows", "bits"] 0 ["bits", "rows"] [] [1, 0] :=
  Pd.bt0 D fun _ _ _ _ _ _ us ws h1 h2 => match us, h1, ws, h2 with | [], _, [_, _], _ => rfl
theorem bl_b_rounded_matrix_1 : ∀ l : List Nat, l.length = 0 + ((["bits", "rows"] : List PySem.Str).length + ([] : List Value).length) → (Pd.pick [1, 0] l).length = (["rows", "bits"] : List PySem.Str).length := fun l h => match l, h with | [_, _], _ => rfl
theorem b__law_other_0 {K : PySem.W.Frag} {f : Addr} {fd : FuncData} (D : FunD K "_law_other" "_law_other" (defArgs s__law_other) (defBody s__law_other) (defScope s__law_other) [] [] f fd) : Pd.Bt K fd ["_law_pot_here", "_law_one_here"] 2 [] [] [0, 1] :=
  Pd.bt0 D fun _ _ _ _ _ _ us ws h1 h2 => match us, h1, ws, h2 with | [_, _], _, [], _ => rfl
theorem bl_b__law_other_0 : ∀ l : List Nat, l.length = 2 + (([] : List PySem.Str).length + ([] : List Value).length) → (Pd.pick [0, 1] l).length = (["_law_pot_here", "_law_one_here"] : List PySem.Str).length := fun l h => match l, h with | [_, _], _ => rfl
theorem b__law_within_0 {K : PySem.W.Frag} {f : Addr} {fd : FuncData} (D : FunD K "_law_within" "_law_within" (defArgs s__law_within) (defBody s__law_within) (defScope s__law_within) [] [] f fd) : Pd.Bt K fd ["_law_one_here", "_law_other_here"] 2 [] [] [0, 1] :=
  Pd.bt0 D fun _ _ _ _ _ _ us ws h1 h2 => match us, h1, ws, h2 with | [_, _], _, [], _ => rfl
theorem bl_b__law_within_0 : ∀ l : List Nat, l.length = 2 + (([] : List PySem.Str).length + ([] : List Value).length) → (Pd.pick [0, 1] l).length = (["_law_one_here", "_law_other_here"] : List PySem.Str).length := fun l h => match l, h with | [_, _], _ => rfl
theorem b_set_within_0 {K : PySem.W.Frag} {f : Addr} {fd : FuncData} (D : FunD K "set_within" "set_within" (defArgs s_set_within) (defBody s_set_within) (defScope s_set_within) [] [] f fd) : Pd.Bt K fd ["affine", "other"] 0 ["other", "affine"] [] [1, 0] :=
  Pd.bt0 D fun _ _ _ _ _ _ us ws h1 h2 => match us, h1, ws, h2 with | [], _, [_, _], _ => rfl
theorem bl_b_set_within_0 : ∀ l : List Nat, l.length = 0 + ((["other", "affine"] : List PySem.Str).length + ([] : List Value).length) → (Pd.pick [1, 0] l).length = (["affine", "other"] : List PySem.Str).length := fun l h => match l, h with | [_, _], _ => rfl
theorem b_set_within_1 {K : PySem.W.Frag} {f : Addr} {fd : FuncData} (D : FunD K "set_within" "set_within" (defArgs s_set_within) (defBody s_set_within) (defScope s_set_within) [] [] f fd) : Pd.Bt K fd ["affine", "other"] 2 [] [] [0, 1] :=
  Pd.bt0 D fun _ _ _ _ _ _ us ws h1 h2 => match us, h1, ws, h2 with | [_, _], _, [], _ => rfl
theorem bl_b_set_within_1 : ∀ l : List Nat, l.length = 2 + (([] : List PySem.Str).length + ([] : List Value).length) → (Pd.pick [0, 1] l).length = (["affine", "other"] : List PySem.Str).length := fun l h => match l, h with | [_, _], _ => rfl
theorem b_set_of_box_0 {K : PySem.W.Frag} {f : Addr} {fd : FuncData} (D : FunD K "set_of_box" "set_of_box" (defArgs s_set_of_box) (defBody s_set_of_box) (defScope s_set_of_box) [] [] f fd) : Pd.Bt K fd ["box"] 1 [] [] [0] :=
  Pd.bt0 D fun _ _ _ _ _ _ us ws h1 h2 => match us, h1, ws, h2 with | [_], _, [], _ => rfl
theorem bl_b_set_of_box_0 : ∀ l : List Nat, l.length = 1 + (([] : List PySem.Str).length + ([] : List Value).length) → (Pd.pick [0] l).length = (["box"] : List PySem.Str).length := fun l h => match l, h with | [_], _ => rfl
theorem b_set_hull_0 {K : PySem.W.Frag} {f : Addr} {fd : FuncData} (D : FunD K "set_hull" "set_hull" (defArgs s_set_hull) (defBody s_set_hull) (defScope s_set_hull) [] [] f fd) : Pd.Bt K fd ["affine"] 1 [] [] [0] :=
  Pd.bt0 D fun _ _ _ _ _ _ us ws h1 h2 => match us, h1, ws, h2 with | [_], _, [], _ => rfl
theorem bl_b_set_hull_0 : ∀ l : List Nat, l.length = 1 + (([] : List PySem.Str).length + ([] : List Value).length) → (Pd.pick [0] l).length = (["affine"] : List PySem.Str).length := fun l h => match l, h with | [_], _ => rfl
theorem b__law_rounded_right_0 {K : PySem.W.Frag} {f : Addr} {fd : FuncData} (D : FunD K "_law_rounded_right" "_law_rounded_right" (defArgs s__law_rounded_right) (defBody s__law_rounded_right) (defScope s__law_rounded_right) [] [] f fd) : Pd.Bt K fd ["_law_pot_here"] 1 [] [] [0] :=
  Pd.bt0 D fun _ _ _ _ _ _ us ws h1 h2 => match us, h1, ws, h2 with | [_], _, [], _ => rfl
theorem bl_b__law_rounded_right_0 : ∀ l : List Nat, l.length = 1 + (([] : List PySem.Str).length + ([] : List Value).length) → (Pd.pick [0] l).length = (["_law_pot_here"] : List PySem.Str).length := fun l h => match l, h with | [_], _ => rfl
theorem b__law_pot_0 {K : PySem.W.Frag} {f : Addr} {fd : FuncData} (D : FunD K "_law_pot" "_law_pot" (defArgs s__law_pot) (defBody s__law_pot) (defScope s__law_pot) [] [] f fd) : Pd.Bt K fd ["_law_script", "_law_k"] 2 [] [] [0, 1] :=
  Pd.bt0 D fun _ _ _ _ _ _ us ws h1 h2 => match us, h1, ws, h2 with | [_, _], _, [], _ => rfl
theorem bl_b__law_pot_0 : ∀ l : List Nat, l.length = 2 + (([] : List PySem.Str).length + ([] : List Value).length) → (Pd.pick [0, 1] l).length = (["_law_script", "_law_k"] : List PySem.Str).length := fun l h => match l, h with | [_, _], _ => rfl
theorem b__law_right_0 {K : PySem.W.Frag} {f : Addr} {fd : FuncData} (D : FunD K "_law_right" "_law_right" (defArgs s__law_right) (defBody s__law_right) (defScope s__law_right) [] [] f fd) : Pd.Bt K fd ["_law_pot_here"] 1 [] [] [0] :=
  Pd.bt0 D fun _ _ _ _ _ _ us ws h1 h2 => match us, h1, ws, h2 with | [_], _, [], _ => rfl
section
variable {P : Program} {w : World} {K : PySem.W.Frag} {mg : Str → Option Value} {base : Heap}
theorem ok__law_pot (T : Tx K mg) : Pd.FnP P w K mg base 1 T.a__law_pot T.d__law_pot ["_law_script", "_law_k"] m__law_pot := by
  exact Pd.fnp T.D__law_pot sc__law_pot fun cdv A outer s H E F hr hg => (show PSDs _ F _ (defBody s__law_pot) r__law_pot from (psd_cons (psd_set 2 sc__law_pot.nd (pd_ife (pt_cmp1 od_lt (pd_var 1) (pd_B (cs_len) T.n_len (pad_cons (pd_var 0) pad_nil))) (pd_B (cs_abs) T.n_abs (pad_cons (pd_ix (pd_var 0) (pd_var 1)) pad_nil)) (pd_op od_add2 (pd_op od_mul pd_int (pd_var 1)) pd_int)))
    (psd_cons (psd_set 3 sc__law_pot.nd (pd_op od_add2 (pd_op od_mod (pd_Ty (cs_int) T.n_int (pad_cons (pd_op od_add2 (pd_op od_add2 (pd_op od_mul (pd_op od_mod (pd_Ty (cs_int) T.n_int (pad_cons (pd_var 2) pad_nil)) pd_int) pd_int) (pd_op od_mul pd_int (pd_var 1))) pd_int) pad_nil)) pd_int) pd_int))
    (psd_one (psd_retO (po_lst (pad_cons (pd_B (cs_max rfl) T.n_max (pad_cons pd_int (pad_cons (pd_op od_sub (pd_var 2) (pd_op od_pow pd_int pd_int)) pad_nil))) (pad_cons (pd_var 3) pad_nil)) (len_cons (len_cons len_nil))))))))
theorem ok_is_integer (T : Tx K mg) : Pd.FnP P w K mg base 1 T.a_is_integer T.d_is_integer ["value"] m_is_integer := by
  exact Pd.fnp T.D_is_integer sc_is_integer fun cdv A outer s H E F hr hg => (show PSDs _ F _ (defBody s_is_integer) r_is_integer from (psd_one (psd_ret (pd_and (pd_isi T.n_isinstance T.n_int (pd_var 0)) (pd_one (pd_not (pd_isi T.n_isinstance T.n_bool (pd_var 0))))))))
theorem ok_is_interval (T : Tx K mg) : Pd.FnP P w K mg base 2 T.a_is_interval T.d_is_interval ["value"] m_is_interval := by
  exact Pd.fnp T.D_is_interval sc_is_interval fun cdv A outer s H E F hr hg => (show PSDs _ F _ (defBody s_is_interval) r_is_interval from (psd_cons (psd_if (PWD.pt (pw_o (ptd_not (pt_bool (pd_isi T.n_isinstance T.n_tuple (pd_var 0)))) (pw_o (pt_cmp1 (od_ne hr) (pd_B (cs_len) T.n_len (pad_cons (pd_var 0) pad_nil)) pd_int) (pw_o (ptd_not (pt_bool (pd_call (takes_of rfl rfl rfl rfl) (ok_is_integer T) (hr.mono (by decide)) hg T.g_is_integer T.D_is_integer.kp (b_is_integer_0 T.D_is_integer) .nil (fun _ _ => rfl) (pae_d (pd_ix (pd_var 0) pd_int) pae_nil) pke_nil (lenE_cons lenE_nil) lenE_nil (bl_b_is_integer_0)))) (pw_o1 (ptd_not (pt_bool (pd_call (takes_of rfl rfl rfl rfl) (ok_is_integer T) (hr.mono (by decide)) hg T.g_is_integer T.D_is_integer.kp (b_is_integer_0 T.D_is_integer) .nil (fun _ _ => rfl) (pae_d (pd_ix (pd_var 0) pd_int) pae_nil) pke_nil (lenE_cons lenE_nil) lenE_nil (bl_b_is_integer_0))))))))) (psd_one (psd_ret pd_bl)) psd_nil)
    (psd_one (psd_ret (pd_chn (pd_op od_sub pd_int (pd_gint T.c_MOST_GRAINS)) (pcd_link od_le (pd_ix (pd_var 0) pd_int) (pcd_link od_le (pd_ix (pd_var 0) pd_int) (pcd_last od_le (pd_gint T.c_MOST_GRAINS)))))))))
theorem ok_is_box (T : Tx K mg) : Pd.FnP P w K mg base 3 T.a_is_box T.d_is_box ["value"] m_is_box := by
  exact Pd.fnp T.D_is_box sc_is_box fun cdv A outer s H E F hr hg => (show PSDs _ F _ (defBody s_is_box) r_is_box from (psd_one (psd_ret (pd_and (pd_isi T.n_isinstance T.n_tuple (pd_var 0)) (pd_and (pd_chn pd_int (pcd_link od_le (pd_B (cs_len) T.n_len (pad_cons (pd_var 0) pad_nil)) (pcd_last od_le (pd_gint T.c_MOST_LETTERS)))) (pd_one (pd_B (cs_all rfl) T.n_all (pad_cons (pd_frz (po_comp [("one", 1)] (.n 1) rfl sc_is_box.nd (pid_seq (pd_var 0)) (show BlkOk ["value", "one"] (defScope s_is_box) _ _ from ⟨rfl, by decide +kernel, by decide +kernel, by decide +kernel, by decide +kernel⟩) (by first | (simp [Pd.TgtIn]; done) | (simp [Pd.TgtIn, Pd.in1]; done) | (simp [Pd.TgtIn, Pd.in1]; omega)) (fun s_ H_ C_ cl_ fp_ => (pg_name sc_is_box.nd (i := 1) rfl (by first | exact Or.inl rfl | exact Or.inr rfl))) (fun F_ s_ H_ C_ cl_ fp_ => ptsd_nil) (fun F_ s_ H_ C_ cl_ fp_ => (pd_call tk_none (ok_is_interval T) (hr.mono (by decide)) hg T.g_is_interval T.D_is_interval.kp (b_is_interval_0 T.D_is_interval) .nil (fun _ _ => rfl) (pae_d (pd_var 1) pae_nil) pke_nil (lenE_cons lenE_nil) lenE_nil (bl_b_is_interval_0))))) pad_nil))))))))
theorem ok_want_box (T : Tx K mg) : Pd.FnP P w K mg base 4 T.a_want_box T.d_want_box ["value"] m_want_box := by
  exact Pd.fnp T.D_want_box sc_want_box fun cdv A outer s H E F hr hg => (show PSDs _ F _ (defBody s_want_box) r_want_box from (psd_cons (psd_if (ptd_not (pt_bool (pd_call (takes_of rfl rfl rfl rfl) (ok_is_box T) (hr.mono (by decide)) hg T.g_is_box T.D_is_box.kp (b_is_box_0 T.D_is_box) .nil (fun _ _ => rfl) (pae_d (pd_var 0) pae_nil) pke_nil (lenE_cons lenE_nil) lenE_nil (bl_b_is_box_0)))) (psd_one psd_never) psd_nil)
    (psd_one (psd_ret (pd_var 0)))))
theorem ok_made_ratio (T : Tx K mg) : Pd.FnP P w K mg base 1 T.a_made_ratio T.d_made_ratio ["number", "under"] m_made_ratio := by
  exact Pd.fnp T.D_made_ratio sc_made_ratio fun cdv A outer s H E F hr hg => (show PSDs _ F _ (defBody s_made_ratio) r_made_ratio from (psd_cons (psd_set 2 sc_made_ratio.nd (pd_Bm (cs_gcd) T.i_gcd (pad_cons (pd_var 0) (pad_cons (pd_var 1) pad_nil))))
    (psd_cons (psd_if (pt_cmp1 od_lt (pd_var 1) pd_int) (psd_one (psd_set 2 sc_made_ratio.nd (pd_op od_sub pd_int (pd_var 2)))) psd_nil)
    (psd_one (psd_ret (pd_tup (pad_cons (pd_op od_div (pd_var 0) (pd_var 2)) (pad_cons (pd_op od_div (pd_var 1) (pd_var 2)) pad_nil)) (len_cons (len_cons len_nil))))))))
theorem ok_unit_of (T : Tx K mg) : Pd.FnP P w K mg base 1 T.a_unit_of T.d_unit_of ["many"] m_unit_of := by
  exact Pd.fnp T.D_unit_of sc_unit_of fun cdv A outer s H E F hr hg => (show PSDs _ F _ (defBody s_unit_of) r_unit_of from (psd_one (psd_ret (pd_tupOf T.n_tuple (pad_cons (pd_frz (po_comp [("at", 2)] (.n 2) rfl sc_unit_of.nd (pid_rng1 T.n_range (pad_cons (pd_var 0) pad_nil)) (show BlkOk ["many", "place", "at"] (defScope s_unit_of) _ _ from ⟨rfl, by decide +kernel, by decide +kernel, by decide +kernel, by decide +kernel⟩) (by first | (simp [Pd.TgtIn]; done) | (simp [Pd.TgtIn, Pd.in1]; done) | (simp [Pd.TgtIn, Pd.in1]; omega)) (fun s_ H_ C_ cl_ fp_ => (pg_name sc_unit_of.nd (i := 2) rfl (by first | exact Or.inl rfl | exact Or.inr rfl))) (fun F_ s_ H_ C_ cl_ fp_ => ptsd_nil) (fun F_ s_ H_ C_ cl_ fp_ => (pd_tupOf T.n_tuple (pad_cons (pd_frz (po_comp [("place", 1)] (.n 1) rfl sc_unit_of.nd (pid_rng1 T.n_range (pad_cons (pd_var 0) pad_nil)) (Pd.blk_relabel (show BlkOk ["many", "place", "at"] ({ kind := PySem.ScopeKind.function, names := [ (PySem.Str.ofString ".0", PySem.NameKind.local), (PySem.Str.ofString "at", PySem.NameKind.cell), (PySem.Str.ofString "tuple", PySem.NameKind.globalImplicit), (PySem.Str.ofString "range", PySem.NameKind.globalImplicit), (PySem.Str.ofString "many", PySem.NameKind.free)], isGenerator := false, isCoroutine := false, more := [] : PySem.Scope }) ({ kind := PySem.ScopeKind.function, names := [ (PySem.Str.ofString ".0", PySem.NameKind.local), (PySem.Str.ofString "place", PySem.NameKind.local), (PySem.Str.ofString "WHOLE", PySem.NameKind.globalImplicit), (PySem.Str.ofString "NOUGHT", PySem.NameKind.globalImplicit), (PySem.Str.ofString "at", PySem.NameKind.free)], isGenerator := false, isCoroutine := false, more := [] : PySem.Scope }) [("place", 1)] from ⟨rfl, by decide +kernel, by decide +kernel, by decide +kernel, by decide +kernel⟩)) (by first | (simp [Pd.TgtIn]; done) | (simp [Pd.TgtIn, Pd.in1]; done) | (simp [Pd.TgtIn, Pd.in1]; omega)) (fun s_ H_ C_ cl_ fp_ => (pg_name sc_unit_of.nd (i := 1) rfl (by first | exact Or.inl rfl | exact Or.inr rfl))) (fun F_ s_ H_ C_ cl_ fp_ => ptsd_nil) (fun F_ s_ H_ C_ cl_ fp_ => (pd_ife (pt_cmp1 (od_eq hr) (pd_var 1) (pd_var 2)) (pd_gtup T.t_WHOLE) (pd_gtup T.t_NOUGHT))))) pad_nil))))) pad_nil)))))
theorem ok_box_as_set (T : Tx K mg) : Pd.FnP P w K mg base 2 T.a_box_as_set T.d_box_as_set ["box"] m_box_as_set := by
  exact Pd.fnp T.D_box_as_set sc_box_as_set fun cdv A outer s H E F hr hg => (show PSDs _ F _ (defBody s_box_as_set) r_box_as_set from (psd_cons (psd_setC 1 [("low", 2), ("high", 3)] (.t [2, 3]) rfl sc_box_as_set.nd (pid_seq (pd_var 0)) (show BlkOk ["box", "middles", "low", "high", "left", "at"] (defScope s_box_as_set) _ _ from ⟨rfl, by decide +kernel, by decide +kernel, by decide +kernel, by decide +kernel⟩) (by first | (simp [Pd.TgtIn]; done) | (simp [Pd.TgtIn, Pd.in1]; done) | (simp [Pd.TgtIn, Pd.in1]; omega)) (fun s_ H_ C_ cl_ fp_ => (pg_tup rfl (pgts_cons (i := 2) sc_box_as_set.nd (pgts_cons (i := 3) sc_box_as_set.nd pgts_nil)))) (fun F_ s_ H_ C_ cl_ fp_ => ptsd_nil) (fun F_ s_ H_ C_ cl_ fp_ => (pd_op od_div (pd_op od_add2 (pd_var 2) (pd_var 3)) pd_int)) (sw_true rfl rfl rfl (by decide +kernel)))
    (psd_cons (psd_set 4 sc_box_as_set.nd (pd_tupOf T.n_tuple (pad_cons (pd_frz (po_comp [("low", 2), ("high", 3), ("at", 5)] (.m [.t [2, 3], .n 5]) rfl sc_box_as_set.nd (pid_zipB T.n_zip (pad_cons (pd_var 0) (pad_cons (pd_var 1) pad_nil))) (show BlkOk ["box", "middles", "low", "high", "left", "at"] (defScope s_box_as_set) _ _ from ⟨rfl, by decide +kernel, by decide +kernel, by decide +kernel, by decide +kernel⟩) (by first | (simp [Pd.TgtIn]; done) | (simp [Pd.TgtIn, Pd.in1]; done) | (simp [Pd.TgtIn, Pd.in1]; omega)) (fun s_ H_ C_ cl_ fp_ => (pg_tup rfl (pgms_t rfl (pgts_cons (i := 2) sc_box_as_set.nd (pgts_cons (i := 3) sc_box_as_set.nd pgts_nil)) (pgms_n (i := 5) sc_box_as_set.nd pgms_nil)))) (fun F_ s_ H_ C_ cl_ fp_ => ptsd_nil) (fun F_ s_ H_ C_ cl_ fp_ => (pd_tup (pad_cons (pd_op od_sub (pd_var 2) (pd_var 5)) (pad_cons (pd_op od_sub (pd_var 3) (pd_var 5)) pad_nil)) (len_cons (len_cons len_nil)))))) pad_nil)))
    (psd_one (psd_ret (pd_tup (pad_cons (pd_gstr T.c_WORD) (pad_cons (pd_tupOf T.n_tuple (pad_cons (pd_frz (po_comp [("at", 5)] (.n 5) rfl sc_box_as_set.nd (pid_seq (pd_var 1)) (show BlkOk ["box", "middles", "low", "high", "left", "at"] (defScope s_box_as_set) _ _ from ⟨rfl, by decide +kernel, by decide +kernel, by decide +kernel, by decide +kernel⟩) (by first | (simp [Pd.TgtIn]; done) | (simp [Pd.TgtIn, Pd.in1]; done) | (simp [Pd.TgtIn, Pd.in1]; omega)) (fun s_ H_ C_ cl_ fp_ => (pg_name sc_box_as_set.nd (i := 5) rfl (by first | exact Or.inl rfl | exact Or.inr rfl))) (fun F_ s_ H_ C_ cl_ fp_ => ptsd_nil) (fun F_ s_ H_ C_ cl_ fp_ => (pd_call tk_none (ok_made_ratio T) (hr.mono (by decide)) hg T.g_made_ratio T.D_made_ratio.kp (b_made_ratio_0 T.D_made_ratio) .nil (fun _ _ => rfl) (pae_d (pd_var 5) (pae_d (pd_gint T.c_ONE) pae_nil)) pke_nil (lenE_cons (lenE_cons lenE_nil)) lenE_nil (bl_b_made_ratio_0))))) pad_nil)) (pad_cons (pd_call (takes_of rfl rfl rfl rfl) (ok_unit_of T) (hr.mono (by decide)) hg T.g_unit_of T.D_unit_of.kp (b_unit_of_0 T.D_unit_of) .nil (fun _ _ => rfl) (pae_d (pd_B (cs_len) T.n_len (pad_cons (pd_var 0) pad_nil)) pae_nil) pke_nil (lenE_cons lenE_nil) lenE_nil (bl_b_unit_of_0)) (pad_cons (pd_var 4) pad_nil)))) (len_cons (len_cons (len_cons (len_cons len_nil))))))))))
theorem ok_set_of_box (T : Tx K mg) : Pd.FnP P w K mg base 5 T.a_set_of_box T.d_set_of_box ["box"] m_set_of_box := by
  exact Pd.fnp T.D_set_of_box sc_set_of_box fun cdv A outer s H E F hr hg => (show PSDs _ F _ (defBody s_set_of_box) r_set_of_box from (psd_cons (psd_expr (pd_call (takes_of rfl rfl rfl rfl) (ok_want_box T) (hr.mono (by decide)) hg T.g_want_box T.D_want_box.kp (b_want_box_0 T.D_want_box) .nil (fun _ _ => rfl) (pae_d (pd_var 0) pae_nil) pke_nil (lenE_cons lenE_nil) lenE_nil (bl_b_want_box_0)))
    (psd_one (psd_ret (pd_call (takes_of rfl rfl rfl rfl) (ok_box_as_set T) (hr.mono (by decide)) hg T.g_box_as_set T.D_box_as_set.kp (b_box_as_set_0 T.D_box_as_set) .nil (fun _ _ => rfl) (pae_d (pd_var 0) pae_nil) pke_nil (lenE_cons lenE_nil) lenE_nil (bl_b_box_as_set_0))))))
theorem ok_is_ratio (T : Tx K mg) : Pd.FnP P w K mg base 2 T.a_is_ratio T.d_is_ratio ["value"] m_is_ratio := by
  exact Pd.fnp T.D_is_ratio sc_is_ratio fun cdv A outer s H E F hr hg => (show PSDs _ F _ (defBody s_is_ratio) r_is_ratio from (psd_cons (psd_if (PWD.pt (pw_o (ptd_not (pt_bool (pd_isi T.n_isinstance T.n_tuple (pd_var 0)))) (pw_o (pt_cmp1 (od_ne hr) (pd_B (cs_len) T.n_len (pad_cons (pd_var 0) pad_nil)) pd_int) (pw_o (ptd_not (pt_bool (pd_call (takes_of rfl rfl rfl rfl) (ok_is_integer T) (hr.mono (by decide)) hg T.g_is_integer T.D_is_integer.kp (b_is_integer_0 T.D_is_integer) .nil (fun _ _ => rfl) (pae_d (pd_ix (pd_var 0) pd_int) pae_nil) pke_nil (lenE_cons lenE_nil) lenE_nil (bl_b_is_integer_0)))) (pw_o1 (ptd_not (pt_bool (pd_call (takes_of rfl rfl rfl rfl) (ok_is_integer T) (hr.mono (by decide)) hg T.g_is_integer T.D_is_integer.kp (b_is_integer_0 T.D_is_integer) .nil (fun _ _ => rfl) (pae_d (pd_ix (pd_var 0) pd_int) pae_nil) pke_nil (lenE_cons lenE_nil) lenE_nil (bl_b_is_integer_0))))))))) (psd_one (psd_ret pd_bl)) psd_nil)
    (psd_one (psd_ret (pd_and (pd_cmp od_ge (pd_ix (pd_var 0) pd_int) pd_int) (pd_one (pd_cmp (od_eq hr) (pd_Bm (cs_gcd) T.i_gcd (pad_cons (pd_ix (pd_var 0) pd_int) (pad_cons (pd_ix (pd_var 0) pd_int) pad_nil))) pd_int)))))))
theorem ok_is_point (T : Tx K mg) : Pd.FnP P w K mg base 3 T.a_is_point T.d_is_point ["value"] m_is_point := by
  exact Pd.fnp T.D_is_point sc_is_point fun cdv A outer s H E F hr hg => (show PSDs _ F _ (defBody s_is_point) r_is_point from (psd_one (psd_ret (pd_and (pd_isi T.n_isinstance T.n_tuple (pd_var 0)) (pd_and (pd_chn pd_int (pcd_link od_le (pd_B (cs_len) T.n_len (pad_cons (pd_var 0) pad_nil)) (pcd_last od_le (pd_gint T.c_MOST_LETTERS)))) (pd_one (pd_B (cs_all rfl) T.n_all (pad_cons (pd_frz (po_comp [("one", 1)] (.n 1) rfl sc_is_point.nd (pid_seq (pd_var 0)) (show BlkOk ["value", "one"] (defScope s_is_point) _ _ from ⟨rfl, by decide +kernel, by decide +kernel, by decide +kernel, by decide +kernel⟩) (by first | (simp [Pd.TgtIn]; done) | (simp [Pd.TgtIn, Pd.in1]; done) | (simp [Pd.TgtIn, Pd.in1]; omega)) (fun s_ H_ C_ cl_ fp_ => (pg_name sc_is_point.nd (i := 1) rfl (by first | exact Or.inl rfl | exact Or.inr rfl))) (fun F_ s_ H_ C_ cl_ fp_ => ptsd_nil) (fun F_ s_ H_ C_ cl_ fp_ => (pd_call tk_none (ok_is_ratio T) (hr.mono (by decide)) hg T.g_is_ratio T.D_is_ratio.kp (b_is_ratio_0 T.D_is_ratio) .nil (fun _ _ => rfl) (pae_d (pd_var 1) pae_nil) pke_nil (lenE_cons lenE_nil) lenE_nil (bl_b_is_ratio_0))))) pad_nil))))))))
theorem ok_is_row (T : Tx K mg) : Pd.FnP P w K mg base 3 T.a_is_row T.d_is_row ["value"] m_is_row := by
  exact Pd.fnp T.D_is_row sc_is_row fun cdv A outer s H E F hr hg => (show PSDs _ F _ (defBody s_is_row) r_is_row from (psd_one (psd_ret (pd_and (pd_isi T.n_isinstance T.n_tuple (pd_var 0)) (pd_and (pd_chn pd_int (pcd_link od_le (pd_B (cs_len) T.n_len (pad_cons (pd_var 0) pad_nil)) (pcd_last od_le (pd_gint T.c_MOST_ROWS)))) (pd_one (pd_B (cs_all rfl) T.n_all (pad_cons (pd_frz (po_comp [("one", 1)] (.n 1) rfl sc_is_row.nd (pid_seq (pd_var 0)) (show BlkOk ["value", "one"] (defScope s_is_row) _ _ from ⟨rfl, by decide +kernel, by decide +kernel, by decide +kernel, by decide +kernel⟩) (by first | (simp [Pd.TgtIn]; done) | (simp [Pd.TgtIn, Pd.in1]; done) | (simp [Pd.TgtIn, Pd.in1]; omega)) (fun s_ H_ C_ cl_ fp_ => (pg_name sc_is_row.nd (i := 1) rfl (by first | exact Or.inl rfl | exact Or.inr rfl))) (fun F_ s_ H_ C_ cl_ fp_ => ptsd_nil) (fun F_ s_ H_ C_ cl_ fp_ => (pd_call tk_none (ok_is_ratio T) (hr.mono (by decide)) hg T.g_is_ratio T.D_is_ratio.kp (b_is_ratio_0 T.D_is_ratio) .nil (fun _ _ => rfl) (pae_d (pd_var 1) pae_nil) pke_nil (lenE_cons lenE_nil) lenE_nil (bl_b_is_ratio_0))))) pad_nil))))))))
theorem ok_is_matrix (T : Tx K mg) : Pd.FnP P w K mg base 4 T.a_is_matrix T.d_is_matrix ["value"] m_is_matrix := by
  exact Pd.fnp T.D_is_matrix sc_is_matrix fun cdv A outer s H E F hr hg => (show PSDs _ F _ (defBody s_is_matrix) r_is_matrix from (psd_cons (psd_if (PWD.pt (pw_o (ptd_not (pt_bool (pd_isi T.n_isinstance T.n_tuple (pd_var 0)))) (pw_o1 (ptd_not (pt_chn pd_int (pcd_link od_le (pd_B (cs_len) T.n_len (pad_cons (pd_var 0) pad_nil)) (pcd_last od_le (pd_gint T.c_MOST_ROWS)))))))) (psd_one (psd_ret pd_bl)) psd_nil)
    (psd_one (psd_ret (pd_and (pd_B (cs_all rfl) T.n_all (pad_cons (pd_frz (po_comp [("row", 1)] (.n 1) rfl sc_is_matrix.nd (pid_seq (pd_var 0)) (show BlkOk ["value", "row"] (defScope s_is_matrix) _ _ from ⟨rfl, by decide +kernel, by decide +kernel, by decide +kernel, by decide +kernel⟩) (by first | (simp [Pd.TgtIn]; done) | (simp [Pd.TgtIn, Pd.in1]; done) | (simp [Pd.TgtIn, Pd.in1]; omega)) (fun s_ H_ C_ cl_ fp_ => (pg_name sc_is_matrix.nd (i := 1) rfl (by first | exact Or.inl rfl | exact Or.inr rfl))) (fun F_ s_ H_ C_ cl_ fp_ => ptsd_nil) (fun F_ s_ H_ C_ cl_ fp_ => (pd_call tk_none (ok_is_row T) (hr.mono (by decide)) hg T.g_is_row T.D_is_row.kp (b_is_row_0 T.D_is_row) .nil (fun _ _ => rfl) (pae_d (pd_var 1) pae_nil) pke_nil (lenE_cons lenE_nil) lenE_nil (bl_b_is_row_0))))) pad_nil)) (pd_one (pd_B (cs_all rfl) T.n_all (pad_cons (pd_frz (po_comp [("row", 1)] (.n 1) rfl sc_is_matrix.nd (pid_seq (pd_var 0)) (show BlkOk ["value", "row"] (defScope s_is_matrix) _ _ from ⟨rfl, by decide +kernel, by decide +kernel, by decide +kernel, by decide +kernel⟩) (by first | (simp [Pd.TgtIn]; done) | (simp [Pd.TgtIn, Pd.in1]; done) | (simp [Pd.TgtIn, Pd.in1]; omega)) (fun s_ H_ C_ cl_ fp_ => (pg_name sc_is_matrix.nd (i := 1) rfl (by first | exact Or.inl rfl | exact Or.inr rfl))) (fun F_ s_ H_ C_ cl_ fp_ => ptsd_nil) (fun F_ s_ H_ C_ cl_ fp_ => (pd_cmp (od_eq hr) (pd_B (cs_len) T.n_len (pad_cons (pd_var 1) pad_nil)) (pd_B (cs_len) T.n_len (pad_cons (pd_ix (pd_var 0) pd_int) pad_nil)))))) pad_nil))))))))
theorem ok_inverse_ratio (T : Tx K mg) : Pd.FnP P w K mg base 2 T.a_inverse_ratio T.d_inverse_ratio ["ratio"] m_inverse_ratio := by
  exact Pd.fnp T.D_inverse_ratio sc_inverse_ratio fun cdv A outer s H E F hr hg => (show PSDs _ F _ (defBody s_inverse_ratio) r_inverse_ratio from (psd_one (psd_ret (pd_call (takes_of rfl rfl rfl rfl) (ok_made_ratio T) (hr.mono (by decide)) hg T.g_made_ratio T.D_made_ratio.kp (b_made_ratio_0 T.D_made_ratio) .nil (fun _ _ => rfl) (pae_d (pd_ix (pd_var 0) pd_int) (pae_d (pd_ix (pd_var 0) pd_int) pae_nil)) pke_nil (lenE_cons (lenE_cons lenE_nil)) lenE_nil (bl_b_made_ratio_0)))))
theorem ok_mul_ratios (T : Tx K mg) : Pd.FnP P w K mg base 2 T.a_mul_ratios T.d_mul_ratios ["one", "other"] m_mul_ratios := by
  exact Pd.fnp T.D_mul_ratios sc_mul_ratios fun cdv A outer s H E F hr hg => (show PSDs _ F _ (defBody s_mul_ratios) r_mul_ratios from (psd_one (psd_ret (pd_call (takes_of rfl rfl rfl rfl) (ok_made_ratio T) (hr.mono (by decide)) hg T.g_made_ratio T.D_made_ratio.kp (b_made_ratio_0 T.D_made_ratio) .nil (fun _ _ => rfl) (pae_d (pd_op od_mul (pd_ix (pd_var 0) pd_int) (pd_ix (pd_var 1) pd_int)) (pae_d (pd_op od_mul (pd_ix (pd_var 0) pd_int) (pd_ix (pd_var 1) pd_int)) pae_nil)) pke_nil (lenE_cons (lenE_cons lenE_nil)) lenE_nil (bl_b_made_ratio_0)))))
theorem ok_row_times (T : Tx K mg) : Pd.FnP P w K mg base 3 T.a_row_times T.d_row_times ["row", "ratio"] m_row_times := by
  exact Pd.fnp T.D_row_times sc_row_times fun cdv A outer s H E F hr hg => (show PSDs _ F _ (defBody s_row_times) r_row_times from (psd_one (psd_ret (pd_tupOf T.n_tuple (pad_cons (pd_frz (po_comp [("one", 2)] (.n 2) rfl sc_row_times.nd (pid_seq (pd_var 0)) (show BlkOk ["row", "ratio", "one"] (defScope s_row_times) _ _ from ⟨rfl, by decide +kernel, by decide +kernel, by decide +kernel, by decide +kernel⟩) (by first | (simp [Pd.TgtIn]; done) | (simp [Pd.TgtIn, Pd.in1]; done) | (simp [Pd.TgtIn, Pd.in1]; omega)) (fun s_ H_ C_ cl_ fp_ => (pg_name sc_row_times.nd (i := 2) rfl (by first | exact Or.inl rfl | exact Or.inr rfl))) (fun F_ s_ H_ C_ cl_ fp_ => ptsd_nil) (fun F_ s_ H_ C_ cl_ fp_ => (pd_call tk_none (ok_mul_ratios T) (hr.mono (by decide)) hg T.g_mul_ratios T.D_mul_ratios.kp (b_mul_ratios_0 T.D_mul_ratios) .nil (fun _ _ => rfl) (pae_d (pd_var 2) (pae_d (pd_var 1) pae_nil)) pke_nil (lenE_cons (lenE_cons lenE_nil)) lenE_nil (bl_b_mul_ratios_0))))) pad_nil)))))
theorem ok_add_ratios (T : Tx K mg) : Pd.FnP P w K mg base 2 T.a_add_ratios T.d_add_ratios ["one", "other"] m_add_ratios := by
  exact Pd.fnp T.D_add_ratios sc_add_ratios fun cdv A outer s H E F hr hg => (show PSDs _ F _ (defBody s_add_ratios) r_add_ratios from (psd_one (psd_ret (pd_call (takes_of rfl rfl rfl rfl) (ok_made_ratio T) (hr.mono (by decide)) hg T.g_made_ratio T.D_made_ratio.kp (b_made_ratio_0 T.D_made_ratio) .nil (fun _ _ => rfl) (pae_d (pd_op od_add2 (pd_op od_mul (pd_ix (pd_var 0) pd_int) (pd_ix (pd_var 1) pd_int)) (pd_op od_mul (pd_ix (pd_var 1) pd_int) (pd_ix (pd_var 0) pd_int))) (pae_d (pd_op od_mul (pd_ix (pd_var 0) pd_int) (pd_ix (pd_var 1) pd_int)) pae_nil)) pke_nil (lenE_cons (lenE_cons lenE_nil)) lenE_nil (bl_b_made_ratio_0)))))
theorem ok_neg_ratio (T : Tx K mg) : Pd.FnP P w K mg base 1 T.a_neg_ratio T.d_neg_ratio ["ratio"] m_neg_ratio := by
  exact Pd.fnp T.D_neg_ratio sc_neg_ratio fun cdv A outer s H E F hr hg => (show PSDs _ F _ (defBody s_neg_ratio) r_neg_ratio from (psd_one (psd_ret (pd_tup (pad_cons (pd_op od_sub pd_int (pd_ix (pd_var 0) pd_int)) (pad_cons (pd_ix (pd_var 0) pd_int) pad_nil)) (len_cons (len_cons len_nil))))))
theorem ok_sub_ratios (T : Tx K mg) : Pd.FnP P w K mg base 3 T.a_sub_ratios T.d_sub_ratios ["one", "other"] m_sub_ratios := by
  exact Pd.fnp T.D_sub_ratios sc_sub_ratios fun cdv A outer s H E F hr hg => (show PSDs _ F _ (defBody s_sub_ratios) r_sub_ratios from (psd_one (psd_ret (pd_call (takes_of rfl rfl rfl rfl) (ok_add_ratios T) (hr.mono (by decide)) hg T.g_add_ratios T.D_add_ratios.kp (b_add_ratios_0 T.D_add_ratios) .nil (fun _ _ => rfl) (pae_d (pd_var 0) (pae_d (pd_call (takes_of rfl rfl rfl rfl) (ok_neg_ratio T) (hr.mono (by decide)) hg T.g_neg_ratio T.D_neg_ratio.kp (b_neg_ratio_0 T.D_neg_ratio) .nil (fun _ _ => rfl) (pae_d (pd_var 1) pae_nil) pke_nil (lenE_cons lenE_nil) lenE_nil (bl_b_neg_ratio_0)) pae_nil)) pke_nil (lenE_cons (lenE_cons lenE_nil)) lenE_nil (bl_b_add_ratios_0)))))
theorem ok_row_less (T : Tx K mg) : Pd.FnP P w K mg base 4 T.a_row_less T.d_row_less ["row", "other", "often"] m_row_less := by
  exact Pd.fnp T.D_row_less sc_row_less fun cdv A outer s H E F hr hg => (show PSDs _ F _ (defBody s_row_less) r_row_less from (psd_one (psd_ret (pd_tupOf T.n_tuple (pad_cons (pd_frz (po_comp [("one", 3), ("late", 4)] (.t [3, 4]) rfl sc_row_less.nd (pid_zipB T.n_zip (pad_cons (pd_var 0) (pad_cons (pd_var 1) pad_nil))) (show BlkOk ["row", "other", "often", "one", "late"] (defScope s_row_less) _ _ from ⟨rfl, by decide +kernel, by decide +kernel, by decide +kernel, by decide +kernel⟩) (by first | (simp [Pd.TgtIn]; done) | (simp [Pd.TgtIn, Pd.in1]; done) | (simp [Pd.TgtIn, Pd.in1]; omega)) (fun s_ H_ C_ cl_ fp_ => (pg_tup rfl (pgts_cons (i := 3) sc_row_less.nd (pgts_cons (i := 4) sc_row_less.nd pgts_nil)))) (fun F_ s_ H_ C_ cl_ fp_ => ptsd_nil) (fun F_ s_ H_ C_ cl_ fp_ => (pd_call tk_none (ok_sub_ratios T) (hr.mono (by decide)) hg T.g_sub_ratios T.D_sub_ratios.kp (b_sub_ratios_0 T.D_sub_ratios) .nil (fun _ _ => rfl) (pae_d (pd_var 3) (pae_d (pd_call tk_none (ok_mul_ratios T) (hr.mono (by decide)) hg T.g_mul_ratios T.D_mul_ratios.kp (b_mul_ratios_0 T.D_mul_ratios) .nil (fun _ _ => rfl) (pae_d (pd_var 4) (pae_d (pd_var 2) pae_nil)) pke_nil (lenE_cons (lenE_cons lenE_nil)) lenE_nil (bl_b_mul_ratios_0)) pae_nil)) pke_nil (lenE_cons (lenE_cons lenE_nil)) lenE_nil (bl_b_sub_ratios_0))))) pad_nil)))))
theorem ok_row_with (T : Tx K mg) : Pd.FnP P w K mg base 1 T.a_row_with T.d_row_with ["rows", "place", "begin"] m_row_with := by
  exact Pd.fnp T.D_row_with sc_row_with fun cdv A outer s H E F hr hg => (show PSDs _ F _ (defBody s_row_with) r_row_with from (psd_cons (psd_for (passes_of rfl) rfl (pid_rng2 T.n_range (pad_cons (pd_var 2) (pad_cons (pd_B (cs_len) T.n_len (pad_cons (pd_var 0) pad_nil)) pad_nil))) (pgt_name sc_row_with.nd (i := 3)) (psd_one (psd_if (pt_cmp1 (od_ne hr) (pd_ix (pd_ix (pd_ix (pd_var 0) (pd_var 3)) (pd_var 1)) pd_int) pd_int) (psd_one (psd_ret (pd_var 3))) psd_nil)))
    (psd_one (psd_ret pd_non))))
theorem ok_exchanged (T : Tx K mg) : Pd.FnP P w K mg base 1 T.a_exchanged T.d_exchanged ["rows", "one", "other"] m_exchanged := by
  exact Pd.fnp T.D_exchanged sc_exchanged fun cdv A outer s H E F hr hg => (show PSDs _ F _ (defBody s_exchanged) r_exchanged from (psd_cons (psd_setO 3 sc_exchanged.nd (po_listOf T.n_list (pad_cons (pd_var 0) pad_nil)))
    (psd_cons (psd_setI2 3 rfl (pd_tup (pad_cons (pd_ix (pd_var 0) (pd_var 2)) (pad_cons (pd_ix (pd_var 0) (pd_var 1)) pad_nil)) (len_cons (len_cons len_nil))) (pd_var 1) (pd_var 2))
    (psd_one (psd_retV 3)))))
theorem ok_inverse_of (T : Tx K mg) : Pd.FnP P w K mg base 5 T.a_inverse_of T.d_inverse_of ["matrix"] m_inverse_of := by
  exact Pd.fnp T.D_inverse_of sc_inverse_of fun cdv A outer s H E F hr hg => (show PSDs _ F _ (defBody s_inverse_of) r_inverse_of from (psd_cons (psd_asg (pd_tup (pad_cons (pd_B (cs_len) T.n_len (pad_cons (pd_var 0) pad_nil)) (pad_cons (pd_call (takes_of rfl rfl rfl rfl) (ok_unit_of T) (hr.mono (by decide)) hg T.g_unit_of T.D_unit_of.kp (b_unit_of_0 T.D_unit_of) .nil (fun _ _ => rfl) (pae_d (pd_B (cs_len) T.n_len (pad_cons (pd_var 0) pad_nil)) pae_nil) pke_nil (lenE_cons lenE_nil) lenE_nil (bl_b_unit_of_0)) pad_nil)) (len_cons (len_cons len_nil))) (pgt_tup rfl (pgts_cons (i := 1) sc_inverse_of.nd (pgts_cons (i := 2) sc_inverse_of.nd pgts_nil))))
    (psd_cons (psd_setOC 3 [("at", 4), ("row", 5)] (.t [4, 5]) rfl sc_inverse_of.nd (pid_enum2 T.n_enumerate (pad_cons (pd_var 0) pad_nil)) (show BlkOk ["matrix", "many", "unit", "rows", "at", "row", "place", "late"] (defScope s_inverse_of) _ _ from ⟨rfl, by decide +kernel, by decide +kernel, by decide +kernel, by decide +kernel⟩) (by first | (simp [Pd.TgtIn]; done) | (simp [Pd.TgtIn, Pd.in1]; done) | (simp [Pd.TgtIn, Pd.in1]; omega)) (fun s_ H_ C_ cl_ fp_ => (pg_tup rfl (pgts_cons (i := 4) sc_inverse_of.nd (pgts_cons (i := 5) sc_inverse_of.nd pgts_nil)))) (fun F_ s_ H_ C_ cl_ fp_ => ptsd_nil) (fun F_ s_ H_ C_ cl_ fp_ => (pd_op od_add2 (pd_var 5) (pd_ix (pd_var 2) (pd_var 4)))) (sw_true rfl rfl rfl (by decide +kernel)))
    (psd_cons (psd_for (passes_of rfl) rfl (pid_rng1 T.n_range (pad_cons (pd_var 1) pad_nil)) (pgt_name sc_inverse_of.nd (i := 6)) (psd_cons (psd_set 4 sc_inverse_of.nd (pd_lend (pd_call (takes_of rfl rfl rfl rfl) (ok_row_with T) (hr.mono (by decide)) hg T.g_row_with T.D_row_with.kp (b_row_with_0 T.D_row_with) .nil (fun _ _ => rfl) (pae_d (pd_var 3) (pae_d (pd_var 6) (pae_d (pd_var 6) pae_nil))) pke_nil (lenE_cons (lenE_cons (lenE_cons lenE_nil))) lenE_nil (bl_b_row_with_0))))
    (psd_cons (psd_if (pt_cmp1 od_is2 (pd_var 4) pd_non) (psd_one (psd_ret pd_non)) psd_nil)
    (psd_cons (psd_frz 3 (psd_setO 3 sc_inverse_of.nd (po_call (takes_of rfl rfl rfl rfl) (ok_exchanged T) (hr.mono (by decide)) hg T.g_exchanged T.D_exchanged.kp (b_exchanged_0 T.D_exchanged) .nil (fun _ _ => rfl) (pae_d (pd_var 3) (pae_d (pd_var 4) (pae_d (pd_var 6) pae_nil))) pke_nil (lenE_cons (lenE_cons (lenE_cons lenE_nil))) lenE_nil (bl_b_exchanged_0))))
    (psd_cons (psd_setI 3 (pd_call (takes_of rfl rfl rfl rfl) (ok_row_times T) (hr.mono (by decide)) hg T.g_row_times T.D_row_times.kp (b_row_times_0 T.D_row_times) .nil (fun _ _ => rfl) (pae_d (pd_ixO 3 (pd_var 6)) (pae_d (pd_call (takes_of rfl rfl rfl rfl) (ok_inverse_ratio T) (hr.mono (by decide)) hg T.g_inverse_ratio T.D_inverse_ratio.kp (b_inverse_ratio_0 T.D_inverse_ratio) .nil (fun _ _ => rfl) (pae_d (pd_ix (pd_ixO 3 (pd_var 6)) (pd_var 6)) pae_nil) pke_nil (lenE_cons lenE_nil) lenE_nil (bl_b_inverse_ratio_0)) pae_nil)) pke_nil (lenE_cons (lenE_cons lenE_nil)) lenE_nil (bl_b_row_times_0)) (pd_var 6))
    (psd_one (psd_for (passes_of rfl) rfl (pid_rng1 T.n_range (pad_cons (pd_var 1) pad_nil)) (pgt_name sc_inverse_of.nd (i := 7)) (psd_one (psd_if (PWD.pt (pw_a (pt_cmp1 (od_ne hr) (pd_var 7) (pd_var 6)) (pw_a1 (pt_cmp1 (od_ne hr) (pd_ix (pd_ix (pd_ixO 3 (pd_var 7)) (pd_var 6)) pd_int) pd_int)))) (psd_one (psd_setI 3 (pd_call (takes_of rfl rfl rfl rfl) (ok_row_less T) (hr.mono (by decide)) hg T.g_row_less T.D_row_less.kp (b_row_less_0 T.D_row_less) .nil (fun _ _ => rfl) (pae_d (pd_ixO 3 (pd_var 7)) (pae_d (pd_ixO 3 (pd_var 6)) (pae_d (pd_ix (pd_ixO 3 (pd_var 7)) (pd_var 6)) pae_nil))) pke_nil (lenE_cons (lenE_cons (lenE_cons lenE_nil))) lenE_nil (bl_b_row_less_0)) (pd_var 7))) psd_nil)))))))))
    (psd_one (psd_frz 3 (psd_ret (pd_tupOf T.n_tuple (pad_cons (pd_frz (po_comp [("row", 5)] (.n 5) rfl sc_inverse_of.nd (pid_seq (pd_var 3)) (show BlkOk ["matrix", "many", "unit", "rows", "at", "row", "place", "late"] (defScope s_inverse_of) _ _ from ⟨rfl, by decide +kernel, by decide +kernel, by decide +kernel, by decide +kernel⟩) (by first | (simp [Pd.TgtIn]; done) | (simp [Pd.TgtIn, Pd.in1]; done) | (simp [Pd.TgtIn, Pd.in1]; omega)) (fun s_ H_ C_ cl_ fp_ => (pg_name sc_inverse_of.nd (i := 5) rfl (by first | exact Or.inl rfl | exact Or.inr rfl))) (fun F_ s_ H_ C_ cl_ fp_ => ptsd_nil) (fun F_ s_ H_ C_ cl_ fp_ => (pd_sl (pd_var 5) (pp_some (pd_var 1)) pp_none)))) pad_nil)))))))))
theorem ok_is_set_value (T : Tx K mg) : Pd.FnP P w K mg base 6 T.a_is_set_value T.d_is_set_value ["many", "value"] m_is_set_value := by
  exact Pd.fnp T.D_is_set_value sc_is_set_value fun cdv A outer s H E F hr hg => (show PSDs _ F _ (defBody s_is_set_value) r_is_set_value from (psd_cons (psd_if (PWD.pt (pw_o (ptd_not (pt_bool (pd_isi T.n_isinstance T.n_tuple (pd_var 1)))) (pw_o (pt_cmp1 (od_ne hr) (pd_B (cs_len) T.n_len (pad_cons (pd_var 1) pad_nil)) pd_int) (pw_o (ptd_not (pt_bool (pd_isi T.n_isinstance T.n_str (pd_ix (pd_var 1) pd_int)))) (pw_o1 (pt_cmp1 (od_ne hr) (pd_ix (pd_var 1) pd_int) (pd_gstr T.c_WORD))))))) (psd_one (psd_ret pd_bl)) psd_nil)
    (psd_cons (psd_if (PWD.pt (pw_o (ptd_not (pt_bool (pd_call (takes_of rfl rfl rfl rfl) (ok_is_point T) (hr.mono (by decide)) hg T.g_is_point T.D_is_point.kp (b_is_point_0 T.D_is_point) .nil (fun _ _ => rfl) (pae_d (pd_ix (pd_var 1) pd_int) pae_nil) pke_nil (lenE_cons lenE_nil) lenE_nil (bl_b_is_point_0)))) (pw_o (ptd_not (pt_bool (pd_call (takes_of rfl rfl rfl rfl) (ok_is_matrix T) (hr.mono (by decide)) hg T.g_is_matrix T.D_is_matrix.kp (b_is_matrix_0 T.D_is_matrix) .nil (fun _ _ => rfl) (pae_d (pd_ix (pd_var 1) pd_int) pae_nil) pke_nil (lenE_cons lenE_nil) lenE_nil (bl_b_is_matrix_0)))) (pw_o1 (ptd_not (pt_bool (pd_call (takes_of rfl rfl rfl rfl) (ok_is_box T) (hr.mono (by decide)) hg T.g_is_box T.D_is_box.kp (b_is_box_0 T.D_is_box) .nil (fun _ _ => rfl) (pae_d (pd_ix (pd_var 1) pd_int) pae_nil) pke_nil (lenE_cons lenE_nil) lenE_nil (bl_b_is_box_0)))))))) (psd_one (psd_ret pd_bl)) psd_nil)
    (psd_cons (psd_if (ptd_not (pt_chn (pd_B (cs_len) T.n_len (pad_cons (pd_ix (pd_var 1) pd_int) pad_nil)) (pcd_link (od_eq hr) (pd_B (cs_len) T.n_len (pad_cons (pd_ix (pd_var 1) pd_int) pad_nil)) (pcd_link (od_eq hr) (pd_B (cs_len) T.n_len (pad_cons (pd_ix (pd_ix (pd_var 1) pd_int) pd_int) pad_nil)) (pcd_link (od_eq hr) (pd_B (cs_len) T.n_len (pad_cons (pd_ix (pd_var 1) pd_int) pad_nil)) (pcd_last (od_eq hr) (pd_var 0))))))) (psd_one (psd_ret pd_bl)) psd_nil)
    (psd_one (psd_ret (pd_cmp od_isnot2 (pd_call (takes_of rfl rfl rfl rfl) (ok_inverse_of T) (hr.mono (by decide)) hg T.g_inverse_of T.D_inverse_of.kp (b_inverse_of_0 T.D_inverse_of) .nil (fun _ _ => rfl) (pae_d (pd_ix (pd_var 1) pd_int) pae_nil) pke_nil (lenE_cons lenE_nil) lenE_nil (bl_b_inverse_of_0)) pd_non)))))))
theorem ok_is_set (T : Tx K mg) : Pd.FnP P w K mg base 7 T.a_is_set T.d_is_set ["value"] m_is_set := by
  exact Pd.fnp T.D_is_set sc_is_set fun cdv A outer s H E F hr hg => (show PSDs _ F _ (defBody s_is_set) r_is_set from (psd_cons (psd_if (PWD.pt (pw_o (ptd_not (pt_bool (pd_isi T.n_isinstance T.n_tuple (pd_var 0)))) (pw_o (pt_cmp1 (od_ne hr) (pd_B (cs_len) T.n_len (pad_cons (pd_var 0) pad_nil)) pd_int) (pw_o1 (ptd_not (pt_bool (pd_call (takes_of rfl rfl rfl rfl) (ok_is_point T) (hr.mono (by decide)) hg T.g_is_point T.D_is_point.kp (b_is_point_0 T.D_is_point) .nil (fun _ _ => rfl) (pae_d (pd_ix (pd_var 0) pd_int) pae_nil) pke_nil (lenE_cons lenE_nil) lenE_nil (bl_b_is_point_0)))))))) (psd_one (psd_ret pd_bl)) psd_nil)
    (psd_one (psd_ret (pd_call (takes_of rfl rfl rfl rfl) (ok_is_set_value T) (hr.mono (by decide)) hg T.g_is_set_value T.D_is_set_value.kp (b_is_set_value_0 T.D_is_set_value) .nil (fun _ _ => rfl) (pae_d (pd_B (cs_len) T.n_len (pad_cons (pd_ix (pd_var 0) pd_int) pad_nil)) (pae_d (pd_var 0) pae_nil)) pke_nil (lenE_cons (lenE_cons lenE_nil)) lenE_nil (bl_b_is_set_value_0))))))
theorem ok_want_set (T : Tx K mg) : Pd.FnP P w K mg base 8 T.a_want_set T.d_want_set ["value"] m_want_set := by
  exact Pd.fnp T.D_want_set sc_want_set fun cdv A outer s H E F hr hg => (show PSDs _ F _ (defBody s_want_set) r_want_set from (psd_one (psd_if (ptd_not (pt_bool (pd_call (takes_of rfl rfl rfl rfl) (ok_is_set T) (hr.mono (by decide)) hg T.g_is_set T.D_is_set.kp (b_is_set_0 T.D_is_set) .nil (fun _ _ => rfl) (pae_d (pd_var 0) pae_nil) pke_nil (lenE_cons lenE_nil) lenE_nil (bl_b_is_set_0)))) (psd_one psd_never) psd_nil)))
theorem ok_checked_ends (T : Tx K mg) : Pd.FnP P w K mg base 1 T.a_checked_ends T.d_checked_ends ["low", "high"] m_checked_ends := by
  exact Pd.fnp T.D_checked_ends sc_checked_ends fun cdv A outer s H E F hr hg => (show PSDs _ F _ (defBody s_checked_ends) r_checked_ends from (psd_cons (psd_if (PWD.pt (pw_o (pt_cmp1 od_lt (pd_var 0) (pd_op od_sub pd_int (pd_gint T.c_MOST_GRAINS))) (pw_o1 (pt_cmp1 od_gt (pd_var 1) (pd_gint T.c_MOST_GRAINS))))) (psd_one psd_never) psd_nil)
    (psd_one (psd_ret (pd_tup (pad_cons (pd_var 0) (pad_cons (pd_var 1) pad_nil)) (len_cons (len_cons len_nil)))))))
theorem ok_rounded_down (T : Tx K mg) : Pd.FnP P w K mg base 1 T.a_rounded_down T.d_rounded_down ["number", "under"] m_rounded_down := by
  exact Pd.fnp T.D_rounded_down sc_rounded_down fun cdv A outer s H E F hr hg => (show PSDs _ F _ (defBody s_rounded_down) r_rounded_down from (psd_cons (psd_if (pt_cmp1 od_lt (pd_var 1) pd_int) (psd_one (psd_ret (pd_op od_div (pd_op od_sub pd_int (pd_var 0)) (pd_op od_sub pd_int (pd_var 1))))) psd_nil)
    (psd_one (psd_ret (pd_op od_div (pd_var 0) (pd_var 1))))))
theorem ok_rounded_up (T : Tx K mg) : Pd.FnP P w K mg base 2 T.a_rounded_up T.d_rounded_up ["number", "under"] m_rounded_up := by
  exact Pd.fnp T.D_rounded_up sc_rounded_up fun cdv A outer s H E F hr hg => (show PSDs _ F _ (defBody s_rounded_up) r_rounded_up from (psd_one (psd_ret (pd_op od_sub pd_int (pd_call (takes_of rfl rfl rfl rfl) (ok_rounded_down T) (hr.mono (by decide)) hg T.g_rounded_down T.D_rounded_down.kp (b_rounded_down_0 T.D_rounded_down) .nil (fun _ _ => rfl) (pae_d (pd_op od_sub pd_int (pd_var 0)) (pae_d (pd_var 1) pae_nil)) pke_nil (lenE_cons (lenE_cons lenE_nil)) lenE_nil (bl_b_rounded_down_0))))))
theorem ok_around_of (T : Tx K mg) : Pd.FnP P w K mg base 3 T.a_around_of T.d_around_of ["ratio"] m_around_of := by
  exact Pd.fnp T.D_around_of sc_around_of fun cdv A outer s H E F hr hg => (show PSDs _ F _ (defBody s_around_of) r_around_of from (psd_cons (psd_set 1 sc_around_of.nd (pd_op od_mul (pd_ix (pd_var 0) pd_int) (pd_gint T.c_ONE)))
    (psd_one (psd_ret (pd_call (takes_of rfl rfl rfl rfl) (ok_checked_ends T) (hr.mono (by decide)) hg T.g_checked_ends T.D_checked_ends.kp (b_checked_ends_0 T.D_checked_ends) .nil (fun _ _ => rfl) (pae_d (pd_call (takes_of rfl rfl rfl rfl) (ok_rounded_down T) (hr.mono (by decide)) hg T.g_rounded_down T.D_rounded_down.kp (b_rounded_down_0 T.D_rounded_down) .nil (fun _ _ => rfl) (pae_d (pd_var 1) (pae_d (pd_ix (pd_var 0) pd_int) pae_nil)) pke_nil (lenE_cons (lenE_cons lenE_nil)) lenE_nil (bl_b_rounded_down_0)) (pae_d (pd_call (takes_of rfl rfl rfl rfl) (ok_rounded_up T) (hr.mono (by decide)) hg T.g_rounded_up T.D_rounded_up.kp (b_rounded_up_0 T.D_rounded_up) .nil (fun _ _ => rfl) (pae_d (pd_var 1) (pae_d (pd_ix (pd_var 0) pd_int) pae_nil)) pke_nil (lenE_cons (lenE_cons lenE_nil)) lenE_nil (bl_b_rounded_up_0)) pae_nil)) pke_nil (lenE_cons (lenE_cons lenE_nil)) lenE_nil (bl_b_checked_ends_0))))))
theorem ok_plus_of (T : Tx K mg) : Pd.FnP P w K mg base 2 T.a_plus_of T.d_plus_of ["one", "other"] m_plus_of := by
  exact Pd.fnp T.D_plus_of sc_plus_of fun cdv A outer s H E F hr hg => (show PSDs _ F _ (defBody s_plus_of) r_plus_of from (psd_one (psd_ret (pd_call (takes_of rfl rfl rfl rfl) (ok_checked_ends T) (hr.mono (by decide)) hg T.g_checked_ends T.D_checked_ends.kp (b_checked_ends_0 T.D_checked_ends) .nil (fun _ _ => rfl) (pae_d (pd_op od_add2 (pd_ix (pd_var 0) pd_int) (pd_ix (pd_var 1) pd_int)) (pae_d (pd_op od_add2 (pd_ix (pd_var 0) pd_int) (pd_ix (pd_var 1) pd_int)) pae_nil)) pke_nil (lenE_cons (lenE_cons lenE_nil)) lenE_nil (bl_b_checked_ends_0)))))
theorem ok_scaled_of (T : Tx K mg) : Pd.FnP P w K mg base 3 T.a_scaled_of T.d_scaled_of ["interval", "ratio"] m_scaled_of := by
  exact Pd.fnp T.D_scaled_of sc_scaled_of fun cdv A outer s H E F hr hg => (show PSDs _ F _ (defBody s_scaled_of) r_scaled_of from (psd_cons (psd_set 2 sc_scaled_of.nd (pd_frz (po_lst (pad_cons (pd_op od_mul (pd_ix (pd_var 0) pd_int) (pd_ix (pd_var 1) pd_int)) (pad_cons (pd_op od_mul (pd_ix (pd_var 0) pd_int) (pd_ix (pd_var 1) pd_int)) pad_nil)) (len_cons (len_cons len_nil)))))
    (psd_one (psd_ret (pd_call (takes_of rfl rfl rfl rfl) (ok_checked_ends T) (hr.mono (by decide)) hg T.g_checked_ends T.D_checked_ends.kp (b_checked_ends_0 T.D_checked_ends) .nil (fun _ _ => rfl) (pae_d (pd_call (takes_of rfl rfl rfl rfl) (ok_rounded_down T) (hr.mono (by decide)) hg T.g_rounded_down T.D_rounded_down.kp (b_rounded_down_0 T.D_rounded_down) .nil (fun _ _ => rfl) (pae_d (pd_B (cs_min rfl) T.n_min (pad_cons (pd_var 2) pad_nil)) (pae_d (pd_ix (pd_var 1) pd_int) pae_nil)) pke_nil (lenE_cons (lenE_cons lenE_nil)) lenE_nil (bl_b_rounded_down_0)) (pae_d (pd_call (takes_of rfl rfl rfl rfl) (ok_rounded_up T) (hr.mono (by decide)) hg T.g_rounded_up T.D_rounded_up.kp (b_rounded_up_0 T.D_rounded_up) .nil (fun _ _ => rfl) (pae_d (pd_B (cs_max rfl) T.n_max (pad_cons (pd_var 2) pad_nil)) (pae_d (pd_ix (pd_var 1) pd_int) pae_nil)) pke_nil (lenE_cons (lenE_cons lenE_nil)) lenE_nil (bl_b_rounded_up_0)) pae_nil)) pke_nil (lenE_cons (lenE_cons lenE_nil)) lenE_nil (bl_b_checked_ends_0))))))
theorem ok_set_hull_of (T : Tx K mg) : Pd.FnP P w K mg base 4 T.a_set_hull_of T.d_set_hull_of ["one"] m_set_hull_of := by
  exact Pd.fnp T.D_set_hull_of sc_set_hull_of fun cdv A outer s H E F hr hg => (show PSDs _ F _ (defBody s_set_hull_of) r_set_hull_of from (psd_cons (psd_asg (pd_var 0) (pgt_tup rfl (pgts_cons (i := 1) sc_set_hull_of.nd (pgts_cons (i := 2) sc_set_hull_of.nd (pgts_cons (i := 3) sc_set_hull_of.nd (pgts_cons (i := 4) sc_set_hull_of.nd pgts_nil))))))
    (psd_cons (psd_setO 5 sc_set_hull_of.nd (po_lst pad_nil len_nil))
    (psd_cons (psd_for (passes_of rfl) rfl (pid_zipB T.n_zip (pad_cons (pd_var 2) (pad_cons (pd_var 3) pad_nil))) (pgt_tup rfl (pgts_cons (i := 6) sc_set_hull_of.nd (pgts_cons (i := 7) sc_set_hull_of.nd pgts_nil))) (psd_cons (psd_set 8 sc_set_hull_of.nd (pd_call (takes_of rfl rfl rfl rfl) (ok_around_of T) (hr.mono (by decide)) hg T.g_around_of T.D_around_of.kp (b_around_of_0 T.D_around_of) .nil (fun _ _ => rfl) (pae_d (pd_var 6) pae_nil) pke_nil (lenE_cons lenE_nil) lenE_nil (bl_b_around_of_0)))
    (psd_cons (psd_set 9 sc_set_hull_of.nd (pd_tup (pad_cons pd_int (pad_cons pd_int pad_nil)) (len_cons (len_cons len_nil))))
    (psd_cons (psd_for (passes_of rfl) rfl (pid_zipB T.n_zip (pad_cons (pd_var 7) (pad_cons (pd_var 4) pad_nil))) (pgt_tup rfl (pgts_cons (i := 10) sc_set_hull_of.nd (pgts_cons (i := 11) sc_set_hull_of.nd pgts_nil))) (psd_one (psd_set 9 sc_set_hull_of.nd (pd_call (takes_of rfl rfl rfl rfl) (ok_plus_of T) (hr.mono (by decide)) hg T.g_plus_of T.D_plus_of.kp (b_plus_of_0 T.D_plus_of) .nil (fun _ _ => rfl) (pae_d (pd_var 9) (pae_d (pd_call (takes_of rfl rfl rfl rfl) (ok_scaled_of T) (hr.mono (by decide)) hg T.g_scaled_of T.D_scaled_of.kp (b_scaled_of_0 T.D_scaled_of) .nil (fun _ _ => rfl) (pae_d (pd_var 11) (pae_d (pd_var 10) pae_nil)) pke_nil (lenE_cons (lenE_cons lenE_nil)) lenE_nil (bl_b_scaled_of_0)) pae_nil)) pke_nil (lenE_cons (lenE_cons lenE_nil)) lenE_nil (bl_b_plus_of_0)))))
    (psd_one (psd_app 5 (pd_call (takes_of rfl rfl rfl rfl) (ok_plus_of T) (hr.mono (by decide)) hg T.g_plus_of T.D_plus_of.kp (b_plus_of_0 T.D_plus_of) .nil (fun _ _ => rfl) (pae_d (pd_var 8) (pae_d (pd_var 9) pae_nil)) pke_nil (lenE_cons (lenE_cons lenE_nil)) lenE_nil (bl_b_plus_of_0))))))))
    (psd_one (psd_frz 5 (psd_ret (pd_tupOf T.n_tuple (pad_cons (pd_var 5) pad_nil)))))))))
theorem ok_set_hull (T : Tx K mg) : Pd.FnP P w K mg base 9 T.a_set_hull T.d_set_hull ["affine"] m_set_hull := by
  exact Pd.fnp T.D_set_hull sc_set_hull fun cdv A outer s H E F hr hg => (show PSDs _ F _ (defBody s_set_hull) r_set_hull from (psd_cons (psd_expr (pd_call (takes_of rfl rfl rfl rfl) (ok_want_set T) (hr.mono (by decide)) hg T.g_want_set T.D_want_set.kp (b_want_set_0 T.D_want_set) .nil (fun _ _ => rfl) (pae_d (pd_var 0) pae_nil) pke_nil (lenE_cons lenE_nil) lenE_nil (bl_b_want_set_0)))
    (psd_one (psd_ret (pd_call (takes_of rfl rfl rfl rfl) (ok_set_hull_of T) (hr.mono (by decide)) hg T.g_set_hull_of T.D_set_hull_of.kp (b_set_hull_of_0 T.D_set_hull_of) .nil (fun _ _ => rfl) (pae_d (pd_var 0) pae_nil) pke_nil (lenE_cons lenE_nil) lenE_nil (bl_b_set_hull_of_0))))))
theorem ok_dot (T : Tx K mg) : Pd.FnP P w K mg base 3 T.a_dot T.d_dot ["row", "other"] m_dot := by
  exact Pd.fnp T.D_dot sc_dot fun cdv A outer s H E F hr hg => (show PSDs _ F _ (defBody s_dot) r_dot from (psd_cons (psd_set 2 sc_dot.nd (pd_gtup T.t_NOUGHT))
    (psd_cons (psd_for (passes_of rfl) rfl (pid_zipB T.n_zip (pad_cons (pd_var 0) (pad_cons (pd_var 1) pad_nil))) (pgt_tup rfl (pgts_cons (i := 3) sc_dot.nd (pgts_cons (i := 4) sc_dot.nd pgts_nil))) (psd_one (psd_if (PWD.pt (pw_a (pt_cmp1 (od_ne hr) (pd_ix (pd_var 3) pd_int) pd_int) (pw_a1 (pt_cmp1 (od_ne hr) (pd_ix (pd_var 4) pd_int) pd_int)))) (psd_one (psd_set 2 sc_dot.nd (pd_call (takes_of rfl rfl rfl rfl) (ok_add_ratios T) (hr.mono (by decide)) hg T.g_add_ratios T.D_add_ratios.kp (b_add_ratios_0 T.D_add_ratios) .nil (fun _ _ => rfl) (pae_d (pd_var 2) (pae_d (pd_call (takes_of rfl rfl rfl rfl) (ok_mul_ratios T) (hr.mono (by decide)) hg T.g_mul_ratios T.D_mul_ratios.kp (b_mul_ratios_0 T.D_mul_ratios) .nil (fun _ _ => rfl) (pae_d (pd_var 3) (pae_d (pd_var 4) pae_nil)) pke_nil (lenE_cons (lenE_cons lenE_nil)) lenE_nil (bl_b_mul_ratios_0)) pae_nil)) pke_nil (lenE_cons (lenE_cons lenE_nil)) lenE_nil (bl_b_add_ratios_0)))) psd_nil)))
    (psd_one (psd_ret (pd_var 2))))))
theorem ok_columns_of (T : Tx K mg) : Pd.FnP P w K mg base 1 T.a_columns_of T.d_columns_of ["matrix"] m_columns_of := by
  exact Pd.fnp T.D_columns_of sc_columns_of fun cdv A outer s H E F hr hg => (show PSDs _ F _ (defBody s_columns_of) r_columns_of from (psd_one (psd_ret (pd_tupOf T.n_tuple (pad_cons (pd_frz (po_comp [("place", 2)] (.n 2) rfl sc_columns_of.nd (pid_rng1 T.n_range (pad_cons (pd_B (cs_len) T.n_len (pad_cons (pd_ix (pd_var 0) pd_int) pad_nil)) pad_nil)) (show BlkOk ["matrix", "row", "place"] (defScope s_columns_of) _ _ from ⟨rfl, by decide +kernel, by decide +kernel, by decide +kernel, by decide +kernel⟩) (by first | (simp [Pd.TgtIn]; done) | (simp [Pd.TgtIn, Pd.in1]; done) | (simp [Pd.TgtIn, Pd.in1]; omega)) (fun s_ H_ C_ cl_ fp_ => (pg_name sc_columns_of.nd (i := 2) rfl (by first | exact Or.inl rfl | exact Or.inr rfl))) (fun F_ s_ H_ C_ cl_ fp_ => ptsd_nil) (fun F_ s_ H_ C_ cl_ fp_ => (pd_tupOf T.n_tuple (pad_cons (pd_frz (po_comp [("row", 1)] (.n 1) rfl sc_columns_of.nd (pid_seq (pd_var 0)) (Pd.blk_relabel (show BlkOk ["matrix", "row", "place"] ({ kind := PySem.ScopeKind.function, names := [ (PySem.Str.ofString ".0", PySem.NameKind.local), (PySem.Str.ofString "place", PySem.NameKind.cell), (PySem.Str.ofString "tuple", PySem.NameKind.globalImplicit), (PySem.Str.ofString "matrix", PySem.NameKind.free)], isGenerator := false, isCoroutine := false, more := [] : PySem.Scope }) ({ kind := PySem.ScopeKind.function, names := [ (PySem.Str.ofString ".0", PySem.NameKind.local), (PySem.Str.ofString "row", PySem.NameKind.local), (PySem.Str.ofString "place", PySem.NameKind.free)], isGenerator := false, isCoroutine := false, more := [] : PySem.Scope }) [("row", 1)] from ⟨rfl, by decide +kernel, by decide +kernel, by decide +kernel, by decide +kernel⟩)) (by first | (simp [Pd.TgtIn]; done) | (simp [Pd.TgtIn, Pd.in1]; done) | (simp [Pd.TgtIn, Pd.in1]; omega)) (fun s_ H_ C_ cl_ fp_ => (pg_name sc_columns_of.nd (i := 1) rfl (by first | exact Or.inl rfl | exact Or.inr rfl))) (fun F_ s_ H_ C_ cl_ fp_ => ptsd_nil) (fun F_ s_ H_ C_ cl_ fp_ => (pd_ix (pd_var 1) (pd_var 2))))) pad_nil))))) pad_nil)))))
theorem ok_product_of (T : Tx K mg) : Pd.FnP P w K mg base 4 T.a_product_of T.d_product_of ["one", "other"] m_product_of := by
  exact Pd.fnp T.D_product_of sc_product_of fun cdv A outer s H E F hr hg => (show PSDs _ F _ (defBody s_product_of) r_product_of from (psd_cons (psd_set 2 sc_product_of.nd (pd_call (takes_of rfl rfl rfl rfl) (ok_columns_of T) (hr.mono (by decide)) hg T.g_columns_of T.D_columns_of.kp (b_columns_of_0 T.D_columns_of) .nil (fun _ _ => rfl) (pae_d (pd_var 1) pae_nil) pke_nil (lenE_cons lenE_nil) lenE_nil (bl_b_columns_of_0)))
    (psd_one (psd_ret (pd_tupOf T.n_tuple (pad_cons (pd_frz (po_comp [("row", 4)] (.n 4) rfl sc_product_of.nd (pid_seq (pd_var 0)) (show BlkOk ["one", "other", "columns", "column", "row"] (defScope s_product_of) _ _ from ⟨rfl, by decide +kernel, by decide +kernel, by decide +kernel, by decide +kernel⟩) (by first | (simp [Pd.TgtIn]; done) | (simp [Pd.TgtIn, Pd.in1]; done) | (simp [Pd.TgtIn, Pd.in1]; omega)) (fun s_ H_ C_ cl_ fp_ => (pg_name sc_product_of.nd (i := 4) rfl (by first | exact Or.inl rfl | exact Or.inr rfl))) (fun F_ s_ H_ C_ cl_ fp_ => ptsd_nil) (fun F_ s_ H_ C_ cl_ fp_ => (pd_tupOf T.n_tuple (pad_cons (pd_frz (po_comp [("column", 3)] (.n 3) rfl sc_product_of.nd (pid_seq (pd_var 2)) (Pd.blk_relabel (show BlkOk ["one", "other", "columns", "column", "row"] ({ kind := PySem.ScopeKind.function, names := [ (PySem.Str.ofString ".0", PySem.NameKind.local), (PySem.Str.ofString "row", PySem.NameKind.cell), (PySem.Str.ofString "tuple", PySem.NameKind.globalImplicit), (PySem.Str.ofString "columns", PySem.NameKind.free)], isGenerator := false, isCoroutine := false, more := [] : PySem.Scope }) ({ kind := PySem.ScopeKind.function, names := [ (PySem.Str.ofString ".0", PySem.NameKind.local), (PySem.Str.ofString "column", PySem.NameKind.local), (PySem.Str.ofString "dot", PySem.NameKind.globalImplicit), (PySem.Str.ofString "row", PySem.NameKind.free)], isGenerator := false, isCoroutine := false, more := [] : PySem.Scope }) [("column", 3)] from ⟨rfl, by decide +kernel, by decide +kernel, by decide +kernel, by decide +kernel⟩)) (by first | (simp [Pd.TgtIn]; done) | (simp [Pd.TgtIn, Pd.in1]; done) | (simp [Pd.TgtIn, Pd.in1]; omega)) (fun s_ H_ C_ cl_ fp_ => (pg_name sc_product_of.nd (i := 3) rfl (by first | exact Or.inl rfl | exact Or.inr rfl))) (fun F_ s_ H_ C_ cl_ fp_ => ptsd_nil) (fun F_ s_ H_ C_ cl_ fp_ => (pd_call tk_none (ok_dot T) (hr.mono (by decide)) hg T.g_dot T.D_dot.kp (b_dot_0 T.D_dot) .nil (fun _ _ => rfl) (pae_d (pd_var 4) (pae_d (pd_var 3) pae_nil)) pke_nil (lenE_cons (lenE_cons lenE_nil)) lenE_nil (bl_b_dot_0))))) pad_nil))))) pad_nil))))))
theorem ok_led_by (T : Tx K mg) : Pd.FnP P w K mg base 4 T.a_led_by T.d_led_by ["matrix", "row"] m_led_by := by
  exact Pd.fnp T.D_led_by sc_led_by fun cdv A outer s H E F hr hg => (show PSDs _ F _ (defBody s_led_by) r_led_by from (psd_one (psd_ret (pd_tupOf T.n_tuple (pad_cons (pd_frz (po_comp [("line", 2)] (.n 2) rfl sc_led_by.nd (pid_seq (pd_var 0)) (show BlkOk ["matrix", "row", "line"] (defScope s_led_by) _ _ from ⟨rfl, by decide +kernel, by decide +kernel, by decide +kernel, by decide +kernel⟩) (by first | (simp [Pd.TgtIn]; done) | (simp [Pd.TgtIn, Pd.in1]; done) | (simp [Pd.TgtIn, Pd.in1]; omega)) (fun s_ H_ C_ cl_ fp_ => (pg_name sc_led_by.nd (i := 2) rfl (by first | exact Or.inl rfl | exact Or.inr rfl))) (fun F_ s_ H_ C_ cl_ fp_ => ptsd_nil) (fun F_ s_ H_ C_ cl_ fp_ => (pd_call tk_none (ok_dot T) (hr.mono (by decide)) hg T.g_dot T.D_dot.kp (b_dot_0 T.D_dot) .nil (fun _ _ => rfl) (pae_d (pd_var 2) (pae_d (pd_var 1) pae_nil)) pke_nil (lenE_cons (lenE_cons lenE_nil)) lenE_nil (bl_b_dot_0))))) pad_nil)))))
theorem ok_less_point (T : Tx K mg) : Pd.FnP P w K mg base 4 T.a_less_point T.d_less_point ["point", "other"] m_less_point := by
  exact Pd.fnp T.D_less_point sc_less_point fun cdv A outer s H E F hr hg => (show PSDs _ F _ (defBody s_less_point) r_less_point from (psd_one (psd_ret (pd_tupOf T.n_tuple (pad_cons (pd_frz (po_comp [("one", 2), ("late", 3)] (.t [2, 3]) rfl sc_less_point.nd (pid_zipB T.n_zip (pad_cons (pd_var 0) (pad_cons (pd_var 1) pad_nil))) (show BlkOk ["point", "other", "one", "late"] (defScope s_less_point) _ _ from ⟨rfl, by decide +kernel, by decide +kernel, by decide +kernel, by decide +kernel⟩) (by first | (simp [Pd.TgtIn]; done) | (simp [Pd.TgtIn, Pd.in1]; done) | (simp [Pd.TgtIn, Pd.in1]; omega)) (fun s_ H_ C_ cl_ fp_ => (pg_tup rfl (pgts_cons (i := 2) sc_less_point.nd (pgts_cons (i := 3) sc_less_point.nd pgts_nil)))) (fun F_ s_ H_ C_ cl_ fp_ => ptsd_nil) (fun F_ s_ H_ C_ cl_ fp_ => (pd_call tk_none (ok_sub_ratios T) (hr.mono (by decide)) hg T.g_sub_ratios T.D_sub_ratios.kp (b_sub_ratios_0 T.D_sub_ratios) .nil (fun _ _ => rfl) (pae_d (pd_var 2) (pae_d (pd_var 3) pae_nil)) pke_nil (lenE_cons (lenE_cons lenE_nil)) lenE_nil (bl_b_sub_ratios_0))))) pad_nil)))))
theorem ok_is_less_ratio (T : Tx K mg) : Pd.FnP P w K mg base 1 T.a_is_less_ratio T.d_is_less_ratio ["one", "other"] m_is_less_ratio := by
  exact Pd.fnp T.D_is_less_ratio sc_is_less_ratio fun cdv A outer s H E F hr hg => (show PSDs _ F _ (defBody s_is_less_ratio) r_is_less_ratio from (psd_one (psd_ret (pd_cmp od_lt (pd_op od_mul (pd_ix (pd_var 0) pd_int) (pd_ix (pd_var 1) pd_int)) (pd_op od_mul (pd_ix (pd_var 1) pd_int) (pd_ix (pd_var 0) pd_int))))))
theorem ok_is_from_to (T : Tx K mg) : Pd.FnP P w K mg base 2 T.a_is_from_to T.d_is_from_to ["low", "high", "interval"] m_is_from_to := by
  exact Pd.fnp T.D_is_from_to sc_is_from_to fun cdv A outer s H E F hr hg => (show PSDs _ F _ (defBody s_is_from_to) r_is_from_to from (psd_cons (psd_par (i := 3) (j := 4) rfl sc_is_from_to.nd (pad_cons (pd_call (takes_of rfl rfl rfl rfl) (ok_made_ratio T) (hr.mono (by decide)) hg T.g_made_ratio T.D_made_ratio.kp (b_made_ratio_0 T.D_made_ratio) .nil (fun _ _ => rfl) (pae_d (pd_ix (pd_var 2) pd_int) (pae_d (pd_gint T.c_ONE) pae_nil)) pke_nil (lenE_cons (lenE_cons lenE_nil)) lenE_nil (bl_b_made_ratio_0)) (pad_cons (pd_call (takes_of rfl rfl rfl rfl) (ok_made_ratio T) (hr.mono (by decide)) hg T.g_made_ratio T.D_made_ratio.kp (b_made_ratio_0 T.D_made_ratio) .nil (fun _ _ => rfl) (pae_d (pd_ix (pd_var 2) pd_int) (pae_d (pd_gint T.c_ONE) pae_nil)) pke_nil (lenE_cons (lenE_cons lenE_nil)) lenE_nil (bl_b_made_ratio_0)) pad_nil)))
    (psd_one (psd_ret (pd_and (pd_not (pd_call (takes_of rfl rfl rfl rfl) (ok_is_less_ratio T) (hr.mono (by decide)) hg T.g_is_less_ratio T.D_is_less_ratio.kp (b_is_less_ratio_0 T.D_is_less_ratio) .nil (fun _ _ => rfl) (pae_d (pd_var 0) (pae_d (pd_var 3) pae_nil)) pke_nil (lenE_cons (lenE_cons lenE_nil)) lenE_nil (bl_b_is_less_ratio_0))) (pd_one (pd_not (pd_call (takes_of rfl rfl rfl rfl) (ok_is_less_ratio T) (hr.mono (by decide)) hg T.g_is_less_ratio T.D_is_less_ratio.kp (b_is_less_ratio_0 T.D_is_less_ratio) .nil (fun _ _ => rfl) (pae_d (pd_var 4) (pae_d (pd_var 1) pae_nil)) pke_nil (lenE_cons (lenE_cons lenE_nil)) lenE_nil (bl_b_is_less_ratio_0)))))))))
theorem ok_ends_led (T : Tx K mg) : Pd.FnP P w K mg base 3 T.a_ends_led T.d_ends_led ["row", "box"] m_ends_led := by
  exact Pd.fnp T.D_ends_led sc_ends_led fun cdv A outer s H E F hr hg => (show PSDs _ F _ (defBody s_ends_led) r_ends_led from (psd_cons (psd_par (i := 2) (j := 3) rfl sc_ends_led.nd (pad_cons (pd_gtup T.t_NOUGHT) (pad_cons (pd_gtup T.t_NOUGHT) pad_nil)))
    (psd_cons (psd_for (passes_of rfl) rfl (pid_zipB T.n_zip (pad_cons (pd_var 0) (pad_cons (pd_var 1) pad_nil))) (pgt_mix rfl (pgms_n (i := 4) sc_ends_led.nd (pgms_t rfl (pgts_cons (i := 5) sc_ends_led.nd (pgts_cons (i := 6) sc_ends_led.nd pgts_nil)) pgms_nil))) (psd_cons (psd_asg (pd_ife (pt_cmp1 od_ge (pd_ix (pd_var 4) pd_int) pd_int) (pd_tup (pad_cons (pd_var 5) (pad_cons (pd_var 6) pad_nil)) (len_cons (len_cons len_nil))) (pd_tup (pad_cons (pd_var 6) (pad_cons (pd_var 5) pad_nil)) (len_cons (len_cons len_nil)))) (pgt_tup rfl (pgts_cons (i := 7) sc_ends_led.nd (pgts_cons (i := 8) sc_ends_led.nd pgts_nil))))
    (psd_cons (psd_set 2 sc_ends_led.nd (pd_call (takes_of rfl rfl rfl rfl) (ok_add_ratios T) (hr.mono (by decide)) hg T.g_add_ratios T.D_add_ratios.kp (b_add_ratios_0 T.D_add_ratios) .nil (fun _ _ => rfl) (pae_d (pd_var 2) (pae_d (pd_call (takes_of rfl rfl rfl rfl) (ok_mul_ratios T) (hr.mono (by decide)) hg T.g_mul_ratios T.D_mul_ratios.kp (b_mul_ratios_0 T.D_mul_ratios) .nil (fun _ _ => rfl) (pae_d (pd_var 4) (pae_d (pd_call (takes_of rfl rfl rfl rfl) (ok_made_ratio T) (hr.mono (by decide)) hg T.g_made_ratio T.D_made_ratio.kp (b_made_ratio_0 T.D_made_ratio) .nil (fun _ _ => rfl) (pae_d (pd_var 7) (pae_d (pd_gint T.c_ONE) pae_nil)) pke_nil (lenE_cons (lenE_cons lenE_nil)) lenE_nil (bl_b_made_ratio_0)) pae_nil)) pke_nil (lenE_cons (lenE_cons lenE_nil)) lenE_nil (bl_b_mul_ratios_0)) pae_nil)) pke_nil (lenE_cons (lenE_cons lenE_nil)) lenE_nil (bl_b_add_ratios_0)))
    (psd_one (psd_set 3 sc_ends_led.nd (pd_call (takes_of rfl rfl rfl rfl) (ok_add_ratios T) (hr.mono (by decide)) hg T.g_add_ratios T.D_add_ratios.kp (b_add_ratios_0 T.D_add_ratios) .nil (fun _ _ => rfl) (pae_d (pd_var 3) (pae_d (pd_call (takes_of rfl rfl rfl rfl) (ok_mul_ratios T) (hr.mono (by decide)) hg T.g_mul_ratios T.D_mul_ratios.kp (b_mul_ratios_0 T.D_mul_ratios) .nil (fun _ _ => rfl) (pae_d (pd_var 4) (pae_d (pd_call (takes_of rfl rfl rfl rfl) (ok_made_ratio T) (hr.mono (by decide)) hg T.g_made_ratio T.D_made_ratio.kp (b_made_ratio_0 T.D_made_ratio) .nil (fun _ _ => rfl) (pae_d (pd_var 8) (pae_d (pd_gint T.c_ONE) pae_nil)) pke_nil (lenE_cons (lenE_cons lenE_nil)) lenE_nil (bl_b_made_ratio_0)) pae_nil)) pke_nil (lenE_cons (lenE_cons lenE_nil)) lenE_nil (bl_b_mul_ratios_0)) pae_nil)) pke_nil (lenE_cons (lenE_cons lenE_nil)) lenE_nil (bl_b_add_ratios_0)))))))
    (psd_one (psd_ret (pd_tup (pad_cons (pd_var 2) (pad_cons (pd_var 3) pad_nil)) (len_cons (len_cons len_nil))))))))
theorem ok_is_within_set (T : Tx K mg) : Pd.FnP P w K mg base 6 T.a_is_within_set T.d_is_within_set ["one", "other"] m_is_within_set := by
  exact Pd.fnp T.D_is_within_set sc_is_within_set fun cdv A outer s H E F hr hg => (show PSDs _ F _ (defBody s_is_within_set) r_is_within_set from (psd_cons (psd_set 2 sc_is_within_set.nd (pd_call (takes_of rfl rfl rfl rfl) (ok_inverse_of T) (hr.mono (by decide)) hg T.g_inverse_of T.D_inverse_of.kp (b_inverse_of_0 T.D_inverse_of) .nil (fun _ _ => rfl) (pae_d (pd_ix (pd_var 1) pd_int) pae_nil) pke_nil (lenE_cons lenE_nil) lenE_nil (bl_b_inverse_of_0)))
    (psd_cons (psd_par (i := 3) (j := 4) rfl sc_is_within_set.nd (pad_cons (pd_call (takes_of rfl rfl rfl rfl) (ok_product_of T) (hr.mono (by decide)) hg T.g_product_of T.D_product_of.kp (b_product_of_0 T.D_product_of) .nil (fun _ _ => rfl) (pae_d (pd_var 2) (pae_d (pd_ix (pd_var 0) pd_int) pae_nil)) pke_nil (lenE_cons (lenE_cons lenE_nil)) lenE_nil (bl_b_product_of_0)) (pad_cons (pd_call (takes_of rfl rfl rfl rfl) (ok_led_by T) (hr.mono (by decide)) hg T.g_led_by T.D_led_by.kp (b_led_by_0 T.D_led_by) .nil (fun _ _ => rfl) (pae_d (pd_var 2) (pae_d (pd_call (takes_of rfl rfl rfl rfl) (ok_less_point T) (hr.mono (by decide)) hg T.g_less_point T.D_less_point.kp (b_less_point_0 T.D_less_point) .nil (fun _ _ => rfl) (pae_d (pd_ix (pd_var 0) pd_int) (pae_d (pd_ix (pd_var 1) pd_int) pae_nil)) pke_nil (lenE_cons (lenE_cons lenE_nil)) lenE_nil (bl_b_less_point_0)) pae_nil)) pke_nil (lenE_cons (lenE_cons lenE_nil)) lenE_nil (bl_b_led_by_0)) pad_nil)))
    (psd_cons (psd_for (passes_of rfl) rfl (pid_zip3 T.n_zip (pad_cons (pd_var 3) (pad_cons (pd_var 4) (pad_cons (pd_ix (pd_var 1) pd_int) pad_nil)))) (pgt_tup rfl (pgts_cons (i := 5) sc_is_within_set.nd (pgts_cons (i := 6) sc_is_within_set.nd (pgts_cons (i := 7) sc_is_within_set.nd pgts_nil)))) (psd_cons (psd_asg (pd_call (takes_of rfl rfl rfl rfl) (ok_ends_led T) (hr.mono (by decide)) hg T.g_ends_led T.D_ends_led.kp (b_ends_led_0 T.D_ends_led) .nil (fun _ _ => rfl) (pae_d (pd_var 5) (pae_d (pd_ix (pd_var 0) pd_int) pae_nil)) pke_nil (lenE_cons (lenE_cons lenE_nil)) lenE_nil (bl_b_ends_led_0)) (pgt_tup rfl (pgts_cons (i := 8) sc_is_within_set.nd (pgts_cons (i := 9) sc_is_within_set.nd pgts_nil))))
    (psd_one (psd_if (ptd_not (pt_bool (pd_call (takes_of rfl rfl rfl rfl) (ok_is_from_to T) (hr.mono (by decide)) hg T.g_is_from_to T.D_is_from_to.kp (b_is_from_to_0 T.D_is_from_to) .nil (fun _ _ => rfl) (pae_d (pd_call (takes_of rfl rfl rfl rfl) (ok_add_ratios T) (hr.mono (by decide)) hg T.g_add_ratios T.D_add_ratios.kp (b_add_ratios_0 T.D_add_ratios) .nil (fun _ _ => rfl) (pae_d (pd_var 6) (pae_d (pd_var 8) pae_nil)) pke_nil (lenE_cons (lenE_cons lenE_nil)) lenE_nil (bl_b_add_ratios_0)) (pae_d (pd_call (takes_of rfl rfl rfl rfl) (ok_add_ratios T) (hr.mono (by decide)) hg T.g_add_ratios T.D_add_ratios.kp (b_add_ratios_0 T.D_add_ratios) .nil (fun _ _ => rfl) (pae_d (pd_var 6) (pae_d (pd_var 9) pae_nil)) pke_nil (lenE_cons (lenE_cons lenE_nil)) lenE_nil (bl_b_add_ratios_0)) (pae_d (pd_var 7) pae_nil))) pke_nil (lenE_cons (lenE_cons (lenE_cons lenE_nil))) lenE_nil (bl_b_is_from_to_0)))) (psd_one (psd_ret pd_bl)) psd_nil))))
    (psd_one (psd_ret pd_bl))))))
theorem ok_set_within (T : Tx K mg) : Pd.FnP P w K mg base 9 T.a_set_within T.d_set_within ["affine", "other"] m_set_within := by
  exact Pd.fnp T.D_set_within sc_set_within fun cdv A outer s H E F hr hg => (show PSDs _ F _ (defBody s_set_within) r_set_within from (psd_cons (psd_expr (pd_call (takes_of rfl rfl rfl rfl) (ok_want_set T) (hr.mono (by decide)) hg T.g_want_set T.D_want_set.kp (b_want_set_0 T.D_want_set) .nil (fun _ _ => rfl) (pae_d (pd_var 0) pae_nil) pke_nil (lenE_cons lenE_nil) lenE_nil (bl_b_want_set_0)))
    (psd_cons (psd_expr (pd_call (takes_of rfl rfl rfl rfl) (ok_want_set T) (hr.mono (by decide)) hg T.g_want_set T.D_want_set.kp (b_want_set_0 T.D_want_set) .nil (fun _ _ => rfl) (pae_d (pd_var 1) pae_nil) pke_nil (lenE_cons lenE_nil) lenE_nil (bl_b_want_set_0)))
    (psd_cons (psd_if (pt_cmp1 (od_ne hr) (pd_B (cs_len) T.n_len (pad_cons (pd_ix (pd_var 0) pd_int) pad_nil)) (pd_B (cs_len) T.n_len (pad_cons (pd_ix (pd_var 1) pd_int) pad_nil))) (psd_one psd_never) psd_nil)
    (psd_one (psd_ret (pd_call (takes_of rfl rfl rfl rfl) (ok_is_within_set T) (hr.mono (by decide)) hg T.g_is_within_set T.D_is_within_set.kp (b_is_within_set_0 T.D_is_within_set) .nil (fun _ _ => rfl) (pae_d (pd_var 0) (pae_d (pd_var 1) pae_nil)) pke_nil (lenE_cons (lenE_cons lenE_nil)) lenE_nil (bl_b_is_within_set_0))))))))
theorem ok__law_draw (T : Tx K mg) : Pd.FnP P w K mg base 1 T.a__law_draw T.d__law_draw ["_law_pot_here", "_law_size"] m__law_draw := by
  exact Pd.fnp T.D__law_draw sc__law_draw fun cdv A outer s H E F hr hg => (show PSDs _ F _ (defBody s__law_draw) r__law_draw from (psd_cons (psd_if (pt_cmp1 od_gt (pd_potI 0 0) pd_int) (psd_cons (psd_potD 0 2 rfl sc__law_draw.nd T.n_divmod (pd_var 1))
    (psd_one (psd_ret (pd_var 2)))) psd_nil)
    (psd_cons (psd_potS 0 (pd_op od_mod (pd_Ty (cs_int) T.n_int (pad_cons (pd_op od_add2 (pd_op od_mul (pd_potI 0 1) pd_int) pd_int) pad_nil)) pd_int))
    (psd_one (psd_ret (pd_op od_mod (pd_Ty (cs_int) T.n_int (pad_cons (pd_op od_div (pd_op od_mod (pd_Ty (cs_int) T.n_int (pad_cons (pd_op od_mul (pd_potI 0 1) (pd_potI 0 1)) pad_nil)) pd_int) pd_int) pad_nil)) (pd_var 1)))))))
theorem ok__law_pick (T : Tx K mg) : Pd.FnP P w K mg base 2 T.a__law_pick T.d__law_pick ["_law_pot_here", "_law_some"] m__law_pick := by
  exact Pd.fnp T.D__law_pick sc__law_pick fun cdv A outer s H E F hr hg => (show PSDs _ F _ (defBody s__law_pick) r__law_pick from (psd_one (psd_ret (pd_ix (pd_var 1) (pd_call (takes_of rfl rfl rfl rfl) (ok__law_draw T) (hr.mono (by decide)) hg T.g__law_draw T.D__law_draw.kp (b__law_draw_0 T.D__law_draw) .nil (fun _ _ => rfl) (pae_p 0 (pae_d (pd_B (cs_len) T.n_len (pad_cons (pd_var 1) pad_nil)) pae_nil)) pke_nil (lenE_pot (lenE_cons lenE_nil)) lenE_nil (bl_b__law_draw_0))))))
theorem ok__law_made (T : Tx K mg) : Pd.FnP P w K mg base 1 T.a__law_made T.d__law_made ["_law_number", "_law_under"] m__law_made := by
  exact Pd.fnp T.D__law_made sc__law_made fun cdv A outer s H E F hr hg => (show PSDs _ F _ (defBody s__law_made) r__law_made from (psd_cons (psd_par (i := 2) (j := 3) rfl sc__law_made.nd (pad_cons (pd_B (cs_abs) T.n_abs (pad_cons (pd_var 0) pad_nil)) (pad_cons (pd_B (cs_abs) T.n_abs (pad_cons (pd_var 1) pad_nil)) pad_nil)))
    (psd_cons (psd_while 1000000000000000000000000000000000000000000000000000000000000000000000000000000000000000000000000000000000000000000000000000000000000000000000000000000000000000000000000000000000000000000000000000000000000000000000000000000000000000000000000000000000000000000000000000000000000000000000000000000000000000000000000000000000000000000000000000000000000000000000000000000000000000000000000000000000000000000000000000000000000000000000000000000000000000000000000000000000000000000000000000000000000000000000000000000000000000000000000000000000000000000000000000000000000000000000000000000000000000000000000000000000000000000000000000000000000000000000000000000000000000000000000000000000000000000000000000000000000000000000000000000000000000000000000000000000000000000000000000000000000000000000000000000000000000000000000000000000000000000000000000000000000000000000000000000000000000000000000000000000000000000000000000000000000000000000000000000000000000000000000000000000000000000000000000000000000000000000000000000000000000000000000000000000000000000000000000000000000000000000000000000000000000000000000000000000000000000000000000000000000000000000000000000000000000000000000000000000000000000000000000000000000000000000000000000000000000000000000000000000000000000000000000000000000000000000000000000000000000000000000000000000000000000000000000000000000000000000000000000000000000000000000000000000000000000000000000000000000000000000000000000000000000000000000000000000000000000000000000000000000000000000000000000000000000000000000000000000000000000000000000000000000000000000000000000000000000000000000000000000000000000000000000000000000000000000000000000000000000000000000000000000000000000000000000000000000000000000000000000000000000000000000000000000000000000000000000000000000000000000000000000000000000000000000000000000000000000000000000000000000000000000000000000000000000000000000000000000000000000000000000000000000000000000000000000000000000000000000000000000000000000000000000000000000000000000000000000000000000000000000000000000000000000000000000000000000000000000000000000000000000000000000000000000000000000000000000000000000000000000000000000000000000000000000000000000000000000000000000000000000000000000000000000000000000000000000000000000000000000000000000000000000000000000000000000000000000000000000000000000000000000000000000000000000000000000000000000000000000000000000000000000000000000000000000000000000000000000000000000000000000000000000000000000000000000000000000000000000000000000000000000000000000000000000000000000000000000000000000000000000000000000000000000000000000000000000000000000000000000000000000000000000000000000000000000000000000000000000000000000000 (passes_of rfl) (pt_cmp1 od_gt (pd_var 3) pd_int) (psd_one (psd_par (i := 2) (j := 3) rfl sc__law_made.nd (pad_cons (pd_var 3) (pad_cons (pd_op od_mod (pd_Ty (cs_int) T.n_int (pad_cons (pd_var 2) pad_nil)) (pd_var 3)) pad_nil)))))
    (psd_cons (psd_set 2 sc__law_made.nd (pd_ife (pt_cmp1 od_gt (pd_var 1) pd_int) (pd_var 2) (pd_op od_sub pd_int (pd_var 2))))
    (psd_one (psd_ret (pd_tup (pad_cons (pd_op od_div (pd_var 0) (pd_var 2)) (pad_cons (pd_op od_div (pd_var 1) (pd_var 2)) pad_nil)) (len_cons (len_cons len_nil)))))))))
theorem ok__law_ratio (T : Tx K mg) : Pd.FnP P w K mg base 3 T.a__law_ratio T.d__law_ratio ["_law_pot_here"] m__law_ratio := by
  exact Pd.fnp T.D__law_ratio sc__law_ratio fun cdv A outer s H E F hr hg => (show PSDs _ F _ (defBody s__law_ratio) r__law_ratio from (psd_one (psd_ret (pd_call (takes_of rfl rfl rfl rfl) (ok__law_made T) (hr.mono (by decide)) hg T.g__law_made T.D__law_made.kp (b__law_made_0 T.D__law_made) .nil (fun _ _ => rfl) (pae_d (pd_op od_sub (pd_call (takes_of rfl rfl rfl rfl) (ok__law_draw T) (hr.mono (by decide)) hg T.g__law_draw T.D__law_draw.kp (b__law_draw_0 T.D__law_draw) .nil (fun _ _ => rfl) (pae_p 0 (pae_d pd_int pae_nil)) pke_nil (lenE_pot (lenE_cons lenE_nil)) lenE_nil (bl_b__law_draw_0)) pd_int) (pae_d (pd_call (takes_of rfl rfl rfl rfl) (ok__law_pick T) (hr.mono (by decide)) hg T.g__law_pick T.D__law_pick.kp (b__law_pick_0 T.D__law_pick) .nil (fun _ _ => rfl) (pae_p 0 (pae_d (pd_frz (po_lst (pad_cons pd_int (pad_cons pd_int (pad_cons pd_int (pad_cons pd_int pad_nil)))) (len_cons (len_cons (len_cons (len_cons len_nil)))))) pae_nil)) pke_nil (lenE_pot (lenE_cons lenE_nil)) lenE_nil (bl_b__law_pick_0)) pae_nil)) pke_nil (lenE_cons (lenE_cons lenE_nil)) lenE_nil (bl_b__law_made_0)))))
theorem ok__law_row (T : Tx K mg) : Pd.FnP P w K mg base 4 T.a__law_row T.d__law_row ["_law_pot_here", "_law_many"] m__law_row := by
  exact Pd.fnp T.D__law_row sc__law_row fun cdv A outer s H E F hr hg => (show PSDs _ F _ (defBody s__law_row) r__law_row from (psd_cons (psd_setO 2 sc__law_row.nd (po_lst pad_nil len_nil))
    (psd_cons (psd_for (passes_of rfl) rfl (pid_rng1 T.n_range (pad_cons (pd_var 1) pad_nil)) (pgt_name sc__law_row.nd (i := 3)) (psd_one (psd_app 2 (pd_call (takes_of rfl rfl rfl rfl) (ok__law_ratio T) (hr.mono (by decide)) hg T.g__law_ratio T.D__law_ratio.kp (b__law_ratio_0 T.D__law_ratio) .nil (fun _ _ => rfl) (pae_p 0 pae_nil) pke_nil (lenE_pot lenE_nil) lenE_nil (bl_b__law_ratio_0)))))
    (psd_one (psd_frz 2 (psd_ret (pd_tupOf T.n_tuple (pad_cons (pd_var 2) pad_nil))))))))
theorem ok__law_end (T : Tx K mg) : Pd.FnP P w K mg base 3 T.a__law_end T.d__law_end ["_law_pot_here"] m__law_end := by
  exact Pd.fnp T.D__law_end sc__law_end fun cdv A outer s H E F hr hg => (show PSDs _ F _ (defBody s__law_end) r__law_end from (psd_one (psd_ret (pd_call (takes_of rfl rfl rfl rfl) (ok__law_pick T) (hr.mono (by decide)) hg T.g__law_pick T.D__law_pick.kp (b__law_pick_0 T.D__law_pick) .nil (fun _ _ => rfl) (pae_p 0 (pae_d (pd_frz (po_lst (pad_cons pd_int (pad_cons pd_int (pad_cons (pd_neg pd_int) (pad_cons pd_int (pad_cons (pd_neg pd_int) (pad_cons (pd_op od_pow pd_int pd_int) (pad_cons (pd_neg (pd_op od_pow pd_int pd_int)) (pad_cons (pd_op od_pow pd_int pd_int) (pad_cons (pd_op od_mul pd_int (pd_op od_pow pd_int pd_int)) (pad_cons (pd_neg (pd_op od_pow pd_int pd_int)) pad_nil)))))))))) (len_cons (len_cons (len_cons (len_cons (len_cons (len_cons (len_cons (len_cons (len_cons (len_cons len_nil)))))))))))) pae_nil)) pke_nil (lenE_pot (lenE_cons lenE_nil)) lenE_nil (bl_b__law_pick_0)))))
theorem ok__law_box (T : Tx K mg) : Pd.FnP P w K mg base 4 T.a__law_box T.d__law_box ["_law_pot_here", "_law_many"] m__law_box := by
  exact Pd.fnp T.D__law_box sc__law_box fun cdv A outer s H E F hr hg => (show PSDs _ F _ (defBody s__law_box) r__law_box from (psd_cons (psd_setO 2 sc__law_box.nd (po_lst pad_nil len_nil))
    (psd_cons (psd_for (passes_of rfl) rfl (pid_rng1 T.n_range (pad_cons (pd_var 1) pad_nil)) (pgt_name sc__law_box.nd (i := 3)) (psd_cons (psd_set 4 sc__law_box.nd (pd_call (takes_of rfl rfl rfl rfl) (ok__law_end T) (hr.mono (by decide)) hg T.g__law_end T.D__law_end.kp (b__law_end_0 T.D__law_end) .nil (fun _ _ => rfl) (pae_p 0 pae_nil) pke_nil (lenE_pot lenE_nil) lenE_nil (bl_b__law_end_0)))
    (psd_cons (psd_set 5 sc__law_box.nd (pd_call (takes_of rfl rfl rfl rfl) (ok__law_end T) (hr.mono (by decide)) hg T.g__law_end T.D__law_end.kp (b__law_end_0 T.D__law_end) .nil (fun _ _ => rfl) (pae_p 0 pae_nil) pke_nil (lenE_pot lenE_nil) lenE_nil (bl_b__law_end_0)))
    (psd_one (psd_app 2 (pd_tup (pad_cons (pd_B (cs_min rfl) T.n_min (pad_cons (pd_var 4) (pad_cons (pd_var 5) pad_nil))) (pad_cons (pd_B (cs_max rfl) T.n_max (pad_cons (pd_var 4) (pad_cons (pd_var 5) pad_nil))) pad_nil)) (len_cons (len_cons len_nil))))))))
    (psd_one (psd_frz 2 (psd_ret (pd_tupOf T.n_tuple (pad_cons (pd_var 2) pad_nil))))))))
theorem ok__law_matrix (T : Tx K mg) : Pd.FnP P w K mg base 5 T.a__law_matrix T.d__law_matrix ["_law_pot_here", "_law_many", "_law_long"] m__law_matrix := by
  exact Pd.fnp T.D__law_matrix sc__law_matrix fun cdv A outer s H E F hr hg => (show PSDs _ F _ (defBody s__law_matrix) r__law_matrix from (psd_cons (psd_setO 3 sc__law_matrix.nd (po_lst pad_nil len_nil))
    (psd_cons (psd_for (passes_of rfl) rfl (pid_rng1 T.n_range (pad_cons (pd_var 1) pad_nil)) (pgt_name sc__law_matrix.nd (i := 4)) (psd_one (psd_app 3 (pd_call (takes_of rfl rfl rfl rfl) (ok__law_row T) (hr.mono (by decide)) hg T.g__law_row T.D__law_row.kp (b__law_row_0 T.D__law_row) .nil (fun _ _ => rfl) (pae_p 0 (pae_d (pd_var 2) pae_nil)) pke_nil (lenE_pot (lenE_cons lenE_nil)) lenE_nil (bl_b__law_row_0)))))
    (psd_one (psd_frz 3 (psd_ret (pd_tupOf T.n_tuple (pad_cons (pd_var 3) pad_nil))))))))
theorem ok__law_unit (T : Tx K mg) : Pd.FnP P w K mg base 1 T.a__law_unit T.d__law_unit ["_law_many"] m__law_unit := by
  exact Pd.fnp T.D__law_unit sc__law_unit fun cdv A outer s H E F hr hg => (show PSDs _ F _ (defBody s__law_unit) r__law_unit from (psd_one (psd_ret (pd_tupOf T.n_tuple (pad_cons (pd_frz (po_comp [("_law_here", 2)] (.n 2) rfl sc__law_unit.nd (pid_rng1 T.n_range (pad_cons (pd_var 0) pad_nil)) (show BlkOk ["_law_many", "_law_at", "_law_here"] (defScope s__law_unit) _ _ from ⟨rfl, by decide +kernel, by decide +kernel, by decide +kernel, by decide +kernel⟩) (by first | (simp [Pd.TgtIn]; done) | (simp [Pd.TgtIn, Pd.in1]; done) | (simp [Pd.TgtIn, Pd.in1]; omega)) (fun s_ H_ C_ cl_ fp_ => (pg_name sc__law_unit.nd (i := 2) rfl (by first | exact Or.inl rfl | exact Or.inr rfl))) (fun F_ s_ H_ C_ cl_ fp_ => ptsd_nil) (fun F_ s_ H_ C_ cl_ fp_ => (pd_tupOf T.n_tuple (pad_cons (pd_frz (po_comp [("_law_at", 1)] (.n 1) rfl sc__law_unit.nd (pid_rng1 T.n_range (pad_cons (pd_var 0) pad_nil)) (Pd.blk_relabel (show BlkOk ["_law_many", "_law_at", "_law_here"] ({ kind := PySem.ScopeKind.function, names := [ (PySem.Str.ofString ".0", PySem.NameKind.local), (PySem.Str.ofString "_law_here", PySem.NameKind.cell), (PySem.Str.ofString "tuple", PySem.NameKind.globalImplicit), (PySem.Str.ofString "range", PySem.NameKind.globalImplicit), (PySem.Str.ofString "_law_many", PySem.NameKind.free)], isGenerator := false, isCoroutine := false, more := [] : PySem.Scope }) ({ kind := PySem.ScopeKind.function, names := [ (PySem.Str.ofString ".0", PySem.NameKind.local), (PySem.Str.ofString "_law_at", PySem.NameKind.local), (PySem.Str.ofString "int", PySem.NameKind.globalImplicit), (PySem.Str.ofString "_law_here", PySem.NameKind.free)], isGenerator := false, isCoroutine := false, more := [] : PySem.Scope }) [("_law_at", 1)] from ⟨rfl, by decide +kernel, by decide +kernel, by decide +kernel, by decide +kernel⟩)) (by first | (simp [Pd.TgtIn]; done) | (simp [Pd.TgtIn, Pd.in1]; done) | (simp [Pd.TgtIn, Pd.in1]; omega)) (fun s_ H_ C_ cl_ fp_ => (pg_name sc__law_unit.nd (i := 1) rfl (by first | exact Or.inl rfl | exact Or.inr rfl))) (fun F_ s_ H_ C_ cl_ fp_ => ptsd_nil) (fun F_ s_ H_ C_ cl_ fp_ => (pd_tup (pad_cons (pd_Ty (cs_int) T.n_int (pad_cons (pd_cmp (od_eq hr) (pd_var 1) (pd_var 2)) pad_nil)) (pad_cons pd_int pad_nil)) (len_cons (len_cons len_nil)))))) pad_nil))))) pad_nil)))))
theorem ok__law_sum (T : Tx K mg) : Pd.FnP P w K mg base 2 T.a__law_sum T.d__law_sum ["_law_one_here", "_law_other_here"] m__law_sum := by
  exact Pd.fnp T.D__law_sum sc__law_sum fun cdv A outer s H E F hr hg => (show PSDs _ F _ (defBody s__law_sum) r__law_sum from (psd_one (psd_ret (pd_call (takes_of rfl rfl rfl rfl) (ok__law_made T) (hr.mono (by decide)) hg T.g__law_made T.D__law_made.kp (b__law_made_0 T.D__law_made) .nil (fun _ _ => rfl) (pae_d (pd_op od_add2 (pd_op od_mul (pd_ix (pd_var 0) pd_int) (pd_ix (pd_var 1) pd_int)) (pd_op od_mul (pd_ix (pd_var 1) pd_int) (pd_ix (pd_var 0) pd_int))) (pae_d (pd_op od_mul (pd_ix (pd_var 0) pd_int) (pd_ix (pd_var 1) pd_int)) pae_nil)) pke_nil (lenE_cons (lenE_cons lenE_nil)) lenE_nil (bl_b__law_made_0)))))
theorem ok__law_times (T : Tx K mg) : Pd.FnP P w K mg base 2 T.a__law_times T.d__law_times ["_law_one_here", "_law_other_here"] m__law_times := by
  exact Pd.fnp T.D__law_times sc__law_times fun cdv A outer s H E F hr hg => (show PSDs _ F _ (defBody s__law_times) r__law_times from (psd_one (psd_ret (pd_call (takes_of rfl rfl rfl rfl) (ok__law_made T) (hr.mono (by decide)) hg T.g__law_made T.D__law_made.kp (b__law_made_0 T.D__law_made) .nil (fun _ _ => rfl) (pae_d (pd_op od_mul (pd_ix (pd_var 0) pd_int) (pd_ix (pd_var 1) pd_int)) (pae_d (pd_op od_mul (pd_ix (pd_var 0) pd_int) (pd_ix (pd_var 1) pd_int)) pae_nil)) pke_nil (lenE_cons (lenE_cons lenE_nil)) lenE_nil (bl_b__law_made_0)))))
theorem ok__law_less (T : Tx K mg) : Pd.FnP P w K mg base 3 T.a__law_less T.d__law_less ["_law_one_here", "_law_other_here"] m__law_less := by
  exact Pd.fnp T.D__law_less sc__law_less fun cdv A outer s H E F hr hg => (show PSDs _ F _ (defBody s__law_less) r__law_less from (psd_one (psd_ret (pd_call (takes_of rfl rfl rfl rfl) (ok__law_sum T) (hr.mono (by decide)) hg T.g__law_sum T.D__law_sum.kp (b__law_sum_0 T.D__law_sum) .nil (fun _ _ => rfl) (pae_d (pd_var 0) (pae_d (pd_tup (pad_cons (pd_op od_sub pd_int (pd_ix (pd_var 1) pd_int)) (pad_cons (pd_ix (pd_var 1) pd_int) pad_nil)) (len_cons (len_cons len_nil))) pae_nil)) pke_nil (lenE_cons (lenE_cons lenE_nil)) lenE_nil (bl_b__law_sum_0)))))
theorem ok__law_minor (T : Tx K mg) : Pd.FnP P w K mg base 1 T.a__law_minor T.d__law_minor ["_law_matrix_here", "_law_here", "_law_at"] m__law_minor := by
  exact Pd.fnp T.D__law_minor sc__law_minor fun cdv A outer s H E F hr hg => (show PSDs _ F _ (defBody s__law_minor) r__law_minor from (psd_cons (psd_set 3 sc__law_minor.nd (pd_op od_add2 (pd_sl (pd_var 0) pp_none (pp_some (pd_var 1))) (pd_sl (pd_var 0) (pp_some (pd_op od_add2 (pd_var 1) pd_int)) pp_none)))
    (psd_one (psd_ret (pd_tupOf T.n_tuple (pad_cons (pd_frz (po_comp [("_law_row_here", 4)] (.n 4) rfl sc__law_minor.nd (pid_seq (pd_var 3)) (show BlkOk ["_law_matrix_here", "_law_here", "_law_at", "_law_rows", "_law_row_here"] (defScope s__law_minor) _ _ from ⟨rfl, by decide +kernel, by decide +kernel, by decide +kernel, by decide +kernel⟩) (by first | (simp [Pd.TgtIn]; done) | (simp [Pd.TgtIn, Pd.in1]; done) | (simp [Pd.TgtIn, Pd.in1]; omega)) (fun s_ H_ C_ cl_ fp_ => (pg_name sc__law_minor.nd (i := 4) rfl (by first | exact Or.inl rfl | exact Or.inr rfl))) (fun F_ s_ H_ C_ cl_ fp_ => ptsd_nil) (fun F_ s_ H_ C_ cl_ fp_ => (pd_op od_add2 (pd_sl (pd_var 4) pp_none (pp_some (pd_var 2))) (pd_sl (pd_var 4) (pp_some (pd_op od_add2 (pd_var 2) pd_int)) pp_none))))) pad_nil))))))
theorem ok__law_det (T : Tx K mg) : ∀ n, Pd.FnP P w K mg base (4 + n) T.a__law_det T.d__law_det ["_law_matrix_here"] (m__law_det n)
  | 0 => Pd.FnP.none
  | n + 1 => by
    exact Pd.fnp T.D__law_det sc__law_det fun cdv A outer s H E F hr hg => (show PSDs _ F _ (defBody s__law_det) (r__law_det (m__law_det n)) from (psd_cons (psd_if (pt_cmp1 (od_eq hr) (pd_B (cs_len) T.n_len (pad_cons (pd_var 0) pad_nil)) pd_int) (psd_one (psd_ret (pd_ix (pd_ix (pd_var 0) pd_int) pd_int))) psd_nil)
    (psd_cons (psd_set 1 sc__law_det.nd (pd_tup (pad_cons pd_int (pad_cons pd_int pad_nil)) (len_cons (len_cons len_nil))))
    (psd_cons (psd_for (passes_of rfl) rfl (pid_enum2 T.n_enumerate (pad_cons (pd_ix (pd_var 0) pd_int) pad_nil)) (pgt_tup rfl (pgts_cons (i := 2) sc__law_det.nd (pgts_cons (i := 3) sc__law_det.nd pgts_nil))) (psd_cons (psd_set 4 sc__law_det.nd (pd_call (takes_of rfl rfl rfl rfl) (ok__law_times T) (hr.mono (by first | exact Nat.le_refl _ | exact Nat.le_trans (by decide) (Nat.le_add_right _ _))) hg T.g__law_times T.D__law_times.kp (b__law_times_0 T.D__law_times) .nil (fun _ _ => rfl) (pae_d (pd_var 3) (pae_d (pd_call (takes_of rfl rfl rfl rfl) (ok__law_det T n) (hr.mono (by first | exact Nat.le_refl _ | exact Nat.le_trans (by decide) (Nat.le_add_right _ _))) hg T.g__law_det T.D__law_det.kp (b__law_det_0 T.D__law_det) .nil (fun _ _ => rfl) (pae_d (pd_call (takes_of rfl rfl rfl rfl) (ok__law_minor T) (hr.mono (by first | exact Nat.le_refl _ | exact Nat.le_trans (by decide) (Nat.le_add_right _ _))) hg T.g__law_minor T.D__law_minor.kp (b__law_minor_0 T.D__law_minor) .nil (fun _ _ => rfl) (pae_d (pd_var 0) (pae_d pd_int (pae_d (pd_var 2) pae_nil))) pke_nil (lenE_cons (lenE_cons (lenE_cons lenE_nil))) lenE_nil (bl_b__law_minor_0)) pae_nil) pke_nil (lenE_cons lenE_nil) lenE_nil (bl_b__law_det_0)) pae_nil)) pke_nil (lenE_cons (lenE_cons lenE_nil)) lenE_nil (bl_b__law_times_0)))
    (psd_one (psd_set 1 sc__law_det.nd (pd_ife (pt_cmp1 (od_eq hr) (pd_op od_sub (pd_var 2) (pd_op od_mul (pd_op od_div (pd_var 2) pd_int) pd_int)) pd_int) (pd_call (takes_of rfl rfl rfl rfl) (ok__law_sum T) (hr.mono (by first | exact Nat.le_refl _ | exact Nat.le_trans (by decide) (Nat.le_add_right _ _))) hg T.g__law_sum T.D__law_sum.kp (b__law_sum_0 T.D__law_sum) .nil (fun _ _ => rfl) (pae_d (pd_var 1) (pae_d (pd_var 4) pae_nil)) pke_nil (lenE_cons (lenE_cons lenE_nil)) lenE_nil (bl_b__law_sum_0)) (pd_call (takes_of rfl rfl rfl rfl) (ok__law_less T) (hr.mono (by first | exact Nat.le_refl _ | exact Nat.le_trans (by decide) (Nat.le_add_right _ _))) hg T.g__law_less T.D__law_less.kp (b__law_less_0 T.D__law_less) .nil (fun _ _ => rfl) (pae_d (pd_var 1) (pae_d (pd_var 4) pae_nil)) pke_nil (lenE_cons (lenE_cons lenE_nil)) lenE_nil (bl_b__law_less_0)))))))
    (psd_one (psd_ret (pd_var 1)))))))
theorem ok__law_strong (T : Tx K mg) : Pd.FnP P w K mg base 17 T.a__law_strong T.d__law_strong ["_law_pot_here", "_law_many"] m__law_strong := by
  exact Pd.fnp T.D__law_strong sc__law_strong fun cdv A outer s H E F hr hg => (show PSDs _ F _ (defBody s__law_strong) r__law_strong from (psd_cons (psd_set 2 sc__law_strong.nd (pd_call (takes_of rfl rfl rfl rfl) (ok__law_matrix T) (hr.mono (by decide)) hg T.g__law_matrix T.D__law_matrix.kp (b__law_matrix_0 T.D__law_matrix) .nil (fun _ _ => rfl) (pae_p 0 (pae_d (pd_var 1) (pae_d (pd_var 1) pae_nil))) pke_nil (lenE_pot (lenE_cons (lenE_cons lenE_nil))) lenE_nil (bl_b__law_matrix_0)))
    (psd_one (psd_ret (pd_ife (pt_cmp1 (od_ne hr) (pd_ix (pd_call (takes_of rfl rfl rfl rfl) (ok__law_det T 12) (hr.mono (by decide)) hg T.g__law_det T.D__law_det.kp (b__law_det_0 T.D__law_det) .nil (fun _ _ => rfl) (pae_d (pd_var 2) pae_nil) pke_nil (lenE_cons lenE_nil) lenE_nil (bl_b__law_det_0)) pd_int) pd_int) (pd_var 2) (pd_call (takes_of rfl rfl rfl rfl) (ok__law_unit T) (hr.mono (by decide)) hg T.g__law_unit T.D__law_unit.kp (b__law_unit_0 T.D__law_unit) .nil (fun _ _ => rfl) (pae_d (pd_var 1) pae_nil) pke_nil (lenE_cons lenE_nil) lenE_nil (bl_b__law_unit_0)))))))
theorem ok__law_set (T : Tx K mg) : Pd.FnP P w K mg base 18 T.a__law_set T.d__law_set ["_law_pot_here", "_law_many"] m__law_set := by
  exact Pd.fnp T.D__law_set sc__law_set fun cdv A outer s H E F hr hg => (show PSDs _ F _ (defBody s__law_set) r__law_set from (psd_cons (psd_set 2 sc__law_set.nd (pd_call (takes_of rfl rfl rfl rfl) (ok__law_row T) (hr.mono (by decide)) hg T.g__law_row T.D__law_row.kp (b__law_row_0 T.D__law_row) .nil (fun _ _ => rfl) (pae_p 0 (pae_d (pd_var 1) pae_nil)) pke_nil (lenE_pot (lenE_cons lenE_nil)) lenE_nil (bl_b__law_row_0)))
    (psd_cons (psd_set 3 sc__law_set.nd (pd_call (takes_of rfl rfl rfl rfl) (ok__law_strong T) (hr.mono (by decide)) hg T.g__law_strong T.D__law_strong.kp (b__law_strong_0 T.D__law_strong) .nil (fun _ _ => rfl) (pae_p 0 (pae_d (pd_var 1) pae_nil)) pke_nil (lenE_pot (lenE_cons lenE_nil)) lenE_nil (bl_b__law_strong_0)))
    (psd_one (psd_ret (pd_tup (pad_cons pd_str (pad_cons (pd_var 2) (pad_cons (pd_var 3) (pad_cons (pd_call (takes_of rfl rfl rfl rfl) (ok__law_box T) (hr.mono (by decide)) hg T.g__law_box T.D__law_box.kp (b__law_box_0 T.D__law_box) .nil (fun _ _ => rfl) (pae_p 0 (pae_d (pd_var 1) pae_nil)) pke_nil (lenE_pot (lenE_cons lenE_nil)) lenE_nil (bl_b__law_box_0)) pad_nil)))) (len_cons (len_cons (len_cons (len_cons len_nil))))))))))
theorem ok__law_dot (T : Tx K mg) : Pd.FnP P w K mg base 3 T.a__law_dot T.d__law_dot ["_law_one_here", "_law_other_here"] m__law_dot := by
  exact Pd.fnp T.D__law_dot sc__law_dot fun cdv A outer s H E F hr hg => (show PSDs _ F _ (defBody s__law_dot) r__law_dot from (psd_cons (psd_set 2 sc__law_dot.nd (pd_tup (pad_cons pd_int (pad_cons pd_int pad_nil)) (len_cons (len_cons len_nil))))
    (psd_cons (psd_for (passes_of rfl) rfl (pid_zipB T.n_zip (pad_cons (pd_var 0) (pad_cons (pd_var 1) pad_nil))) (pgt_tup rfl (pgts_cons (i := 3) sc__law_dot.nd (pgts_cons (i := 4) sc__law_dot.nd pgts_nil))) (psd_one (psd_set 2 sc__law_dot.nd (pd_call (takes_of rfl rfl rfl rfl) (ok__law_sum T) (hr.mono (by decide)) hg T.g__law_sum T.D__law_sum.kp (b__law_sum_0 T.D__law_sum) .nil (fun _ _ => rfl) (pae_d (pd_var 2) (pae_d (pd_call (takes_of rfl rfl rfl rfl) (ok__law_times T) (hr.mono (by decide)) hg T.g__law_times T.D__law_times.kp (b__law_times_0 T.D__law_times) .nil (fun _ _ => rfl) (pae_d (pd_var 3) (pae_d (pd_var 4) pae_nil)) pke_nil (lenE_cons (lenE_cons lenE_nil)) lenE_nil (bl_b__law_times_0)) pae_nil)) pke_nil (lenE_cons (lenE_cons lenE_nil)) lenE_nil (bl_b__law_sum_0)))))
    (psd_one (psd_ret (pd_var 2))))))
theorem ok__law_led (T : Tx K mg) : Pd.FnP P w K mg base 4 T.a__law_led T.d__law_led ["_law_matrix_here", "_law_row_here"] m__law_led := by
  exact Pd.fnp T.D__law_led sc__law_led fun cdv A outer s H E F hr hg => (show PSDs _ F _ (defBody s__law_led) r__law_led from (psd_one (psd_ret (pd_tupOf T.n_tuple (pad_cons (pd_frz (po_comp [("_law_line", 2)] (.n 2) rfl sc__law_led.nd (pid_seq (pd_var 0)) (show BlkOk ["_law_matrix_here", "_law_row_here", "_law_line"] (defScope s__law_led) _ _ from ⟨rfl, by decide +kernel, by decide +kernel, by decide +kernel, by decide +kernel⟩) (by first | (simp [Pd.TgtIn]; done) | (simp [Pd.TgtIn, Pd.in1]; done) | (simp [Pd.TgtIn, Pd.in1]; omega)) (fun s_ H_ C_ cl_ fp_ => (pg_name sc__law_led.nd (i := 2) rfl (by first | exact Or.inl rfl | exact Or.inr rfl))) (fun F_ s_ H_ C_ cl_ fp_ => ptsd_nil) (fun F_ s_ H_ C_ cl_ fp_ => (pd_call tk_none (ok__law_dot T) (hr.mono (by decide)) hg T.g__law_dot T.D__law_dot.kp (b__law_dot_0 T.D__law_dot) .nil (fun _ _ => rfl) (pae_d (pd_var 2) (pae_d (pd_var 1) pae_nil)) pke_nil (lenE_cons (lenE_cons lenE_nil)) lenE_nil (bl_b__law_dot_0))))) pad_nil)))))
theorem ok__law_inverse (T : Tx K mg) : Pd.FnP P w K mg base 17 T.a__law_inverse T.d__law_inverse ["_law_matrix_here"] m__law_inverse := by
  exact Pd.fnp T.D__law_inverse sc__law_inverse fun cdv A outer s H E F hr hg => (show PSDs _ F _ (defBody s__law_inverse) r__law_inverse from (psd_cons (psd_par (i := 1) (j := 2) rfl sc__law_inverse.nd (pad_cons (pd_call (takes_of rfl rfl rfl rfl) (ok__law_det T 12) (hr.mono (by decide)) hg T.g__law_det T.D__law_det.kp (b__law_det_0 T.D__law_det) .nil (fun _ _ => rfl) (pae_d (pd_var 0) pae_nil) pke_nil (lenE_cons lenE_nil) lenE_nil (bl_b__law_det_0)) (pad_cons (pd_B (cs_len) T.n_len (pad_cons (pd_var 0) pad_nil)) pad_nil)))
    (psd_cons (psd_if (pt_cmp1 (od_eq hr) (pd_ix (pd_var 1) pd_int) pd_int) (psd_one (psd_ret pd_non)) psd_nil)
    (psd_cons (psd_setO 3 sc__law_inverse.nd (po_lst pad_nil len_nil))
    (psd_cons (psd_for (passes_of rfl) rfl (pid_rng1 T.n_range (pad_cons (pd_var 2) pad_nil)) (pgt_name sc__law_inverse.nd (i := 4)) (psd_cons (psd_setO 5 sc__law_inverse.nd (po_lst pad_nil len_nil))
    (psd_cons (psd_for (passes_of rfl) rfl (pid_rng1 T.n_range (pad_cons (pd_var 2) pad_nil)) (pgt_name sc__law_inverse.nd (i := 6)) (psd_cons (psd_set 7 sc__law_inverse.nd (pd_ife (pt_cmp1 (od_eq hr) (pd_var 2) pd_int) (pd_tup (pad_cons pd_int (pad_cons pd_int pad_nil)) (len_cons (len_cons len_nil))) (pd_call (takes_of rfl rfl rfl rfl) (ok__law_det T 12) (hr.mono (by decide)) hg T.g__law_det T.D__law_det.kp (b__law_det_0 T.D__law_det) .nil (fun _ _ => rfl) (pae_d (pd_call (takes_of rfl rfl rfl rfl) (ok__law_minor T) (hr.mono (by decide)) hg T.g__law_minor T.D__law_minor.kp (b__law_minor_0 T.D__law_minor) .nil (fun _ _ => rfl) (pae_d (pd_var 0) (pae_d (pd_var 6) (pae_d (pd_var 4) pae_nil))) pke_nil (lenE_cons (lenE_cons (lenE_cons lenE_nil))) lenE_nil (bl_b__law_minor_0)) pae_nil) pke_nil (lenE_cons lenE_nil) lenE_nil (bl_b__law_det_0))))
    (psd_cons (psd_set 8 sc__law_inverse.nd (pd_op od_sub pd_int (pd_op od_mul (pd_op od_sub (pd_op od_add2 (pd_var 4) (pd_var 6)) (pd_op od_mul (pd_op od_div (pd_op od_add2 (pd_var 4) (pd_var 6)) pd_int) pd_int)) pd_int)))
    (psd_one (psd_app 5 (pd_call (takes_of rfl rfl rfl rfl) (ok__law_made T) (hr.mono (by decide)) hg T.g__law_made T.D__law_made.kp (b__law_made_0 T.D__law_made) .nil (fun _ _ => rfl) (pae_d (pd_op od_mul (pd_op od_mul (pd_ix (pd_var 7) pd_int) (pd_var 8)) (pd_ix (pd_var 1) pd_int)) (pae_d (pd_op od_mul (pd_ix (pd_var 7) pd_int) (pd_ix (pd_var 1) pd_int)) pae_nil)) pke_nil (lenE_cons (lenE_cons lenE_nil)) lenE_nil (bl_b__law_made_0)))))))
    (psd_one (psd_frz 5 (psd_app 3 (pd_tupOf T.n_tuple (pad_cons (pd_var 5) pad_nil))))))))
    (psd_one (psd_frz 3 (psd_ret (pd_tupOf T.n_tuple (pad_cons (pd_var 3) pad_nil))))))))))
theorem ok__law_point (T : Tx K mg) : Pd.FnP P w K mg base 5 T.a__law_point T.d__law_point ["_law_one_here", "_law_row_here"] m__law_point := by
  exact Pd.fnp T.D__law_point sc__law_point fun cdv A outer s H E F hr hg => (show PSDs _ F _ (defBody s__law_point) r__law_point from (psd_cons (psd_set 2 sc__law_point.nd (pd_call (takes_of rfl rfl rfl rfl) (ok__law_led T) (hr.mono (by decide)) hg T.g__law_led T.D__law_led.kp (b__law_led_0 T.D__law_led) .nil (fun _ _ => rfl) (pae_d (pd_ix (pd_var 0) pd_int) (pae_d (pd_var 1) pae_nil)) pke_nil (lenE_cons (lenE_cons lenE_nil)) lenE_nil (bl_b__law_led_0)))
    (psd_one (psd_ret (pd_tupOf T.n_tuple (pad_cons (pd_frz (po_comp [("_law_near_here", 3), ("_law_far", 4)] (.t [3, 4]) rfl sc__law_point.nd (pid_zipB T.n_zip (pad_cons (pd_ix (pd_var 0) pd_int) (pad_cons (pd_var 2) pad_nil))) (show BlkOk ["_law_one_here", "_law_row_here", "_law_led_here", "_law_near_here", "_law_far"] (defScope s__law_point) _ _ from ⟨rfl, by decide +kernel, by decide +kernel, by decide +kernel, by decide +kernel⟩) (by first | (simp [Pd.TgtIn]; done) | (simp [Pd.TgtIn, Pd.in1]; done) | (simp [Pd.TgtIn, Pd.in1]; omega)) (fun s_ H_ C_ cl_ fp_ => (pg_tup rfl (pgts_cons (i := 3) sc__law_point.nd (pgts_cons (i := 4) sc__law_point.nd pgts_nil)))) (fun F_ s_ H_ C_ cl_ fp_ => ptsd_nil) (fun F_ s_ H_ C_ cl_ fp_ => (pd_call tk_none (ok__law_sum T) (hr.mono (by decide)) hg T.g__law_sum T.D__law_sum.kp (b__law_sum_0 T.D__law_sum) .nil (fun _ _ => rfl) (pae_d (pd_var 3) (pae_d (pd_var 4) pae_nil)) pke_nil (lenE_cons (lenE_cons lenE_nil)) lenE_nil (bl_b__law_sum_0))))) pad_nil))))))
theorem ok__law_one (T : Tx K mg) : Pd.FnP P w K mg base 1 T.a__law_one T.d__law_one [] m__law_one := by
  exact Pd.fnp T.D__law_one sc__law_one fun cdv A outer s H E F hr hg => (show PSDs _ F _ (defBody s__law_one) r__law_one from (psd_one (psd_ret pd_int)))
theorem ok__law_has (T : Tx K mg) : Pd.FnP P w K mg base 2 T.a__law_has T.d__law_has ["_law_box_here", "_law_row_here"] m__law_has := by
  exact Pd.fnp T.D__law_has sc__law_has fun cdv A outer s H E F hr hg => (show PSDs _ F _ (defBody s__law_has) r__law_has from (psd_cons (psd_for (passes_of rfl) rfl (pid_zipB T.n_zip (pad_cons (pd_var 0) (pad_cons (pd_var 1) pad_nil))) (pgt_mix rfl (pgms_t rfl (pgts_cons (i := 2) sc__law_has.nd (pgts_cons (i := 3) sc__law_has.nd pgts_nil)) (pgms_t rfl (pgts_cons (i := 4) sc__law_has.nd (pgts_cons (i := 5) sc__law_has.nd pgts_nil)) pgms_nil))) (psd_one (psd_if (ptd_not (pt_chn (pd_op od_mul (pd_var 2) (pd_var 5)) (pcd_link od_le (pd_op od_mul (pd_var 4) (pd_call0 (takes_of rfl rfl rfl rfl) (ok__law_one T) (hr.mono (by decide)) hg T.g__law_one T.D__law_one.kp (b__law_one_0 T.D__law_one) .nil (fun _ _ => rfl) pke_nil lenE_nil (bl_b__law_one_0))) (pcd_last od_le (pd_op od_mul (pd_var 3) (pd_var 5)))))) (psd_one (psd_ret pd_bl)) psd_nil)))
    (psd_one (psd_ret pd_bl))))
theorem ok__law_corners (T : Tx K mg) : Pd.FnP P w K mg base 2 T.a__law_corners T.d__law_corners ["_law_box_here"] m__law_corners := by
  exact Pd.fnp T.D__law_corners sc__law_corners fun cdv A outer s H E F hr hg => (show PSDs _ F _ (defBody s__law_corners) r__law_corners from (psd_cons (psd_set 1 sc__law_corners.nd (pd_frz (po_lst (pad_cons (pd_tup pad_nil len_nil) pad_nil) (len_cons len_nil))))
    (psd_cons (psd_for (passes_of rfl) rfl (pid_seq (pd_var 0)) (pgt_tup rfl (pgts_cons (i := 2) sc__law_corners.nd (pgts_cons (i := 3) sc__law_corners.nd pgts_nil))) (psd_cons (psd_setO 4 sc__law_corners.nd (po_lst pad_nil len_nil))
    (psd_cons (psd_for (passes_of rfl) rfl (pid_seq (pd_var 1)) (pgt_name sc__law_corners.nd (i := 5)) (psd_one (psd_for (passes_of rfl) rfl (pid_seq (pd_frz (po_lst (pad_cons (pd_var 2) (pad_cons (pd_var 3) pad_nil)) (len_cons (len_cons len_nil))))) (pgt_name sc__law_corners.nd (i := 6)) (psd_one (psd_app 4 (pd_op od_add2 (pd_var 5) (pd_tup (pad_cons (pd_call (takes_of rfl rfl rfl rfl) (ok__law_made T) (hr.mono (by decide)) hg T.g__law_made T.D__law_made.kp (b__law_made_0 T.D__law_made) .nil (fun _ _ => rfl) (pae_d (pd_var 6) (pae_d (pd_call0 (takes_of rfl rfl rfl rfl) (ok__law_one T) (hr.mono (by decide)) hg T.g__law_one T.D__law_one.kp (b__law_one_0 T.D__law_one) .nil (fun _ _ => rfl) pke_nil lenE_nil (bl_b__law_one_0)) pae_nil)) pke_nil (lenE_cons (lenE_cons lenE_nil)) lenE_nil (bl_b__law_made_0)) pad_nil) (len_cons len_nil))))))))
    (psd_one (psd_frz 4 (psd_set 1 sc__law_corners.nd (pd_var 4)))))))
    (psd_one (psd_ret (pd_var 1))))))
theorem ok__law_within (T : Tx K mg) : Pd.FnP P w K mg base 18 T.a__law_within T.d__law_within ["_law_one_here", "_law_other_here"] m__law_within := by
  exact Pd.fnp T.D__law_within sc__law_within fun cdv A outer s H E F hr hg => (show PSDs _ F _ (defBody s__law_within) r__law_within from (psd_cons (psd_set 2 sc__law_within.nd (pd_call (takes_of rfl rfl rfl rfl) (ok__law_inverse T) (hr.mono (by decide)) hg T.g__law_inverse T.D__law_inverse.kp (b__law_inverse_0 T.D__law_inverse) .nil (fun _ _ => rfl) (pae_d (pd_ix (pd_var 1) pd_int) pae_nil) pke_nil (lenE_cons lenE_nil) lenE_nil (bl_b__law_inverse_0)))
    (psd_cons (psd_for (passes_of rfl) rfl (pid_seq (pd_call (takes_of rfl rfl rfl rfl) (ok__law_corners T) (hr.mono (by decide)) hg T.g__law_corners T.D__law_corners.kp (b__law_corners_0 T.D__law_corners) .nil (fun _ _ => rfl) (pae_d (pd_ix (pd_var 0) pd_int) pae_nil) pke_nil (lenE_cons lenE_nil) lenE_nil (bl_b__law_corners_0))) (pgt_name sc__law_within.nd (i := 3)) (psd_cons (psd_set 4 sc__law_within.nd (pd_call (takes_of rfl rfl rfl rfl) (ok__law_point T) (hr.mono (by decide)) hg T.g__law_point T.D__law_point.kp (b__law_point_0 T.D__law_point) .nil (fun _ _ => rfl) (pae_d (pd_var 0) (pae_d (pd_var 3) pae_nil)) pke_nil (lenE_cons (lenE_cons lenE_nil)) lenE_nil (bl_b__law_point_0)))
    (psd_cons (psd_set 5 sc__law_within.nd (pd_tupOf T.n_tuple (pad_cons (pd_frz (po_comp [("_law_near_here", 6), ("_law_far", 7)] (.t [6, 7]) rfl sc__law_within.nd (pid_zipB T.n_zip (pad_cons (pd_var 4) (pad_cons (pd_ix (pd_var 1) pd_int) pad_nil))) (show BlkOk ["_law_one_here", "_law_other_here", "_law_back", "_law_row_here", "_law_point_here", "_law_rest", "_law_near_here", "_law_far"] (defScope s__law_within) _ _ from ⟨rfl, by decide +kernel, by decide +kernel, by decide +kernel, by decide +kernel⟩) (by first | (simp [Pd.TgtIn]; done) | (simp [Pd.TgtIn, Pd.in1]; done) | (simp [Pd.TgtIn, Pd.in1]; omega)) (fun s_ H_ C_ cl_ fp_ => (pg_tup rfl (pgts_cons (i := 6) sc__law_within.nd (pgts_cons (i := 7) sc__law_within.nd pgts_nil)))) (fun F_ s_ H_ C_ cl_ fp_ => ptsd_nil) (fun F_ s_ H_ C_ cl_ fp_ => (pd_call tk_none (ok__law_less T) (hr.mono (by decide)) hg T.g__law_less T.D__law_less.kp (b__law_less_0 T.D__law_less) .nil (fun _ _ => rfl) (pae_d (pd_var 6) (pae_d (pd_var 7) pae_nil)) pke_nil (lenE_cons (lenE_cons lenE_nil)) lenE_nil (bl_b__law_less_0))))) pad_nil)))
    (psd_one (psd_if (ptd_not (pt_bool (pd_call (takes_of rfl rfl rfl rfl) (ok__law_has T) (hr.mono (by decide)) hg T.g__law_has T.D__law_has.kp (b__law_has_0 T.D__law_has) .nil (fun _ _ => rfl) (pae_d (pd_ix (pd_var 1) pd_int) (pae_d (pd_call (takes_of rfl rfl rfl rfl) (ok__law_led T) (hr.mono (by decide)) hg T.g__law_led T.D__law_led.kp (b__law_led_0 T.D__law_led) .nil (fun _ _ => rfl) (pae_d (pd_var 2) (pae_d (pd_var 5) pae_nil)) pke_nil (lenE_cons (lenE_cons lenE_nil)) lenE_nil (bl_b__law_led_0)) pae_nil)) pke_nil (lenE_cons (lenE_cons lenE_nil)) lenE_nil (bl_b__law_has_0)))) (psd_one (psd_ret pd_bl)) psd_nil)))))
    (psd_one (psd_ret pd_bl)))))
theorem ok__law_floor (T : Tx K mg) : Pd.FnP P w K mg base 1 T.a__law_floor T.d__law_floor ["_law_ratio_here"] m__law_floor := by
  exact Pd.fnp T.D__law_floor sc__law_floor fun cdv A outer s H E F hr hg => (show PSDs _ F _ (defBody s__law_floor) r__law_floor from (psd_one (psd_ret (pd_op od_div (pd_ix (pd_var 0) pd_int) (pd_ix (pd_var 0) pd_int)))))
theorem ok__law_ceiling (T : Tx K mg) : Pd.FnP P w K mg base 1 T.a__law_ceiling T.d__law_ceiling ["_law_ratio_here"] m__law_ceiling := by
  exact Pd.fnp T.D__law_ceiling sc__law_ceiling fun cdv A outer s H E F hr hg => (show PSDs _ F _ (defBody s__law_ceiling) r__law_ceiling from (psd_one (psd_ret (pd_op od_sub pd_int (pd_op od_div (pd_op od_sub pd_int (pd_ix (pd_var 0) pd_int)) (pd_ix (pd_var 0) pd_int))))))
theorem ok__law_hull (T : Tx K mg) : Pd.FnP P w K mg base 3 T.a__law_hull T.d__law_hull ["_law_one_here"] m__law_hull := by
  exact Pd.fnp T.D__law_hull sc__law_hull fun cdv A outer s H E F hr hg => (show PSDs _ F _ (defBody s__law_hull) r__law_hull from (psd_cons (psd_setO 1 sc__law_hull.nd (po_lst pad_nil len_nil))
    (psd_cons (psd_for (passes_of rfl) rfl (pid_zipB T.n_zip (pad_cons (pd_ix (pd_var 0) pd_int) (pad_cons (pd_ix (pd_var 0) pd_int) pad_nil))) (pgt_tup rfl (pgts_cons (i := 2) sc__law_hull.nd (pgts_cons (i := 3) sc__law_hull.nd pgts_nil))) (psd_cons (psd_set 4 sc__law_hull.nd (pd_call (takes_of rfl rfl rfl rfl) (ok__law_times T) (hr.mono (by decide)) hg T.g__law_times T.D__law_times.kp (b__law_times_0 T.D__law_times) .nil (fun _ _ => rfl) (pae_d (pd_var 2) (pae_d (pd_tup (pad_cons (pd_call0 (takes_of rfl rfl rfl rfl) (ok__law_one T) (hr.mono (by decide)) hg T.g__law_one T.D__law_one.kp (b__law_one_0 T.D__law_one) .nil (fun _ _ => rfl) pke_nil lenE_nil (bl_b__law_one_0)) (pad_cons pd_int pad_nil)) (len_cons (len_cons len_nil))) pae_nil)) pke_nil (lenE_cons (lenE_cons lenE_nil)) lenE_nil (bl_b__law_times_0)))
    (psd_cons (psd_par (i := 5) (j := 6) rfl sc__law_hull.nd (pad_cons (pd_call (takes_of rfl rfl rfl rfl) (ok__law_floor T) (hr.mono (by decide)) hg T.g__law_floor T.D__law_floor.kp (b__law_floor_0 T.D__law_floor) .nil (fun _ _ => rfl) (pae_d (pd_var 4) pae_nil) pke_nil (lenE_cons lenE_nil) lenE_nil (bl_b__law_floor_0)) (pad_cons (pd_call (takes_of rfl rfl rfl rfl) (ok__law_ceiling T) (hr.mono (by decide)) hg T.g__law_ceiling T.D__law_ceiling.kp (b__law_ceiling_0 T.D__law_ceiling) .nil (fun _ _ => rfl) (pae_d (pd_var 4) pae_nil) pke_nil (lenE_cons lenE_nil) lenE_nil (bl_b__law_ceiling_0)) pad_nil)))
    (psd_cons (psd_for (passes_of rfl) rfl (pid_zipB T.n_zip (pad_cons (pd_var 3) (pad_cons (pd_ix (pd_var 0) pd_int) pad_nil))) (pgt_mix rfl (pgms_n (i := 7) sc__law_hull.nd (pgms_t rfl (pgts_cons (i := 8) sc__law_hull.nd (pgts_cons (i := 9) sc__law_hull.nd pgts_nil)) pgms_nil))) (psd_cons (psd_set 10 sc__law_hull.nd (pd_frz (po_lst (pad_cons (pd_call (takes_of rfl rfl rfl rfl) (ok__law_times T) (hr.mono (by decide)) hg T.g__law_times T.D__law_times.kp (b__law_times_0 T.D__law_times) .nil (fun _ _ => rfl) (pae_d (pd_var 7) (pae_d (pd_tup (pad_cons (pd_var 8) (pad_cons pd_int pad_nil)) (len_cons (len_cons len_nil))) pae_nil)) pke_nil (lenE_cons (lenE_cons lenE_nil)) lenE_nil (bl_b__law_times_0)) (pad_cons (pd_call (takes_of rfl rfl rfl rfl) (ok__law_times T) (hr.mono (by decide)) hg T.g__law_times T.D__law_times.kp (b__law_times_0 T.D__law_times) .nil (fun _ _ => rfl) (pae_d (pd_var 7) (pae_d (pd_tup (pad_cons (pd_var 9) (pad_cons pd_int pad_nil)) (len_cons (len_cons len_nil))) pae_nil)) pke_nil (lenE_cons (lenE_cons lenE_nil)) lenE_nil (bl_b__law_times_0)) pad_nil)) (len_cons (len_cons len_nil)))))
    (psd_cons (psd_set 10 sc__law_hull.nd (pd_ife (pt_cmp1 od_ge (pd_ix (pd_var 7) pd_int) pd_int) (pd_var 10) (pd_revL (pd_var 10))))
    (psd_one (psd_par (i := 5) (j := 6) rfl sc__law_hull.nd (pad_cons (pd_op od_add2 (pd_var 5) (pd_call (takes_of rfl rfl rfl rfl) (ok__law_floor T) (hr.mono (by decide)) hg T.g__law_floor T.D__law_floor.kp (b__law_floor_0 T.D__law_floor) .nil (fun _ _ => rfl) (pae_d (pd_ix (pd_var 10) pd_int) pae_nil) pke_nil (lenE_cons lenE_nil) lenE_nil (bl_b__law_floor_0))) (pad_cons (pd_op od_add2 (pd_var 6) (pd_call (takes_of rfl rfl rfl rfl) (ok__law_ceiling T) (hr.mono (by decide)) hg T.g__law_ceiling T.D__law_ceiling.kp (b__law_ceiling_0 T.D__law_ceiling) .nil (fun _ _ => rfl) (pae_d (pd_ix (pd_var 10) pd_int) pae_nil) pke_nil (lenE_cons lenE_nil) lenE_nil (bl_b__law_ceiling_0))) pad_nil)))))))
    (psd_one (psd_app 1 (pd_tup (pad_cons (pd_var 5) (pad_cons (pd_var 6) pad_nil)) (len_cons (len_cons len_nil)))))))))
    (psd_one (psd_frz 1 (psd_ret (pd_tupOf T.n_tuple (pad_cons (pd_var 1) pad_nil))))))))
theorem ok__law_near (T : Tx K mg) : Pd.FnP P w K mg base 3 T.a__law_near T.d__law_near ["_law_pot_here", "_law_one_here"] m__law_near := by
  exact Pd.fnp T.D__law_near sc__law_near fun cdv A outer s H E F hr hg => (show PSDs _ F _ (defBody s__law_near) r__law_near from (psd_cons (psd_setO 2 sc__law_near.nd (po_lst pad_nil len_nil))
    (psd_cons (psd_for (passes_of rfl) rfl (pid_seq (pd_ix (pd_var 1) pd_int)) (pgt_tup rfl (pgts_cons (i := 3) sc__law_near.nd (pgts_cons (i := 4) sc__law_near.nd pgts_nil))) (psd_cons (psd_par (i := 5) (j := 6) rfl sc__law_near.nd (pad_cons (pd_call (takes_of rfl rfl rfl rfl) (ok__law_pick T) (hr.mono (by decide)) hg T.g__law_pick T.D__law_pick.kp (b__law_pick_0 T.D__law_pick) .nil (fun _ _ => rfl) (pae_p 0 (pae_d (pd_frz (po_lst (pad_cons pd_int (pad_cons pd_int (pad_cons pd_int (pad_cons (pd_neg pd_int) pad_nil)))) (len_cons (len_cons (len_cons (len_cons len_nil)))))) pae_nil)) pke_nil (lenE_pot (lenE_cons lenE_nil)) lenE_nil (bl_b__law_pick_0)) (pad_cons (pd_call (takes_of rfl rfl rfl rfl) (ok__law_pick T) (hr.mono (by decide)) hg T.g__law_pick T.D__law_pick.kp (b__law_pick_0 T.D__law_pick) .nil (fun _ _ => rfl) (pae_p 0 (pae_d (pd_frz (po_lst (pad_cons pd_int (pad_cons pd_int (pad_cons pd_int (pad_cons (pd_neg pd_int) pad_nil)))) (len_cons (len_cons (len_cons (len_cons len_nil)))))) pae_nil)) pke_nil (lenE_pot (lenE_cons lenE_nil)) lenE_nil (bl_b__law_pick_0)) pad_nil)))
    (psd_cons (psd_set 7 sc__law_near.nd (pd_frz (po_lst (pad_cons (pd_op od_sub (pd_var 3) (pd_var 5)) (pad_cons (pd_op od_add2 (pd_var 4) (pd_var 6)) pad_nil)) (len_cons (len_cons len_nil)))))
    (psd_one (psd_app 2 (pd_tup (pad_cons (pd_B (cs_min rfl) T.n_min (pad_cons (pd_var 7) pad_nil)) (pad_cons (pd_B (cs_max rfl) T.n_max (pad_cons (pd_var 7) pad_nil)) pad_nil)) (len_cons (len_cons len_nil))))))))
    (psd_cons (psd_if (pt_cmp1 (od_eq hr) (pd_call (takes_of rfl rfl rfl rfl) (ok__law_draw T) (hr.mono (by decide)) hg T.g__law_draw T.D__law_draw.kp (b__law_draw_0 T.D__law_draw) .nil (fun _ _ => rfl) (pae_p 0 (pae_d pd_int pae_nil)) pke_nil (lenE_pot (lenE_cons lenE_nil)) lenE_nil (bl_b__law_draw_0)) pd_int) (psd_one (psd_frz 2 (psd_ret (pd_op od_add2 (pd_sl (pd_var 1) pp_none (pp_some pd_int)) (pd_tup (pad_cons (pd_tupOf T.n_tuple (pad_cons (pd_var 2) pad_nil)) pad_nil) (len_cons len_nil)))))) psd_nil)
    (psd_cons (psd_if (pt_cmp1 (od_eq hr) (pd_call (takes_of rfl rfl rfl rfl) (ok__law_draw T) (hr.mono (by decide)) hg T.g__law_draw T.D__law_draw.kp (b__law_draw_0 T.D__law_draw) .nil (fun _ _ => rfl) (pae_p 0 (pae_d pd_int pae_nil)) pke_nil (lenE_pot (lenE_cons lenE_nil)) lenE_nil (bl_b__law_draw_0)) pd_int) (psd_cons (psd_parE (i := 8) (j := 9) rfl sc__law_near.nd)
    (psd_cons (psd_for (passes_of rfl) rfl (pid_seq (pd_ix (pd_var 1) pd_int)) (pgt_name sc__law_near.nd (i := 10)) (psd_one (psd_app 8 (pd_tupOf T.n_tuple (pad_cons (pd_frz (po_comp [("_law_late", 11)] (.n 11) rfl sc__law_near.nd (pid_seq (pd_var 10)) (show BlkOk ["_law_pot_here", "_law_one_here", "_law_found", "_law_low", "_law_high", "_law_near_here", "_law_far", "_law_ends", "_law_less_here", "_law_rows", "_law_row_here", "_law_late", "_law_twice"] (defScope s__law_near) _ _ from ⟨rfl, by decide +kernel, by decide +kernel, by decide +kernel, by decide +kernel⟩) (by first | (simp [Pd.TgtIn]; done) | (simp [Pd.TgtIn, Pd.in1]; done) | (simp [Pd.TgtIn, Pd.in1]; omega)) (fun s_ H_ C_ cl_ fp_ => (pg_name sc__law_near.nd (i := 11) rfl (by first | exact Or.inl rfl | exact Or.inr rfl))) (fun F_ s_ H_ C_ cl_ fp_ => ptsd_nil) (fun F_ s_ H_ C_ cl_ fp_ => (pd_call tk_none (ok__law_times T) (hr.mono (by decide)) hg T.g__law_times T.D__law_times.kp (b__law_times_0 T.D__law_times) .nil (fun _ _ => rfl) (pae_d (pd_tup (pad_cons pd_int (pad_cons pd_int pad_nil)) (len_cons (len_cons len_nil))) (pae_d (pd_var 11) pae_nil)) pke_nil (lenE_cons (lenE_cons lenE_nil)) lenE_nil (bl_b__law_times_0))))) pad_nil)))))
    (psd_cons (psd_for (passes_of rfl) rfl (pid_seq (pd_ix (pd_var 1) pd_int)) (pgt_tup rfl (pgts_cons (i := 3) sc__law_near.nd (pgts_cons (i := 4) sc__law_near.nd pgts_nil))) (psd_cons (psd_par (i := 5) (j := 6) rfl sc__law_near.nd (pad_cons (pd_call (takes_of rfl rfl rfl rfl) (ok__law_pick T) (hr.mono (by decide)) hg T.g__law_pick T.D__law_pick.kp (b__law_pick_0 T.D__law_pick) .nil (fun _ _ => rfl) (pae_p 0 (pae_d (pd_frz (po_lst (pad_cons pd_int (pad_cons pd_int (pad_cons pd_int (pad_cons (pd_neg pd_int) pad_nil)))) (len_cons (len_cons (len_cons (len_cons len_nil)))))) pae_nil)) pke_nil (lenE_pot (lenE_cons lenE_nil)) lenE_nil (bl_b__law_pick_0)) (pad_cons (pd_call (takes_of rfl rfl rfl rfl) (ok__law_pick T) (hr.mono (by decide)) hg T.g__law_pick T.D__law_pick.kp (b__law_pick_0 T.D__law_pick) .nil (fun _ _ => rfl) (pae_p 0 (pae_d (pd_frz (po_lst (pad_cons pd_int (pad_cons pd_int (pad_cons pd_int (pad_cons (pd_neg pd_int) pad_nil)))) (len_cons (len_cons (len_cons (len_cons len_nil)))))) pae_nil)) pke_nil (lenE_pot (lenE_cons lenE_nil)) lenE_nil (bl_b__law_pick_0)) pad_nil)))
    (psd_cons (psd_set 7 sc__law_near.nd (pd_frz (po_lst (pad_cons (pd_op od_sub (pd_op od_mul (pd_var 3) pd_int) (pd_var 5)) (pad_cons (pd_op od_add2 (pd_op od_mul (pd_var 4) pd_int) (pd_var 6)) pad_nil)) (len_cons (len_cons len_nil)))))
    (psd_one (psd_app 9 (pd_tup (pad_cons (pd_B (cs_min rfl) T.n_min (pad_cons (pd_var 7) pad_nil)) (pad_cons (pd_B (cs_max rfl) T.n_max (pad_cons (pd_var 7) pad_nil)) pad_nil)) (len_cons (len_cons len_nil))))))))
    (psd_one (psd_frz 9 (psd_frz 8 (psd_ret (pd_tup (pad_cons pd_str (pad_cons (pd_ix (pd_var 1) pd_int) (pad_cons (pd_tupOf T.n_tuple (pad_cons (pd_var 8) pad_nil)) (pad_cons (pd_tupOf T.n_tuple (pad_cons (pd_var 9) pad_nil)) pad_nil)))) (len_cons (len_cons (len_cons (len_cons len_nil)))))))))))) psd_nil)
    (psd_cons (psd_set 12 sc__law_near.nd (pd_tupOf T.n_tuple (pad_cons (pd_frz (po_comp [("_law_row_here", 10)] (.n 10) rfl sc__law_near.nd (pid_seq (pd_ix (pd_var 1) pd_int)) (show BlkOk ["_law_pot_here", "_law_one_here", "_law_found", "_law_low", "_law_high", "_law_near_here", "_law_far", "_law_ends", "_law_less_here", "_law_rows", "_law_row_here", "_law_late", "_law_twice"] (defScope s__law_near) _ _ from ⟨rfl, by decide +kernel, by decide +kernel, by decide +kernel, by decide +kernel⟩) (by first | (simp [Pd.TgtIn]; done) | (simp [Pd.TgtIn, Pd.in1]; done) | (simp [Pd.TgtIn, Pd.in1]; omega)) (fun s_ H_ C_ cl_ fp_ => (pg_name sc__law_near.nd (i := 10) rfl (by first | exact Or.inl rfl | exact Or.inr rfl))) (fun F_ s_ H_ C_ cl_ fp_ => ptsd_nil) (fun F_ s_ H_ C_ cl_ fp_ => (pd_tupOf T.n_tuple (pad_cons (pd_frz (po_comp [("_law_late", 11)] (.n 11) rfl sc__law_near.nd (pid_seq (pd_var 10)) (Pd.blk_relabel (show BlkOk ["_law_pot_here", "_law_one_here", "_law_found", "_law_low", "_law_high", "_law_near_here", "_law_far", "_law_ends", "_law_less_here", "_law_rows", "_law_row_here", "_law_late", "_law_twice"] ({ kind := PySem.ScopeKind.function, names := [ (PySem.Str.ofString ".0", PySem.NameKind.local), (PySem.Str.ofString "_law_row_here", PySem.NameKind.local), (PySem.Str.ofString "tuple", PySem.NameKind.globalImplicit)], isGenerator := false, isCoroutine := false, more := [] : PySem.Scope }) ({ kind := PySem.ScopeKind.function, names := [ (PySem.Str.ofString ".0", PySem.NameKind.local), (PySem.Str.ofString "_law_late", PySem.NameKind.local), (PySem.Str.ofString "_law_times", PySem.NameKind.globalImplicit)], isGenerator := false, isCoroutine := false, more := [] : PySem.Scope }) [("_law_late", 11)] from ⟨rfl, by decide +kernel, by decide +kernel, by decide +kernel, by decide +kernel⟩)) (by first | (simp [Pd.TgtIn]; done) | (simp [Pd.TgtIn, Pd.in1]; done) | (simp [Pd.TgtIn, Pd.in1]; omega)) (fun s_ H_ C_ cl_ fp_ => (pg_name sc__law_near.nd (i := 11) rfl (by first | exact Or.inl rfl | exact Or.inr rfl))) (fun F_ s_ H_ C_ cl_ fp_ => ptsd_nil) (fun F_ s_ H_ C_ cl_ fp_ => (pd_call tk_none (ok__law_times T) (hr.mono (by decide)) hg T.g__law_times T.D__law_times.kp (b__law_times_0 T.D__law_times) .nil (fun _ _ => rfl) (pae_d (pd_tup (pad_cons pd_int (pad_cons pd_int pad_nil)) (len_cons (len_cons len_nil))) (pae_d (pd_var 11) pae_nil)) pke_nil (lenE_cons (lenE_cons lenE_nil)) lenE_nil (bl_b__law_times_0))))) pad_nil))))) pad_nil)))
    (psd_cons (psd_frz 2 (psd_setOC 9 [("_law_low", 3), ("_law_high", 4)] (.t [3, 4]) rfl sc__law_near.nd (pid_seq (pd_var 2)) (show BlkOk ["_law_pot_here", "_law_one_here", "_law_found", "_law_low", "_law_high", "_law_near_here", "_law_far", "_law_ends", "_law_less_here", "_law_rows", "_law_row_here", "_law_late", "_law_twice"] (defScope s__law_near) _ _ from ⟨rfl, by decide +kernel, by decide +kernel, by decide +kernel, by decide +kernel⟩) (by first | (simp [Pd.TgtIn]; done) | (simp [Pd.TgtIn, Pd.in1]; done) | (simp [Pd.TgtIn, Pd.in1]; omega)) (fun s_ H_ C_ cl_ fp_ => (pg_tup rfl (pgts_cons (i := 3) sc__law_near.nd (pgts_cons (i := 4) sc__law_near.nd pgts_nil)))) (fun F_ s_ H_ C_ cl_ fp_ => ptsd_nil) (fun F_ s_ H_ C_ cl_ fp_ => (pd_tup (pad_cons (pd_op od_div (pd_op od_sub (pd_var 3) pd_int) pd_int) (pad_cons (pd_op od_div (pd_op od_add2 (pd_var 4) pd_int) pd_int) pad_nil)) (len_cons (len_cons len_nil)))) (sw_true rfl rfl rfl (by decide +kernel))))
    (psd_one (psd_frz 9 (psd_ret (pd_tup (pad_cons pd_str (pad_cons (pd_ix (pd_var 1) pd_int) (pad_cons (pd_var 12) (pad_cons (pd_tupOf T.n_tuple (pad_cons (pd_var 9) pad_nil)) pad_nil)))) (len_cons (len_cons (len_cons (len_cons len_nil)))))))))))))))
theorem ok__law_other (T : Tx K mg) : Pd.FnP P w K mg base 19 T.a__law_other T.d__law_other ["_law_pot_here", "_law_one_here"] m__law_other := by
  exact Pd.fnp T.D__law_other sc__law_other fun cdv A outer s H E F hr hg => (show PSDs _ F _ (defBody s__law_other) r__law_other from (psd_cons (psd_par (i := 2) (j := 3) rfl sc__law_other.nd (pad_cons (pd_call (takes_of rfl rfl rfl rfl) (ok__law_draw T) (hr.mono (by decide)) hg T.g__law_draw T.D__law_draw.kp (b__law_draw_0 T.D__law_draw) .nil (fun _ _ => rfl) (pae_p 0 (pae_d pd_int pae_nil)) pke_nil (lenE_pot (lenE_cons lenE_nil)) lenE_nil (bl_b__law_draw_0)) (pad_cons (pd_B (cs_len) T.n_len (pad_cons (pd_ix (pd_var 1) pd_int) pad_nil)) pad_nil)))
    (psd_cons (psd_if (pt_cmp1 od_lt (pd_var 2) pd_int) (psd_one (psd_ret (pd_call (takes_of rfl rfl rfl rfl) (ok__law_near T) (hr.mono (by decide)) hg T.g__law_near T.D__law_near.kp (b__law_near_0 T.D__law_near) .nil (fun _ _ => rfl) (pae_p 0 (pae_d (pd_var 1) pae_nil)) pke_nil (lenE_pot (lenE_cons lenE_nil)) lenE_nil (bl_b__law_near_0)))) psd_nil)
    (psd_cons (psd_if (pt_cmp1 (od_eq hr) (pd_var 2) pd_int) (psd_one (psd_ret (pd_call (takes_of rfl rfl rfl rfl) (ok__law_set T) (hr.mono (by decide)) hg T.g__law_set T.D__law_set.kp (b__law_set_0 T.D__law_set) .nil (fun _ _ => rfl) (pae_p 0 (pae_d (pd_var 3) pae_nil)) pke_nil (lenE_pot (lenE_cons lenE_nil)) lenE_nil (bl_b__law_set_0)))) psd_nil)
    (psd_cons (psd_set 4 sc__law_other.nd (pd_call (takes_of rfl rfl rfl rfl) (ok__law_hull T) (hr.mono (by decide)) hg T.g__law_hull T.D__law_hull.kp (b__law_hull_0 T.D__law_hull) .nil (fun _ _ => rfl) (pae_d (pd_var 1) pae_nil) pke_nil (lenE_cons lenE_nil) lenE_nil (bl_b__law_hull_0)))
    (psd_cons (psd_if (pt_cmp1 (od_eq hr) (pd_call (takes_of rfl rfl rfl rfl) (ok__law_draw T) (hr.mono (by decide)) hg T.g__law_draw T.D__law_draw.kp (b__law_draw_0 T.D__law_draw) .nil (fun _ _ => rfl) (pae_p 0 (pae_d pd_int pae_nil)) pke_nil (lenE_pot (lenE_cons lenE_nil)) lenE_nil (bl_b__law_draw_0)) pd_int) (psd_cons (psd_asg (pd_ix (pd_var 4) pd_int) (pgt_tup rfl (pgts_cons (i := 5) sc__law_other.nd (pgts_cons (i := 6) sc__law_other.nd pgts_nil))))
    (psd_one (psd_set 4 sc__law_other.nd (pd_op od_add2 (pd_tup (pad_cons (pd_tup (pad_cons (pd_op od_add2 (pd_var 5) pd_int) (pad_cons (pd_B (cs_max rfl) T.n_max (pad_cons (pd_var 6) (pad_cons (pd_op od_add2 (pd_var 5) pd_int) pad_nil))) pad_nil)) (len_cons (len_cons len_nil))) pad_nil) (len_cons len_nil)) (pd_sl (pd_var 4) (pp_some pd_int) pp_none))))) psd_nil)
    (psd_cons (psd_set 7 sc__law_other.nd (pd_tupOf T.n_tuple (pad_cons (pd_frz (po_repO (po_lst (pad_cons (pd_tup (pad_cons pd_int (pad_cons pd_int pad_nil)) (len_cons (len_cons len_nil))) pad_nil) (len_cons len_nil)) (pd_var 3))) pad_nil)))
    (psd_one (psd_ret (pd_tup (pad_cons pd_str (pad_cons (pd_var 7) (pad_cons (pd_call (takes_of rfl rfl rfl rfl) (ok__law_unit T) (hr.mono (by decide)) hg T.g__law_unit T.D__law_unit.kp (b__law_unit_0 T.D__law_unit) .nil (fun _ _ => rfl) (pae_d (pd_var 3) pae_nil) pke_nil (lenE_cons lenE_nil) lenE_nil (bl_b__law_unit_0)) (pad_cons (pd_var 4) pad_nil)))) (len_cons (len_cons (len_cons (len_cons len_nil))))))))))))))
theorem ok_is_count (T : Tx K mg) : Pd.FnP P w K mg base 2 T.a_is_count T.d_is_count ["value"] m_is_count := by
  exact Pd.fnp T.D_is_count sc_is_count fun cdv A outer s H E F hr hg => (show PSDs _ F _ (defBody s_is_count) r_is_count from (psd_one (psd_ret (pd_and (pd_call (takes_of rfl rfl rfl rfl) (ok_is_integer T) (hr.mono (by decide)) hg T.g_is_integer T.D_is_integer.kp (b_is_integer_0 T.D_is_integer) .nil (fun _ _ => rfl) (pae_d (pd_var 0) pae_nil) pke_nil (lenE_cons lenE_nil) lenE_nil (bl_b_is_integer_0)) (pd_one (pd_cmp od_ge (pd_var 0) pd_int))))))
theorem ok_parts_of_one (T : Tx K mg) : Pd.FnP P w K mg base 1 T.a_parts_of_one T.d_parts_of_one ["bits"] m_parts_of_one := by
  exact Pd.fnp T.D_parts_of_one sc_parts_of_one fun cdv A outer s H E F hr hg => (show PSDs _ F _ (defBody s_parts_of_one) r_parts_of_one from (psd_cons (psd_set 1 sc_parts_of_one.nd pd_int)
    (psd_cons (psd_for (passes_of rfl) rfl (pid_rng1 T.n_range (pad_cons (pd_var 0) pad_nil)) (pgt_name sc_parts_of_one.nd (i := 2)) (psd_one (psd_set 1 sc_parts_of_one.nd (pd_op od_mul pd_int (pd_var 1)))))
    (psd_one (psd_ret (pd_var 1))))))
theorem ok_rounded_middle (T : Tx K mg) : Pd.FnP P w K mg base 2 T.a_rounded_middle T.d_rounded_middle ["interval", "bits"] m_rounded_middle := by
  exact Pd.fnp T.D_rounded_middle sc_rounded_middle fun cdv A outer s H E F hr hg => (show PSDs _ F _ (defBody s_rounded_middle) r_rounded_middle from (psd_cons (psd_set 2 sc_rounded_middle.nd (pd_call (takes_of rfl rfl rfl rfl) (ok_parts_of_one T) (hr.mono (by decide)) hg T.g_parts_of_one T.D_parts_of_one.kp (b_parts_of_one_0 T.D_parts_of_one) .nil (fun _ _ => rfl) (pae_d (pd_var 1) pae_nil) pke_nil (lenE_cons lenE_nil) lenE_nil (bl_b_parts_of_one_0)))
    (psd_one (psd_ret (pd_call (takes_of rfl rfl rfl rfl) (ok_made_ratio T) (hr.mono (by decide)) hg T.g_made_ratio T.D_made_ratio.kp (b_made_ratio_0 T.D_made_ratio) .nil (fun _ _ => rfl) (pae_d (pd_op od_div (pd_op od_add2 (pd_op od_mul (pd_op od_add2 (pd_ix (pd_var 0) pd_int) (pd_ix (pd_var 0) pd_int)) (pd_var 2)) (pd_gint T.c_ONE)) (pd_op od_mul pd_int (pd_gint T.c_ONE))) (pae_d (pd_var 2) pae_nil)) pke_nil (lenE_cons (lenE_cons lenE_nil)) lenE_nil (bl_b_made_ratio_0))))))
theorem ok_rounded_rows (T : Tx K mg) : Pd.FnP P w K mg base 3 T.a_rounded_rows T.d_rounded_rows ["rows", "bits"] m_rounded_rows := by
  exact Pd.fnp T.D_rounded_rows sc_rounded_rows fun cdv A outer s H E F hr hg => (show PSDs _ F _ (defBody s_rounded_rows) r_rounded_rows from (psd_one (psd_ret (pd_tupOf T.n_tuple (pad_cons (pd_frz (po_comp [("row", 3)] (.n 3) rfl sc_rounded_rows.nd (pid_seq (pd_var 0)) (show BlkOk ["rows", "bits", "interval", "row"] (defScope s_rounded_rows) _ _ from ⟨rfl, by decide +kernel, by decide +kernel, by decide +kernel, by decide +kernel⟩) (by first | (simp [Pd.TgtIn]; done) | (simp [Pd.TgtIn, Pd.in1]; done) | (simp [Pd.TgtIn, Pd.in1]; omega)) (fun s_ H_ C_ cl_ fp_ => (pg_name sc_rounded_rows.nd (i := 3) rfl (by first | exact Or.inl rfl | exact Or.inr rfl))) (fun F_ s_ H_ C_ cl_ fp_ => ptsd_nil) (fun F_ s_ H_ C_ cl_ fp_ => (pd_tupOf T.n_tuple (pad_cons (pd_frz (po_comp [("interval", 2)] (.n 2) rfl sc_rounded_rows.nd (pid_seq (pd_var 3)) (Pd.blk_relabel (show BlkOk ["rows", "bits", "interval", "row"] ({ kind := PySem.ScopeKind.function, names := [ (PySem.Str.ofString ".0", PySem.NameKind.local), (PySem.Str.ofString "row", PySem.NameKind.local), (PySem.Str.ofString "tuple", PySem.NameKind.globalImplicit), (PySem.Str.ofString "bits", PySem.NameKind.free)], isGenerator := false, isCoroutine := false, more := [] : PySem.Scope }) ({ kind := PySem.ScopeKind.function, names := [ (PySem.Str.ofString ".0", PySem.NameKind.local), (PySem.Str.ofString "interval", PySem.NameKind.local), (PySem.Str.ofString "rounded_middle", PySem.NameKind.globalImplicit), (PySem.Str.ofString "bits", PySem.NameKind.free)], isGenerator := false, isCoroutine := false, more := [] : PySem.Scope }) [("interval", 2)] from ⟨rfl, by decide +kernel, by decide +kernel, by decide +kernel, by decide +kernel⟩)) (by first | (simp [Pd.TgtIn]; done) | (simp [Pd.TgtIn, Pd.in1]; done) | (simp [Pd.TgtIn, Pd.in1]; omega)) (fun s_ H_ C_ cl_ fp_ => (pg_name sc_rounded_rows.nd (i := 2) rfl (by first | exact Or.inl rfl | exact Or.inr rfl))) (fun F_ s_ H_ C_ cl_ fp_ => ptsd_nil) (fun F_ s_ H_ C_ cl_ fp_ => (pd_call tk_none (ok_rounded_middle T) (hr.mono (by decide)) hg T.g_rounded_middle T.D_rounded_middle.kp (b_rounded_middle_0 T.D_rounded_middle) .nil (fun _ _ => rfl) (pae_d (pd_var 2) (pae_d (pd_var 1) pae_nil)) pke_nil (lenE_cons (lenE_cons lenE_nil)) lenE_nil (bl_b_rounded_middle_0))))) pad_nil))))) pad_nil)))))
theorem ok_is_rows_of_intervals (T : Tx K mg) : Pd.FnP P w K mg base 3 T.a_is_rows_of_intervals T.d_is_rows_of_intervals ["value"] m_is_rows_of_intervals := by
  exact Pd.fnp T.D_is_rows_of_intervals sc_is_rows_of_intervals fun cdv A outer s H E F hr hg => (show PSDs _ F _ (defBody s_is_rows_of_intervals) r_is_rows_of_intervals from (psd_cons (psd_if (PWD.pt (pw_o (ptd_not (pt_bool (pd_isi T.n_isinstance T.n_tuple (pd_var 0)))) (pw_o1 (ptd_not (pt_chn pd_int (pcd_link od_le (pd_B (cs_len) T.n_len (pad_cons (pd_var 0) pad_nil)) (pcd_last od_le pd_int))))))) (psd_one (psd_ret pd_bl)) psd_nil)
    (psd_cons (psd_if (ptd_not (pt_bool (pd_B (cs_all rfl) T.n_all (pad_cons (pd_frz (po_comp [("row", 1)] (.n 1) rfl sc_is_rows_of_intervals.nd (pid_seq (pd_var 0)) (show BlkOk ["value", "row", "one"] (defScope s_is_rows_of_intervals) _ _ from ⟨rfl, by decide +kernel, by decide +kernel, by decide +kernel, by decide +kernel⟩) (by first | (simp [Pd.TgtIn]; done) | (simp [Pd.TgtIn, Pd.in1]; done) | (simp [Pd.TgtIn, Pd.in1]; omega)) (fun s_ H_ C_ cl_ fp_ => (pg_name sc_is_rows_of_intervals.nd (i := 1) rfl (by first | exact Or.inl rfl | exact Or.inr rfl))) (fun F_ s_ H_ C_ cl_ fp_ => ptsd_nil) (fun F_ s_ H_ C_ cl_ fp_ => (pd_and (pd_isi T.n_isinstance T.n_tuple (pd_var 1)) (pd_one (pd_chn pd_int (pcd_link od_le (pd_B (cs_len) T.n_len (pad_cons (pd_var 1) pad_nil)) (pcd_last od_le pd_int)))))))) pad_nil)))) (psd_one (psd_ret pd_bl)) psd_nil)
    (psd_cons (psd_if (ptd_not (pt_bool (pd_B (cs_all rfl) T.n_all (pad_cons (pd_frz (po_comp [("row", 1)] (.n 1) rfl sc_is_rows_of_intervals.nd (pid_seq (pd_var 0)) (show BlkOk ["value", "row", "one"] (defScope s_is_rows_of_intervals) _ _ from ⟨rfl, by decide +kernel, by decide +kernel, by decide +kernel, by decide +kernel⟩) (by first | (simp [Pd.TgtIn]; done) | (simp [Pd.TgtIn, Pd.in1]; done) | (simp [Pd.TgtIn, Pd.in1]; omega)) (fun s_ H_ C_ cl_ fp_ => (pg_name sc_is_rows_of_intervals.nd (i := 1) rfl (by first | exact Or.inl rfl | exact Or.inr rfl))) (fun F_ s_ H_ C_ cl_ fp_ => ptsd_nil) (fun F_ s_ H_ C_ cl_ fp_ => (pd_cmp (od_eq hr) (pd_B (cs_len) T.n_len (pad_cons (pd_var 1) pad_nil)) (pd_B (cs_len) T.n_len (pad_cons (pd_ix (pd_var 0) pd_int) pad_nil)))))) pad_nil)))) (psd_one (psd_ret pd_bl)) psd_nil)
    (psd_one (psd_ret (pd_B (cs_all rfl) T.n_all (pad_cons (pd_frz (po_comp [("row", 1)] (.n 1) rfl sc_is_rows_of_intervals.nd (pid_seq (pd_var 0)) (show BlkOk ["value", "row", "one"] (defScope s_is_rows_of_intervals) _ _ from ⟨rfl, by decide +kernel, by decide +kernel, by decide +kernel, by decide +kernel⟩) (by first | (simp [Pd.TgtIn]; done) | (simp [Pd.TgtIn, Pd.in1]; done) | (simp [Pd.TgtIn, Pd.in1]; omega)) (fun s_ H_ C_ cl_ fp_ => (pg_name sc_is_rows_of_intervals.nd (i := 1) rfl (by first | exact Or.inl rfl | exact Or.inr rfl))) (fun F_ s_ H_ C_ cl_ fp_ => ptsd_nil) (fun F_ s_ H_ C_ cl_ fp_ => (pd_B (cs_all rfl) T.n_all (pad_cons (pd_frz (po_comp [("one", 2)] (.n 2) rfl sc_is_rows_of_intervals.nd (pid_seq (pd_var 1)) (Pd.blk_relabel (show BlkOk ["value", "row", "one"] ({ kind := PySem.ScopeKind.function, names := [ (PySem.Str.ofString ".0", PySem.NameKind.local), (PySem.Str.ofString "row", PySem.NameKind.local), (PySem.Str.ofString "all", PySem.NameKind.globalImplicit)], isGenerator := false, isCoroutine := false, more := [] : PySem.Scope }) ({ kind := PySem.ScopeKind.function, names := [ (PySem.Str.ofString ".0", PySem.NameKind.local), (PySem.Str.ofString "one", PySem.NameKind.local), (PySem.Str.ofString "is_interval", PySem.NameKind.globalImplicit)], isGenerator := false, isCoroutine := false, more := [] : PySem.Scope }) [("one", 2)] from ⟨rfl, by decide +kernel, by decide +kernel, by decide +kernel, by decide +kernel⟩)) (by first | (simp [Pd.TgtIn]; done) | (simp [Pd.TgtIn, Pd.in1]; done) | (simp [Pd.TgtIn, Pd.in1]; omega)) (fun s_ H_ C_ cl_ fp_ => (pg_name sc_is_rows_of_intervals.nd (i := 2) rfl (by first | exact Or.inl rfl | exact Or.inr rfl))) (fun F_ s_ H_ C_ cl_ fp_ => ptsd_nil) (fun F_ s_ H_ C_ cl_ fp_ => (pd_call tk_none (ok_is_interval T) (hr.mono (by decide)) hg T.g_is_interval T.D_is_interval.kp (b_is_interval_0 T.D_is_interval) .nil (fun _ _ => rfl) (pae_d (pd_var 2) pae_nil) pke_nil (lenE_cons lenE_nil) lenE_nil (bl_b_is_interval_0))))) pad_nil))))) pad_nil))))))))
theorem ok_rounded_matrix (T : Tx K mg) : Pd.FnP P w K mg base 4 T.a_rounded_matrix T.d_rounded_matrix ["rows", "bits"] m_rounded_matrix := by
  exact Pd.fnp T.D_rounded_matrix sc_rounded_matrix fun cdv A outer s H E F hr hg => (show PSDs _ F _ (defBody s_rounded_matrix) r_rounded_matrix from (psd_cons (psd_if (ptd_not (pt_bool (pd_call (takes_of rfl rfl rfl rfl) (ok_is_rows_of_intervals T) (hr.mono (by decide)) hg T.g_is_rows_of_intervals T.D_is_rows_of_intervals.kp (b_is_rows_of_intervals_0 T.D_is_rows_of_intervals) .nil (fun _ _ => rfl) (pae_d (pd_var 0) pae_nil) pke_nil (lenE_cons lenE_nil) lenE_nil (bl_b_is_rows_of_intervals_0)))) (psd_one psd_never) psd_nil)
    (psd_cons (psd_if (PWD.pt (pw_o (ptd_not (pt_bool (pd_call (takes_of rfl rfl rfl rfl) (ok_is_count T) (hr.mono (by decide)) hg T.g_is_count T.D_is_count.kp (b_is_count_0 T.D_is_count) .nil (fun _ _ => rfl) (pae_d (pd_var 1) pae_nil) pke_nil (lenE_cons lenE_nil) lenE_nil (bl_b_is_count_0)))) (pw_o1 (pt_cmp1 od_gt (pd_var 1) (pd_gint T.c_MOST_BITS))))) (psd_one psd_never) psd_nil)
    (psd_one (psd_ret (pd_call (takes_of rfl rfl rfl rfl) (ok_rounded_rows T) (hr.mono (by decide)) hg T.g_rounded_rows T.D_rounded_rows.kp (b_rounded_rows_0 T.D_rounded_rows) .nil (fun _ _ => rfl) (pae_d (pd_var 0) (pae_d (pd_var 1) pae_nil)) pke_nil (lenE_cons (lenE_cons lenE_nil)) lenE_nil (bl_b_rounded_rows_0)))))))
theorem ok__law_rounded (T : Tx K mg) : Pd.FnP P w K mg base 2 T.a__law_rounded T.d__law_rounded ["_law_interval", "_law_bits"] m__law_rounded := by
  exact Pd.fnp T.D__law_rounded sc__law_rounded fun cdv A outer s H E F hr hg => (show PSDs _ F _ (defBody s__law_rounded) r__law_rounded from (psd_cons (psd_set 2 sc__law_rounded.nd pd_int)
    (psd_cons (psd_for (passes_of rfl) rfl (pid_rng1 T.n_range (pad_cons (pd_var 1) pad_nil)) (pgt_name sc__law_rounded.nd (i := 3)) (psd_one (psd_set 2 sc__law_rounded.nd (pd_op od_mul (pd_var 2) pd_int))))
    (psd_cons (psd_par (i := 4) (j := 5) rfl sc__law_rounded.nd (pad_cons (pd_op od_mul (pd_op od_add2 (pd_ix (pd_var 0) pd_int) (pd_ix (pd_var 0) pd_int)) (pd_var 2)) (pad_cons (pd_op od_mul pd_int (pd_call0 (takes_of rfl rfl rfl rfl) (ok__law_one T) (hr.mono (by decide)) hg T.g__law_one T.D__law_one.kp (b__law_one_0 T.D__law_one) .nil (fun _ _ => rfl) pke_nil lenE_nil (bl_b__law_one_0))) pad_nil)))
    (psd_one (psd_ret (pd_call (takes_of rfl rfl rfl rfl) (ok__law_made T) (hr.mono (by decide)) hg T.g__law_made T.D__law_made.kp (b__law_made_0 T.D__law_made) .nil (fun _ _ => rfl) (pae_d (pd_op od_div (pd_op od_add2 (pd_op od_mul pd_int (pd_var 4)) (pd_var 5)) (pd_op od_mul pd_int (pd_var 5))) (pae_d (pd_var 2) pae_nil)) pke_nil (lenE_cons (lenE_cons lenE_nil)) lenE_nil (bl_b__law_made_0))))))))
theorem ok__law_rounded_right (T : Tx K mg) : Pd.FnP P w K mg base 5 T.a__law_rounded_right T.d__law_rounded_right ["_law_pot_here"] m__law_rounded_right := by
  exact Pd.fnp T.D__law_rounded_right sc__law_rounded_right fun cdv A outer s H E F hr hg => (show PSDs _ F _ (defBody s__law_rounded_right) r__law_rounded_right from (psd_cons (psd_parDO (i := 1) (j := 2) rfl sc__law_rounded_right.nd (pd_op od_add2 pd_int (pd_call (takes_of rfl rfl rfl rfl) (ok__law_draw T) (hr.mono (by decide)) hg T.g__law_draw T.D__law_draw.kp (b__law_draw_0 T.D__law_draw) .nil (fun _ _ => rfl) (pae_p 0 (pae_d pd_int pae_nil)) pke_nil (lenE_pot (lenE_cons lenE_nil)) lenE_nil (bl_b__law_draw_0))) (po_lst pad_nil len_nil))
    (psd_cons (psd_for (passes_of rfl) rfl (pid_rng1 T.n_range (pad_cons (pd_op od_add2 pd_int (pd_call (takes_of rfl rfl rfl rfl) (ok__law_draw T) (hr.mono (by decide)) hg T.g__law_draw T.D__law_draw.kp (b__law_draw_0 T.D__law_draw) .nil (fun _ _ => rfl) (pae_p 0 (pae_d pd_int pae_nil)) pke_nil (lenE_pot (lenE_cons lenE_nil)) lenE_nil (bl_b__law_draw_0))) pad_nil)) (pgt_name sc__law_rounded_right.nd (i := 3)) (psd_one (psd_app 2 (pd_call (takes_of rfl rfl rfl rfl) (ok__law_box T) (hr.mono (by decide)) hg T.g__law_box T.D__law_box.kp (b__law_box_0 T.D__law_box) .nil (fun _ _ => rfl) (pae_p 0 (pae_d (pd_var 1) pae_nil)) pke_nil (lenE_pot (lenE_cons lenE_nil)) lenE_nil (bl_b__law_box_0)))))
    (psd_cons (psd_frz 2 (psd_asg (pd_tup (pad_cons (pd_tupOf T.n_tuple (pad_cons (pd_var 2) pad_nil)) (pad_cons (pd_call (takes_of rfl rfl rfl rfl) (ok__law_pick T) (hr.mono (by decide)) hg T.g__law_pick T.D__law_pick.kp (b__law_pick_0 T.D__law_pick) .nil (fun _ _ => rfl) (pae_p 0 (pae_d (pd_frz (po_lst (pad_cons pd_int (pad_cons pd_int (pad_cons pd_int (pad_cons pd_int (pad_cons pd_int (pad_cons pd_int (pad_cons pd_int pad_nil))))))) (len_cons (len_cons (len_cons (len_cons (len_cons (len_cons (len_cons len_nil))))))))) pae_nil)) pke_nil (lenE_pot (lenE_cons lenE_nil)) lenE_nil (bl_b__law_pick_0)) pad_nil)) (len_cons (len_cons len_nil))) (pgt_tup rfl (pgts_cons (i := 2) sc__law_rounded_right.nd (pgts_cons (i := 4) sc__law_rounded_right.nd pgts_nil)))))
    (psd_cons (psd_set 5 sc__law_rounded_right.nd (pd_tupOf T.n_tuple (pad_cons (pd_frz (po_comp [("_law_row_here", 7)] (.n 7) rfl sc__law_rounded_right.nd (pid_seq (pd_var 2)) (show BlkOk ["_law_pot_here", "_law_long", "_law_rows", "_law_turn", "_law_bits", "_law_due", "_law_one_here", "_law_row_here"] (defScope s__law_rounded_right) _ _ from ⟨rfl, by decide +kernel, by decide +kernel, by decide +kernel, by decide +kernel⟩) (by first | (simp [Pd.TgtIn]; done) | (simp [Pd.TgtIn, Pd.in1]; done) | (simp [Pd.TgtIn, Pd.in1]; omega)) (fun s_ H_ C_ cl_ fp_ => (pg_name sc__law_rounded_right.nd (i := 7) rfl (by first | exact Or.inl rfl | exact Or.inr rfl))) (fun F_ s_ H_ C_ cl_ fp_ => ptsd_nil) (fun F_ s_ H_ C_ cl_ fp_ => (pd_tupOf T.n_tuple (pad_cons (pd_frz (po_comp [("_law_one_here", 6)] (.n 6) rfl sc__law_rounded_right.nd (pid_seq (pd_var 7)) (Pd.blk_relabel (show BlkOk ["_law_pot_here", "_law_long", "_law_rows", "_law_turn", "_law_bits", "_law_due", "_law_one_here", "_law_row_here"] ({ kind := PySem.ScopeKind.function, names := [ (PySem.Str.ofString ".0", PySem.NameKind.local), (PySem.Str.ofString "_law_row_here", PySem.NameKind.local), (PySem.Str.ofString "tuple", PySem.NameKind.globalImplicit), (PySem.Str.ofString "_law_bits", PySem.NameKind.free)], isGenerator := false, isCoroutine := false, more := [] : PySem.Scope }) ({ kind := PySem.ScopeKind.function, names := [ (PySem.Str.ofString ".0", PySem.NameKind.local), (PySem.Str.ofString "_law_one_here", PySem.NameKind.local), (PySem.Str.ofString "_law_rounded", PySem.NameKind.globalImplicit), (PySem.Str.ofString "_law_bits", PySem.NameKind.free)], isGenerator := false, isCoroutine := false, more := [] : PySem.Scope }) [("_law_one_here", 6)] from ⟨rfl, by decide +kernel, by decide +kernel, by decide +kernel, by decide +kernel⟩)) (by first | (simp [Pd.TgtIn]; done) | (simp [Pd.TgtIn, Pd.in1]; done) | (simp [Pd.TgtIn, Pd.in1]; omega)) (fun s_ H_ C_ cl_ fp_ => (pg_name sc__law_rounded_right.nd (i := 6) rfl (by first | exact Or.inl rfl | exact Or.inr rfl))) (fun F_ s_ H_ C_ cl_ fp_ => ptsd_nil) (fun F_ s_ H_ C_ cl_ fp_ => (pd_call tk_none (ok__law_rounded T) (hr.mono (by decide)) hg T.g__law_rounded T.D__law_rounded.kp (b__law_rounded_0 T.D__law_rounded) .nil (fun _ _ => rfl) (pae_d (pd_var 6) (pae_d (pd_var 4) pae_nil)) pke_nil (lenE_cons (lenE_cons lenE_nil)) lenE_nil (bl_b__law_rounded_0))))) pad_nil))))) pad_nil)))
    (psd_one (psd_ret (pd_and (pd_cmp (od_eq hr) (pd_call (takes_of rfl rfl rfl rfl) (ok_rounded_matrix T) (hr.mono (by decide)) hg T.g_rounded_matrix T.D_rounded_matrix.kp (b_rounded_matrix_0 T.D_rounded_matrix) .nil (fun _ _ => rfl) (pae_d (pd_var 2) (pae_d (pd_var 4) pae_nil)) pke_nil (lenE_cons (lenE_cons lenE_nil)) lenE_nil (bl_b_rounded_matrix_0)) (pd_var 5)) (pd_one (pd_cmp (od_eq hr) (pd_call0 (takes_of rfl rfl rfl rfl) (ok_rounded_matrix T) (hr.mono (by decide)) hg T.g_rounded_matrix T.D_rounded_matrix.kp (b_rounded_matrix_1 T.D_rounded_matrix) .nil (fun _ _ => rfl) (pke_d (pd_var 4) (pke_d (pd_var 2) pke_nil)) (lenE_cons (lenE_cons lenE_nil)) (bl_b_rounded_matrix_1)) (pd_var 5)))))))))))
theorem ok__law_right (T : Tx K mg) : Pd.FnP P w K mg base 20 T.a__law_right T.d__law_right ["_law_pot_here"] m__law_right := by
  exact Pd.fnp T.D__law_right sc__law_right fun cdv A outer s H E F hr hg => (show PSDs _ F _ (defBody s__law_right) r__law_right from (psd_cons (psd_set 1 sc__law_right.nd (pd_op od_add2 pd_int (pd_call (takes_of rfl rfl rfl rfl) (ok__law_draw T) (hr.mono (by decide)) hg T.g__law_draw T.D__law_draw.kp (b__law_draw_0 T.D__law_draw) .nil (fun _ _ => rfl) (pae_p 0 (pae_d pd_int pae_nil)) pke_nil (lenE_pot (lenE_cons lenE_nil)) lenE_nil (bl_b__law_draw_0))))
    (psd_cons (psd_set 2 sc__law_right.nd (pd_call (takes_of rfl rfl rfl rfl) (ok__law_set T) (hr.mono (by decide)) hg T.g__law_set T.D__law_set.kp (b__law_set_0 T.D__law_set) .nil (fun _ _ => rfl) (pae_p 0 (pae_d (pd_var 1) pae_nil)) pke_nil (lenE_pot (lenE_cons lenE_nil)) lenE_nil (bl_b__law_set_0)))
    (psd_cons (psd_set 3 sc__law_right.nd (pd_call (takes_of rfl rfl rfl rfl) (ok__law_other T) (hr.mono (by decide)) hg T.g__law_other T.D__law_other.kp (b__law_other_0 T.D__law_other) .nil (fun _ _ => rfl) (pae_p 0 (pae_d (pd_var 2) pae_nil)) pke_nil (lenE_pot (lenE_cons lenE_nil)) lenE_nil (bl_b__law_other_0)))
    (psd_cons (psd_set 4 sc__law_right.nd (pd_B (cs_repr hr hg) T.n_repr (pad_cons (pd_frz (po_lst (pad_cons (pd_var 2) (pad_cons (pd_var 3) pad_nil)) (len_cons (len_cons len_nil)))) pad_nil)))
    (psd_cons (psd_set 5 sc__law_right.nd (pd_frz (po_lst (pad_cons (pd_call (takes_of rfl rfl rfl rfl) (ok__law_within T) (hr.mono (by decide)) hg T.g__law_within T.D__law_within.kp (b__law_within_0 T.D__law_within) .nil (fun _ _ => rfl) (pae_d (pd_var 2) (pae_d (pd_var 3) pae_nil)) pke_nil (lenE_cons (lenE_cons lenE_nil)) lenE_nil (bl_b__law_within_0)) (pad_cons (pd_call (takes_of rfl rfl rfl rfl) (ok__law_within T) (hr.mono (by decide)) hg T.g__law_within T.D__law_within.kp (b__law_within_0 T.D__law_within) .nil (fun _ _ => rfl) (pae_d (pd_var 3) (pae_d (pd_var 2) pae_nil)) pke_nil (lenE_cons (lenE_cons lenE_nil)) lenE_nil (bl_b__law_within_0)) pad_nil)) (len_cons (len_cons len_nil)))))
    (psd_cons (psd_set 6 sc__law_right.nd (pd_frz (po_lst (pad_cons (pd_call (takes_of rfl rfl rfl rfl) (ok_set_within T) (hr.mono (by decide)) hg T.g_set_within T.D_set_within.kp (b_set_within_1 T.D_set_within) .nil (fun _ _ => rfl) (pae_d (pd_var 2) (pae_d (pd_var 3) pae_nil)) pke_nil (lenE_cons (lenE_cons lenE_nil)) lenE_nil (bl_b_set_within_1)) (pad_cons (pd_call0 (takes_of rfl rfl rfl rfl) (ok_set_within T) (hr.mono (by decide)) hg T.g_set_within T.D_set_within.kp (b_set_within_0 T.D_set_within) .nil (fun _ _ => rfl) (pke_d (pd_var 2) (pke_d (pd_var 3) pke_nil)) (lenE_cons (lenE_cons lenE_nil)) (bl_b_set_within_0)) pad_nil)) (len_cons (len_cons len_nil)))))
    (psd_cons (psd_if (PWD.pt (pw_o (pt_cmp1 (od_ne hr) (pd_B (cs_repr hr hg) T.n_repr (pad_cons (pd_var 6) pad_nil)) (pd_B (cs_repr hr hg) T.n_repr (pad_cons (pd_var 5) pad_nil))) (pw_o1 (pt_cmp1 (od_ne hr) (pd_B (cs_repr hr hg) T.n_repr (pad_cons (pd_frz (po_lst (pad_cons (pd_var 2) (pad_cons (pd_var 3) pad_nil)) (len_cons (len_cons len_nil)))) pad_nil)) (pd_var 4))))) (psd_one (psd_ret pd_bl)) psd_nil)
    (psd_cons (psd_if (PWD.pt (pw_o (pt_cmp1 od_isnot2 (pd_call (takes_of rfl rfl rfl rfl) (ok_set_within T) (hr.mono (by decide)) hg T.g_set_within T.D_set_within.kp (b_set_within_1 T.D_set_within) .nil (fun _ _ => rfl) (pae_d (pd_var 2) (pae_d (pd_call (takes_of rfl rfl rfl rfl) (ok_set_of_box T) (hr.mono (by decide)) hg T.g_set_of_box T.D_set_of_box.kp (b_set_of_box_0 T.D_set_of_box) .nil (fun _ _ => rfl) (pae_d (pd_call (takes_of rfl rfl rfl rfl) (ok_set_hull T) (hr.mono (by decide)) hg T.g_set_hull T.D_set_hull.kp (b_set_hull_0 T.D_set_hull) .nil (fun _ _ => rfl) (pae_d (pd_var 2) pae_nil) pke_nil (lenE_cons lenE_nil) lenE_nil (bl_b_set_hull_0)) pae_nil) pke_nil (lenE_cons lenE_nil) lenE_nil (bl_b_set_of_box_0)) pae_nil)) pke_nil (lenE_cons (lenE_cons lenE_nil)) lenE_nil (bl_b_set_within_1)) pd_bl) (pw_o1 (pt_cmp1 od_isnot2 (pd_call (takes_of rfl rfl rfl rfl) (ok_set_within T) (hr.mono (by decide)) hg T.g_set_within T.D_set_within.kp (b_set_within_1 T.D_set_within) .nil (fun _ _ => rfl) (pae_d (pd_var 2) (pae_d (pd_var 2) pae_nil)) pke_nil (lenE_cons (lenE_cons lenE_nil)) lenE_nil (bl_b_set_within_1)) pd_bl)))) (psd_one (psd_ret pd_bl)) psd_nil)
    (psd_one (psd_ret (pd_call (takes_of rfl rfl rfl rfl) (ok__law_rounded_right T) (hr.mono (by decide)) hg T.g__law_rounded_right T.D__law_rounded_right.kp (b__law_rounded_right_0 T.D__law_rounded_right) .nil (fun _ _ => rfl) (pae_p 0 pae_nil) pke_nil (lenE_pot lenE_nil) lenE_nil (bl_b__law_rounded_right_0)))))))))))))
theorem ok_law (T : Tx K mg) : Pd.FnP P w K mg base 21 T.a_law T.d_law ["_law_script"] m_law :=
  Pd.fnp T.D_law sc_law fun cdv A outer s H E F hr hg => (show PSDs _ F _ (defBody s_law) r_law from (psd_one (psd_lawR (takes_of rfl rfl rfl rfl) (ok__law_right T) (hr.mono (by decide)) hg T.g__law_right T.D__law_right.kp (b__law_right_0 T.D__law_right) (po_call (takes_of rfl rfl rfl rfl) (ok__law_pot T) (hr.mono (by decide)) hg T.g__law_pot T.D__law_pot.kp (b__law_pot_0 T.D__law_pot) .nil (fun _ _ => rfl) (pae_d (pd_var 0) (pae_d pd_int pae_nil)) pke_nil (lenE_cons (lenE_cons lenE_nil)) lenE_nil (bl_b__law_pot_0)))))
end
end Tc


local macro_rules
  | `(tactic| simp! [$as,*] $[$l:location]?) => `(tactic| simp only [Pd.gv_var, Pd.varK_d, Pd.potK_p, Pd.gv_op, Pd.opK1_a, Pd.opK2_a, Pd.gv_I, Pd.gv_eqI, Pd.gv_neI, Pd.gv_neg, Pd.negK_a, Pd.gv_bool, Pd.boolK_a, Pd.gv_not, Pd.notK_a, Pd.brK_t, Pd.brK_f, Pd.brK_d, Pd.brK_n, Pd.runP_a, Pd.ansP_a, Pd.gv_and, Pd.gv_or, Pd.gv_andV, Pd.gv_orV, Pd.blK_a, Pd.gv_notV, Pd.gv_ite, Pd.gv_if, Pd.gv_nil, Pd.gv_cons, Pd.consK1_a, Pd.consK2_a, Pd.mapK_a, Pd.gv_tup, Pd.gv_lst, Pd.optK_a, Pd.gv_B, Pd.gv_chn, Pd.chnK_a, Pd.gv_last, Pd.gv_link, Pd.linkK_a, Pd.gv_isi, Pd.isi_ii, Pd.isi_bi, Pd.isi_tt, Pd.isi_ll, Pd.isi_ss, Pd.isi_ti, Pd.isi_li, Pd.isi_si, Pd.isi_tl, Pd.isi_lt, Pd.isi_it, Pd.isi_il, Pd.isi_is, Pd.isi_bs, Pd.isi_ib, Pd.isi_bb, Pd.isi_st, Pd.isi_sl, Pd.gv_seq, Pd.sqK_n, Pd.sqK_r, Pd.sqK_b, Pd.sqK_c, Pd.gv_next, Pd.gv_brk, Pd.gv_cnt, Pd.gv_retN, Pd.gv_set, Pd.setK_a, Pd.gv_par, Pd.parK_2, Pd.parK_3, Pd.gv_asg, Pd.asgK_a, Pd.asgR_s, Pd.bindT_n, Pd.bindT_2, Pd.bindT_3, Pd.gv_retS, Pd.retK_a, Pd.gv_retO, Pd.retOK_a, Pd.gv_fn, Pd.fnK_n, Pd.fnK_r, Pd.gv_enil, Pd.gv_econs, Pd.ecK1_a, Pd.ecK2_a, Pd.gv_epot, Pd.epK_a, Pd.rdK_d, Pd.rdK_o, Pd.roK_o, Pd.gv_call, Pd.cK1_a, Pd.cK2_a, Pd.gv_callO, Pd.coK1_a, Pd.coK2_a, Pd.gv_potI, Pd.potI_0, Pd.potI_1, Pd.gv_potS, Pd.potSK_a, Pd.gv_potD, Pd.potDK_a, Pd.gv_rng, Pd.gv_seqI, Pd.seqOf_l, Pd.seqOf_t, Pd.gv_for, Pd.forK_a, Pd.gv_comp, Pd.compK_a, Pd.gv_comp0, Pd.cmpR_s, Pd.cmpK2_a, Pd.cmpK1_a, Pd.gv_comp1, Pd.gv_tt1, Pd.hide_nil, Pd.hide_0, Pd.hide_d, Pd.hide_p, Pd.hide_o, Pd.wipeD_nil, Pd.wipeD_cons, Pd.gv_ok, Pd.gv_bad, Pd.gv_ret, Pd.gv_opt, Pd.gv_max2, Pd.gv_min2, Pd.gv_int, Pd.gv_ix0, Pd.gv_ix1, Pd.gv_ix2, Pd.gv_abs, Pd.pick_nil, Pd.pick_0, Pd.pick_1, Pd.pick_2, Pd.pick_3, Pd.pick_4, Pd.pick_5, Pd.gv_lenT0, Pd.gv_lenT1, Pd.gv_lenT2, Pd.gv_lenT3, Pd.gv_lenT4, Pd.gv_lenL0, Pd.gv_lenL1, Pd.gv_lenL2, Pd.gv_lenL3, Pd.gv_lenL4, Pd.gv_neS, Pd.gv_eqS, Pd.gv_rng1, Pd.gv_rng2, Pd.bnd62_of, Pd.rngL_len, Pd.big_of, Pd.gv_all2, Pd.gv_maxL2, Pd.gv_minL2, Pd.gv_goS, Pd.gv_go0, Pd.goK_n, Pd.goK_c, Pd.goK_b, Pd.goK_r, Pd.goR_s, Pd.gv_maxL4, Pd.gv_minL4, Pd.gv_tupOf, Pd.tupOf_l, Pd.tupOf_t, Pd.gv_listOf, Pd.listOf_l, Pd.listOf_t, Pd.gv_zip, Pd.zipOf_l, Pd.zipOf_t, Pd.gv_zip3, Pd.gv_zipB, Pd.zipB_ll, Pd.zipB_tt, Pd.zipB_lt, Pd.zipB_tl, Pd.gv_enum, Pd.enumOf_l, Pd.add2_i, Pd.add2_t, Pd.gv_sl, Pd.slK0_a, Pd.slK1_a, Pd.slK2_a, Pd.gSl_t, Pd.gSl_l, Pd.gv_enum2, Pd.enumOf2_l, Pd.enumOf2_t, Pd.gv_lend, Pd.lendK_n, Pd.lendK_b, Pd.lendK_i, Pd.lendK_s, Pd.frzAll_nil, Pd.frzAll_cons, Pd.frzE1_o, Pd.frzE1_d, Pd.frzE1_p, Pd.frzE1_n, Pd.gv_itO, Pd.itOK_a, Pd.gv_setI, Pd.siK_a, Pd.gv_setI2, Pd.si2K_a, Pd.si2L_n, Pd.mul2_i, Pd.mul2_t, Pd.gv_noP, Pd.gv_pt, Pd.ptK_a, Pd.gv_setO, Pd.setOK_a, Pd.ownK_o, Pd.gv_app, Pd.appK1_a, Pd.appK2_a, Pd.gv_ext, Pd.extK1_a, Pd.extK2_a, Pd.gv_parE, Pd.gv_bor, Pd.borK_a, Pd.gv_frz, Pd.frzE_o, Pd.gv_expr, Pd.exprK_a, Pd.is2_b, Pd.isn2_b, Pd.is2_n, Pd.isn2_n, Pd.is2_i, Pd.isn2_i, Pd.is2_t, Pd.isn2_t, List.map_cons, List.map_nil, List.length_cons, List.length_nil, List.replicate, List.cons_append, List.nil_append, List.append_nil, List.getElem?_cons_zero, List.getElem?_cons_succ, List.set_cons_zero, List.set_cons_succ, Nat.reduceSub, Nat.reduceAdd, Nat.reduceMul, Nat.zero_add, Nat.add_zero, true_and, and_true, Int.reducePow, Int.reduceToNat, Int.reduceMul, Int.reduceAdd, Int.reduceSub, Int.reduceMod, Int.reduceNeg, Int.reduceLE, Int.reduceLT, Int.reduceEq, Nat.reduceLT, Nat.reduceLeDiff, Nat.reducePow, Int.reduceAbs, ne_eq, not_false_eq_true, not_true_eq_false, Pd.small_of, decide_true, decide_false, Bool.and_self, Bool.true_and, Bool.and_true, Bool.not_false, Bool.not_true, Pd.brK_t, Pd.brK_f, Pd.gv_parOD, Pd.odK1_a, Pd.odK2_a, Pd.gv_parDO, Pd.doK1_a, Pd.doK2_a, Pd.add3_i, Pd.add3_l, Pd.add3_t, Pd.gv_rev, Pd.rev_2, Pd.mul3_i, Pd.gv_repO, Pd.repK1_a, Pd.repK_a, true_implies, false_implies, forall_const, implies_true, not_false_iff, $as,*] $[$l:location]?)

namespace Tc
open PySem PySem.Spec Pd
/-! ### whole numbers of so many digits -/
def bi (k : Nat) (i : Int) : Prop := i.natAbs ≤ 2 ^ k
instance (k : Nat) (i : Int) : Decidable (bi k i) := inferInstanceAs (Decidable (i.natAbs ≤ 2 ^ k))
theorem bi.mono {a b : Nat} {i : Int} (h : bi a i) (l : a ≤ b) : bi b i := Nat.le_trans h (Nat.pow_le_pow_right (by decide) l)
theorem bi.small {k : Nat} {i : Int} (h : bi k i) (l : k < 9000) : small i = true := by
  refine decide_eq_true ?_
  by_cases z : i.natAbs = 0
  · rw [z]
    decide
  · exact (Nat.log2_lt z).mpr (Nat.lt_of_le_of_lt h (Nat.pow_lt_pow_right (by decide) l))
theorem bi.mul {a b : Nat} {i j : Int} (h : bi a i) (g : bi b j) : bi (a + b) (i * j) := by
  unfold bi at *
  rw [Int.natAbs_mul, Nat.pow_add]
  exact Nat.mul_le_mul h g
theorem bi.add {a b : Nat} {i j : Int} (h : bi a i) (g : bi b j) : bi (max a b + 1) (i + j) := by
  have h1 : i.natAbs ≤ 2 ^ (max a b) := h.mono (Nat.le_max_left _ _)
  have g1 : j.natAbs ≤ 2 ^ (max a b) := g.mono (Nat.le_max_right _ _)
  show (i + j).natAbs ≤ 2 ^ (max a b + 1)
  rw [Nat.pow_succ]
  omega
theorem bi.neg {a : Nat} {i : Int} (h : bi a i) : bi a (-i) := by
  unfold bi at *
  rw [Int.natAbs_neg]
  exact h
theorem bi.sub {a b : Nat} {i j : Int} (h : bi a i) (g : bi b j) : bi (max a b + 1) (i - j) := by
  rw [Int.sub_eq_add_neg]
  exact h.add g.neg
theorem bi.abs {a : Nat} {i : Int} (h : bi a i) : bi a (i.natAbs : Nat) := by
  unfold bi at *
  simpa using h
/-! ### ratios as pairs -/
abbrev W2 := Int × Int
def qv (w : W2) : Rat := (w.1 : Rat) / (w.2 : Rat)
def dw (w : W2) : Dt := .tup [.int w.1, .int w.2]
def dq (q : Rat) : Dt := .tup [.int q.num, .int (q.den : Nat)]
theorem cast_ne {i : Int} (h : i ≠ 0) : (i : Rat) ≠ 0 := fun e => h (Rat.intCast_inj.mp (by rw [e]; rfl))
theorem cast_pos {i : Int} (h : 0 < i) : (0 : Rat) < (i : Rat) := Rat.intCast_pos.mpr h
theorem q_num_den (q : Rat) : (q.num : Rat) / ((q.den : Int) : Rat) = q := by
  rw [← Rat.divInt_eq_div]
  exact Rat.num_divInt_den q
theorem den_pos (q : Rat) : (0 : Int) < (q.den : Int) := by
  have := q.den_pos
  omega
theorem qv_q (q : Rat) : qv (q.num, (q.den : Nat)) = q := q_num_den q
theorem qv_mul {a b : W2} (ha : a.2 ≠ 0) (hb : b.2 ≠ 0) : qv (a.1 * b.1, a.2 * b.2) = qv a * qv b := by
  unfold qv
  have h1 := cast_ne ha
  have h2 := cast_ne hb
  simp only [Rat.intCast_mul]
  grind
theorem qv_add {a b : W2} (ha : a.2 ≠ 0) (hb : b.2 ≠ 0) : qv (a.1 * b.2 + b.1 * a.2, a.2 * b.2) = qv a + qv b := by
  unfold qv
  have h1 := cast_ne ha
  have h2 := cast_ne hb
  simp only [Rat.intCast_mul, Rat.intCast_add]
  grind
theorem qv_le {a b : W2} (ha : 0 < a.2) (hb : 0 < b.2) : qv a ≤ qv b ↔ a.1 * b.2 ≤ b.1 * a.2 := by
  have h1 := cast_pos ha
  have h2 := cast_pos hb
  have e1 : qv a * (a.2 : Rat) = (a.1 : Rat) := by
    unfold qv
    grind
  have e2 : qv b * (b.2 : Rat) = (b.1 : Rat) := by
    unfold qv
    grind
  rw [← Rat.intCast_le_intCast, Rat.intCast_mul, Rat.intCast_mul, ← e1, ← e2]
  have h3 := Rat.mul_pos h1 h2
  constructor
  · intro h
    have := Rat.mul_le_mul_of_nonneg_right h (Rat.le_of_lt h3)
    grind
  · intro h
    refine Rat.le_of_mul_le_mul_right (c := (a.2 : Rat) * (b.2 : Rat)) ?_ h3
    grind
/-! ### made of a number over another -/
theorem num_den_of {n u : Int} (hu : u ≠ 0) (q : Rat) (e : q = (n : Rat) / (u : Rat)) : q.num = (u.sign * n) / (Int.gcd n u : Nat) ∧ (q.den : Int) = (u.natAbs : Int) / (Int.gcd n u : Nat) := by
  rw [← Rat.divInt_eq_div] at e
  subst e
  rw [Rat.num_divInt, Rat.den_divInt, if_neg hu, Int.gcd_comm]
  exact ⟨rfl, by rw [Int.natCast_ediv]⟩
theorem made_pos {n u : Int} (hu : 0 < u) : dq ((n : Rat) / (u : Rat)) = .tup [.int (n.fdiv (Int.gcd n u : Nat)), .int (u.fdiv (Int.gcd n u : Nat))] := by
  obtain ⟨e1, e2⟩ := num_den_of (n := n) (Int.ne_of_gt hu) _ rfl
  have g0 := Int.gcd_pos_of_ne_zero_right n (Int.ne_of_gt hu)
  unfold dq
  rw [e1, e2, fd_pos (by omega), fd_pos (by omega), Int.sign_eq_one_of_pos hu, Int.one_mul, Int.natAbs_of_nonneg (Int.le_of_lt hu)]
theorem made_neg {n u : Int} (hu : u < 0) : dq ((n : Rat) / (u : Rat)) = .tup [.int (n.fdiv (0 - (Int.gcd n u : Nat))), .int (u.fdiv (0 - (Int.gcd n u : Nat)))] := by
  have e0 : (n : Rat) / (u : Rat) = ((-n : Int) : Rat) / ((-u : Int) : Rat) := by
    have h1 := cast_ne (Int.ne_of_lt hu)
    simp only [Rat.intCast_neg]
    grind
  rw [e0, made_pos (show 0 < -u by omega), Int.neg_gcd, Int.gcd_neg]
  have e1 : ∀ x g : Int, x.fdiv (0 - g) = (-x).fdiv g := fun x g => by
    rw [Int.zero_sub, ← Int.neg_fdiv_neg, Int.neg_neg]
  rw [e1, e1]
/-! ### ratios of so many digits -/
def bz (k : Nat) (q : Rat) : Prop := bi k q.num ∧ bi k (q.den : Int)
instance (k : Nat) (q : Rat) : Decidable (bz k q) := inferInstanceAs (Decidable (bi k q.num ∧ bi k (q.den : Int)))
theorem bz.mono {a b : Nat} {q : Rat} (h : bz a q) (l : a ≤ b) : bz b q := ⟨h.1.mono l, h.2.mono l⟩
theorem bz_of {k : Nat} {w : W2} {q : Rat} (hw : w.2 ≠ 0) (e : qv w = q) (h1 : bi k w.1) (h2 : bi k w.2) : bz k q := by
  obtain ⟨e1, e2⟩ := num_den_of (n := w.1) hw q e.symm
  have e3 : q.den = w.2.natAbs / Int.gcd w.1 w.2 := by
    have : (q.den : Int) = ((w.2.natAbs / Int.gcd w.1 w.2 : Nat) : Int) := by rw [e2, Int.natCast_ediv]
    exact Int.ofNat.inj this
  have e4 : q.num.natAbs ≤ w.1.natAbs := by
    rw [e1]
    refine Nat.le_trans (Int.natAbs_ediv_le_natAbs _ _) ?_
    rw [Int.natAbs_mul, Int.natAbs_sign_of_ne_zero hw, Nat.one_mul]
    exact Nat.le_refl _
  refine ⟨Nat.le_trans e4 h1, ?_⟩
  show (q.den : Int).natAbs ≤ 2 ^ k
  rw [Int.natAbs_natCast, e3]
  exact Nat.le_trans (Nat.div_le_self _ _) h2
theorem den_ne (q : Rat) : ((q.den : Nat) : Int) ≠ 0 := Int.ne_of_gt (den_pos q)
theorem bz.add {a b : Nat} {p q : Rat} (h : bz a p) (g : bz b q) : bz (a + b + 1) (p + q) := by
  refine bz_of (w := (p.num * (q.den : Int) + q.num * (p.den : Int), (p.den : Int) * (q.den : Int))) (Int.mul_ne_zero (den_ne p) (den_ne q)) ?_ ?_ ?_
  · rw [qv_add (a := (p.num, (p.den : Int))) (b := (q.num, (q.den : Int))) (den_ne p) (den_ne q), qv_q, qv_q]
  · exact ((h.1.mul g.2).add (g.1.mul h.2)).mono (by omega)
  · exact (h.2.mul g.2).mono (by omega)
theorem bz.mul {a b : Nat} {p q : Rat} (h : bz a p) (g : bz b q) : bz (a + b) (p * q) := by
  refine bz_of (w := (p.num * q.num, (p.den : Int) * (q.den : Int))) (Int.mul_ne_zero (den_ne p) (den_ne q)) ?_ (h.1.mul g.1) (h.2.mul g.2)
  rw [qv_mul (a := (p.num, (p.den : Int))) (b := (q.num, (q.den : Int))) (den_ne p) (den_ne q), qv_q, qv_q]
theorem bz.neg {a : Nat} {p : Rat} (h : bz a p) : bz a (-p) := by
  unfold bz at *
  rw [Rat.neg_num, Rat.neg_den]
  exact ⟨h.1.neg, h.2⟩
theorem bz.sub {a b : Nat} {p q : Rat} (h : bz a p) (g : bz b q) : bz (a + b + 1) (p - q) := by
  rw [Rat.sub_eq_add_neg]
  exact h.add g.neg
/-! ### sizes -/
def qabs (q : Rat) : Rat := if q < 0 then -q else q
theorem dq_neg (q : Rat) : dq (-q) = .tup [.int (-q.num), .int (q.den : Nat)] := by
  unfold dq
  rw [Rat.neg_num, Rat.neg_den]
theorem num_neg_iff (q : Rat) : q.num < 0 ↔ q < 0 := by
  have := @Rat.num_nonneg q
  grind
theorem bz.abs {a : Nat} {p : Rat} (h : bz a p) : bz a (qabs p) := by
  unfold qabs
  split
  · exact h.neg
  · exact h
end Tc


namespace Tc
open PySem PySem.Spec Pd
theorem gv_gcd2 {ρ : DEnv} {θ : Pot} (n d : Int) {Q : Dt → Pot → Prop} : Gv (opt (gGcd [.int n, .int d]) ρ θ) Q = Q (.int (Int.gcd n d : Nat)) θ := by
  have e : gGcd [.int n, .int d] = some (.int ((Nat.gcd n.natAbs d.natAbs : Nat) : Int)) := rfl
  rw [e, ← Int.gcd_eq_natAbs_gcd_natAbs, gv_opt]
theorem is_integer_eq {θ : Pot} {i : Int} {Q : Ret → Pot → Prop} : Gv (m_is_integer [.dat (.int i)] θ) Q = Q (.d (.bl true)) θ := by
  unfold m_is_integer r_is_integer
  simp! [true_and]
theorem bi_gcd {k : Nat} {n u : Int} (hu : u ≠ 0) (h : bi k u) : bi k (Int.gcd n u : Nat) := by
  have : Int.gcd n u ≤ u.natAbs := Int.gcd_le_natAbs_right _ hu
  unfold bi at *
  rw [Int.natAbs_natCast]
  omega
theorem made_ok {θ : Pot} {n u : Int} {k : Nat} {Q : Ret → Pot → Prop} (hu : u ≠ 0) (h : bi k u) (hk : k < 8990) (q : Q (.d (dq ((n : Rat) / (u : Rat)))) θ) : Gv (m_made_ratio [.dat (.int n), .dat (.int u)] θ) Q := by
  unfold m_made_ratio r_made_ratio
  have g0 : 0 < Int.gcd n u := Int.gcd_pos_of_ne_zero_right n hu
  have gs : small (Int.gcd n u : Nat) = true := (bi_gcd hu h).small (by omega)
  have gs2 : small (0 - (Int.gcd n u : Nat)) = true := by
    rw [Int.zero_sub]
    exact (bi_gcd hu h).neg.small (by omega)
  have gz : ¬ ((Int.gcd n u : Nat) : Int) = 0 := by omega
  have gz2 : ¬ (0 - ((Int.gcd n u : Nat) : Int)) = 0 := by omega
  simp! [gv_gcd2]
  refine ⟨fun c => ?_, fun c => ?_⟩
  · simp! [gs2, gz2]
    rw [made_neg c] at q
    exact q
  · simp! [gs, gz]
    rw [made_pos (by omega)] at q
    exact q
theorem dq_pair (p : Rat) : dq p = .tup [.int p.num, .int (p.den : Nat)] := rfl
theorem mul_ok {θ : Pot} {p q : Rat} {a b : Nat} {Q : Ret → Pot → Prop} (hp : bz a p) (hq : bz b q) (l : a + b < 8980) (h : Q (.d (dq (p * q))) θ) : Gv (m_mul_ratios [.dat (dq p), .dat (dq q)] θ) Q := by
  unfold m_mul_ratios r_mul_ratios
  have s1 := hp.1.small (by omega)
  have s2 := hp.2.small (by omega)
  have s3 := hq.1.small (by omega)
  have s4 := hq.2.small (by omega)
  simp! [dq, s1, s2, s3, s4]
  refine made_ok (Int.mul_ne_zero (den_ne p) (den_ne q)) (hp.2.mul hq.2) (by omega) ?_
  have e := qv_mul (a := (p.num, (p.den : Int))) (b := (q.num, (q.den : Int))) (den_ne p) (den_ne q)
  rw [qv_q, qv_q] at e
  rw [← e] at h
  simp! [true_and]
  exact h
theorem add_ok {θ : Pot} {p q : Rat} {a b : Nat} {Q : Ret → Pot → Prop} (hp : bz a p) (hq : bz b q) (l : a + b < 8980) (h : Q (.d (dq (p + q))) θ) : Gv (m_add_ratios [.dat (dq p), .dat (dq q)] θ) Q := by
  unfold m_add_ratios r_add_ratios
  have s1 := hp.1.small (by omega)
  have s2 := hp.2.small (by omega)
  have s3 := hq.1.small (by omega)
  have s4 := hq.2.small (by omega)
  simp! [dq, s1, s2, s3, s4]
  refine made_ok (Int.mul_ne_zero (den_ne p) (den_ne q)) (hp.2.mul hq.2) (by omega) ?_
  have e := qv_add (a := (p.num, (p.den : Int))) (b := (q.num, (q.den : Int))) (den_ne p) (den_ne q)
  rw [qv_q, qv_q] at e
  rw [← e] at h
  simp! [true_and]
  exact h
theorem neg_ok {θ : Pot} {p : Rat} {Q : Ret → Pot → Prop} (h : Q (.d (dq (-p))) θ) : Gv (m_neg_ratio [.dat (dq p)] θ) Q := by
  unfold m_neg_ratio r_neg_ratio
  simp! [dq, Int.zero_sub]
  rw [dq_neg] at h
  exact h
theorem sub_ok {θ : Pot} {p q : Rat} {a b : Nat} {Q : Ret → Pot → Prop} (hp : bz a p) (hq : bz b q) (l : a + b < 8980) (h : Q (.d (dq (p - q))) θ) : Gv (m_sub_ratios [.dat (dq p), .dat (dq q)] θ) Q := by
  unfold m_sub_ratios r_sub_ratios
  simp! [true_and]
  refine neg_ok ?_
  simp! [true_and]
  refine add_ok hp hq.neg l ?_
  simp! [true_and]
  rw [← Rat.sub_eq_add_neg]
  exact h
theorem inv_ok {θ : Pot} {p : Rat} {a : Nat} {Q : Ret → Pot → Prop} (hp : bz a p) (l : a < 8980) (z : p ≠ 0) (h : Q (.d (dq (1 / p))) θ) : Gv (m_inverse_ratio [.dat (dq p)] θ) Q := by
  unfold m_inverse_ratio r_inverse_ratio
  simp! [dq]
  have nz : p.num ≠ 0 := fun e => z (Rat.num_eq_zero.mp e)
  refine made_ok nz hp.1 (by omega) ?_
  have e : ((p.den : Int) : Rat) / (p.num : Rat) = 1 / p := by
    have e1 := q_num_den p
    have h1 := cast_ne nz
    have h2 := cast_ne (den_ne p)
    grind
  simp! [e]
  exact h
theorem bz.inv {p : Rat} {a : Nat} (hp : bz a p) (z : p ≠ 0) : bz a (1 / p) := by
  have nz : p.num ≠ 0 := fun e => z (Rat.num_eq_zero.mp e)
  refine bz_of (w := ((p.den : Int), p.num)) nz ?_ hp.2 hp.1
  have e1 := q_num_den p
  have h1 := cast_ne nz
  have h2 := cast_ne (den_ne p)
  unfold qv
  grind
theorem bz_int {k : Nat} {i : Int} (h : bi k i) : bz k (i : Rat) := bz_of (w := (i, 1)) (show (1 : Int) ≠ 0 by decide) (by unfold qv; simp only [Rat.intCast_one]; grind) h (show (1 : Int).natAbs ≤ 2 ^ k from Nat.one_le_two_pow)
theorem is_ratio_ok {θ : Pot} {p : Rat} {Q : Ret → Pot → Prop} (q : Q (.d (.bl true)) θ) : Gv (m_is_ratio [.dat (dq p)] θ) Q := by
  unfold m_is_ratio r_is_ratio
  have h1 : (1 : Int) ≤ (p.den : Nat) := den_pos p
  have g : Int.gcd p.num (p.den : Nat) = 1 := p.reduced
  simp! [dq, is_integer_eq, h1, gv_gcd2, g]
  exact q
theorem draw_spec {θ : Pot} {n : Int} (h : PotOk θ) (hn : 0 < n) (hn2 : n < 1000000000000000000000000000000000000000000000000) : Gv (m__law_draw [.pot, .dat (.int n)] θ) fun r θ' => ∃ i, r = .d (.int i) ∧ 0 ≤ i ∧ i < n ∧ PotOk θ' := by
  unfold m__law_draw r__law_draw
  obtain ⟨h1, h2, h3⟩ := h
  have e1 : ∀ i : Int, i.fmod n = i % n := fun i => fm_pos hn
  have e2 : ∀ i : Int, i.fmod 2147483563 = i % 2147483563 := fun i => fm_pos (by decide)
  have e3 : ∀ i : Int, i.fmod 2147483629 = i % 2147483629 := fun i => fm_pos (by decide)
  have e4 : ∀ i : Int, i.fdiv 19 = i / 19 := fun i => fd_pos (by decide)
  have k1 : ∀ i : Int, 0 ≤ i % n ∧ i % n < n := fun i => ⟨Int.emod_nonneg i (by omega), Int.emod_lt_of_pos i hn⟩
  simp! [e1, e2, e3, e4]
  have nz : n ≠ 0 := by omega
  refine ⟨fun h => ⟨⟨hn, small_of (by omega) (by omega)⟩, _, rfl, (k1 _).1, (k1 _).2, Int.ediv_nonneg h1 (by omega), h2, h3⟩, fun h => ⟨small_of (by omega) (by omega), small_of (by omega) (by omega), by simp [nz], _, rfl, (k1 _).1, (k1 _).2, h1, ?_, ?_⟩⟩
  · show 0 ≤ (θ.2 * 40014 + 9421) % 2147483563
    omega
  · show (θ.2 * 40014 + 9421) % 2147483563 < 4294967296
    omega
theorem pick4_ok {θ : Pot} {a b c d : Dt} (h : PotOk θ) {Q : Ret → Pot → Prop} (q : ∀ θ', PotOk θ' → Q (.d a) θ' ∧ Q (.d b) θ' ∧ Q (.d c) θ' ∧ Q (.d d) θ') : Gv (m__law_pick [.pot, .dat (.lst [a, b, c, d])] θ) Q := by
  unfold m__law_pick r__law_pick
  simp! [true_and]
  refine (draw_spec h (by decide) (by decide)).imp ?_
  rintro _ θ1 ⟨i, rfl, i0, i1, h1⟩
  obtain ⟨q1, q2, q3, q4⟩ := q θ1 h1
  have : i = 0 ∨ i = 1 ∨ i = 2 ∨ i = 3 := by omega
  rcases this with rfl | rfl | rfl | rfl
  · exact q1
  · exact q2
  · exact q3
  · exact q4
theorem gcd_step (x y : Int) : Int.gcd y (x.fmod y) = Int.gcd x y := by
  rw [Int.fmod_def, Int.gcd_sub_mul_left_right, Int.gcd_comm]
theorem fm_lt {x y : Int} (h : y ≠ 0) : (x.fmod y).natAbs < y.natAbs := by
  by_cases z : 0 < y
  · have h1 := Int.fmod_nonneg_of_pos x z
    have h2 := Int.fmod_lt_of_pos x z
    omega
  · have h1 := Int.fmod_nonneg_of_pos (-x) (show 0 < -y by omega)
    have h2 := Int.fmod_lt_of_pos (-x) (show 0 < -y by omega)
    rw [Int.neg_fmod_neg] at h1 h2
    omega

/-! ### the law's own ratios -/
theorem law_made_ok {θ : Pot} {n u : Int} {k : Nat} {Q : Ret → Pot → Prop} (hu : u ≠ 0) (h : bi k u) (hk : k < 8900) (q : Q (.d (dq ((n : Rat) / (u : Rat)))) θ) : Gv (m__law_made [.dat (.int n), .dat (.int u)] θ) Q := by
  unfold m__law_made r__law_made
  have g0 : 0 < Int.gcd n u := Int.gcd_pos_of_ne_zero_right n hu
  have gs : small (Int.gcd n u : Nat) = true := (bi_gcd hu h).small (by omega)
  have gs2 : small (0 - (Int.gcd n u : Nat)) = true := by
    rw [Int.zero_sub]
    exact (bi_gcd hu h).neg.small (by omega)
  have gz : ¬ ((Int.gcd n u : Nat) : Int) = 0 := by omega
  have gz2 : ¬ (0 - ((Int.gcd n u : Nat) : Int)) = 0 := by omega
  have nu : u.natAbs < 1000000000000000000000000000000000000000000000000000000000000000000000000000000000000000000000000000000000000000000000000000000000000000000000000000000000000000000000000000000000000000000000000000000000000000000000000000000000000000000000000000000000000000000000000000000000000000000000000000000000000000000000000000000000000000000000000000000000000000000000000000000000000000000000000000000000000000000000000000000000000000000000000000000000000000000000000000000000000000000000000000000000000000000000000000000000000000000000000000000000000000000000000000000000000000000000000000000000000000000000000000000000000000000000000000000000000000000000000000000000000000000000000000000000000000000000000000000000000000000000000000000000000000000000000000000000000000000000000000000000000000000000000000000000000000000000000000000000000000000000000000000000000000000000000000000000000000000000000000000000000000000000000000000000000000000000000000000000000000000000000000000000000000000000000000000000000000000000000000000000000000000000000000000000000000000000000000000000000000000000000000000000000000000000000000000000000000000000000000000000000000000000000000000000000000000000000000000000000000000000000000000000000000000000000000000000000000000000000000000000000000000000000000000000000000000000000000000000000000000000000000000000000000000000000000000000000000000000000000000000000000000000000000000000000000000000000000000000000000000000000000000000000000000000000000000000000000000000000000000000000000000000000000000000000000000000000000000000000000000000000000000000000000000000000000000000000000000000000000000000000000000000000000000000000000000000000000000000000000000000000000000000000000000000000000000000000000000000000000000000000000000000000000000000000000000000000000000000000000000000000000000000000000000000000000000000000000000000000000000000000000000000000000000000000000000000000000000000000000000000000000000000000000000000000000000000000000000000000000000000000000000000000000000000000000000000000000000000000000000000000000000000000000000000000000000000000000000000000000000000000000000000000000000000000000000000000000000000000000000000000000000000000000000000000000000000000000000000000000000000000000000000000000000000000000000000000000000000000000000000000000000000000000000000000000000000000000000000000000000000000000000000000000000000000000000000000000000000000000000000000000000000000000000000000000000000000000000000000000000000000000000000000000000000000000000000000000000000000000000000000000000000000000000000000000000000000000000000000000000000000000000000000000000000000000000000000000000000000000000000000000000000000000000000000000000000000000000000000000000000000 := by
    have h1 : u.natAbs ≤ 2 ^ k := h
    have h2 : (2 : Nat) ^ k < 2 ^ 8900 := Nat.pow_lt_pow_right (by decide) hk
    have h3 : (2 : Nat) ^ 8900 < 1000000000000000000000000000000000000000000000000000000000000000000000000000000000000000000000000000000000000000000000000000000000000000000000000000000000000000000000000000000000000000000000000000000000000000000000000000000000000000000000000000000000000000000000000000000000000000000000000000000000000000000000000000000000000000000000000000000000000000000000000000000000000000000000000000000000000000000000000000000000000000000000000000000000000000000000000000000000000000000000000000000000000000000000000000000000000000000000000000000000000000000000000000000000000000000000000000000000000000000000000000000000000000000000000000000000000000000000000000000000000000000000000000000000000000000000000000000000000000000000000000000000000000000000000000000000000000000000000000000000000000000000000000000000000000000000000000000000000000000000000000000000000000000000000000000000000000000000000000000000000000000000000000000000000000000000000000000000000000000000000000000000000000000000000000000000000000000000000000000000000000000000000000000000000000000000000000000000000000000000000000000000000000000000000000000000000000000000000000000000000000000000000000000000000000000000000000000000000000000000000000000000000000000000000000000000000000000000000000000000000000000000000000000000000000000000000000000000000000000000000000000000000000000000000000000000000000000000000000000000000000000000000000000000000000000000000000000000000000000000000000000000000000000000000000000000000000000000000000000000000000000000000000000000000000000000000000000000000000000000000000000000000000000000000000000000000000000000000000000000000000000000000000000000000000000000000000000000000000000000000000000000000000000000000000000000000000000000000000000000000000000000000000000000000000000000000000000000000000000000000000000000000000000000000000000000000000000000000000000000000000000000000000000000000000000000000000000000000000000000000000000000000000000000000000000000000000000000000000000000000000000000000000000000000000000000000000000000000000000000000000000000000000000000000000000000000000000000000000000000000000000000000000000000000000000000000000000000000000000000000000000000000000000000000000000000000000000000000000000000000000000000000000000000000000000000000000000000000000000000000000000000000000000000000000000000000000000000000000000000000000000000000000000000000000000000000000000000000000000000000000000000000000000000000000000000000000000000000000000000000000000000000000000000000000000000000000000000000000000000000000000000000000000000000000000000000000000000000000000000000000000000000000000000000000000000000000000000000000000000000000000000000000000000000000000000000000000000000000000000000 := by decide +kernel
    exact Nat.lt_of_le_of_lt h1 (Nat.lt_trans h2 h3)
  simp! [true_and]
  refine gv_while_inv (fun k ρ θ' => ∃ a b : Int, ρ = [some (.dat (.int n)), some (.dat (.int u)), some (.dat (.int a)), some (.dat (.int b))] ∧ b.natAbs = k ∧ 0 ≤ a ∧ 0 ≤ b ∧ Int.gcd a b = Int.gcd n u ∧ θ' = θ) ?_ _ u.natAbs _ _ nu ⟨if n < 0 then -n else n, if u < 0 then -u else u, rfl, by split <;> omega, by split <;> omega, by split <;> omega, ?_, rfl⟩
  · rintro k ρ θ' ⟨a, b, rfl, rfl, a0, b0, e, rfl⟩
    by_cases z : b = 0
    · subst z
      rw [Int.gcd_zero_right] at e
      have ea : a = ((Int.gcd n u : Nat) : Int) := by omega
      subst ea
      simp! [Bool.false_eq_true, if_false, if_neg]
      refine ⟨fun c => ?_, fun c => ?_⟩
      · simp! [gs, gz]
        rw [made_pos (by omega)] at q
        exact q
      · simp! [gs2, gz2]
        rw [made_neg (by omega)] at q
        exact q
    · have z1 : 0 < b := by omega
      simp! [z, z1, if_true]
      exact ⟨_, fm_lt z, _, _, rfl, rfl, b0, Int.fmod_nonneg_of_pos a z1, (gcd_step a b).trans e⟩
  · have e1 : ∀ i : Int, (if i < 0 then -i else i) = (i.natAbs : Nat) := fun i => by split <;> omega
    rw [e1, e1, Int.gcd_eq_natAbs_gcd_natAbs, Int.gcd_eq_natAbs_gcd_natAbs]
    rfl
theorem law_times_ok {θ : Pot} {p q : Rat} {a b : Nat} {Q : Ret → Pot → Prop} (hp : bz a p) (hq : bz b q) (l : a + b < 8900) (h : Q (.d (dq (p * q))) θ) : Gv (m__law_times [.dat (dq p), .dat (dq q)] θ) Q := by
  unfold m__law_times r__law_times
  have s1 := hp.1.small (by omega)
  have s2 := hp.2.small (by omega)
  have s3 := hq.1.small (by omega)
  have s4 := hq.2.small (by omega)
  simp! [dq, s1, s2, s3, s4]
  refine law_made_ok (Int.mul_ne_zero (den_ne p) (den_ne q)) (hp.2.mul hq.2) (by omega) ?_
  have e := qv_mul (a := (p.num, (p.den : Int))) (b := (q.num, (q.den : Int))) (den_ne p) (den_ne q)
  rw [qv_q, qv_q] at e
  rw [← e] at h
  simp! [true_and]
  exact h
theorem law_sum_ok {θ : Pot} {p q : Rat} {a b : Nat} {Q : Ret → Pot → Prop} (hp : bz a p) (hq : bz b q) (l : a + b < 8900) (h : Q (.d (dq (p + q))) θ) : Gv (m__law_sum [.dat (dq p), .dat (dq q)] θ) Q := by
  unfold m__law_sum r__law_sum
  have s1 := hp.1.small (by omega)
  have s2 := hp.2.small (by omega)
  have s3 := hq.1.small (by omega)
  have s4 := hq.2.small (by omega)
  simp! [dq, s1, s2, s3, s4]
  refine law_made_ok (Int.mul_ne_zero (den_ne p) (den_ne q)) (hp.2.mul hq.2) (by omega) ?_
  have e := qv_add (a := (p.num, (p.den : Int))) (b := (q.num, (q.den : Int))) (den_ne p) (den_ne q)
  rw [qv_q, qv_q] at e
  rw [← e] at h
  simp! [true_and]
  exact h
theorem law_less_ok {θ : Pot} {p q : Rat} {a b : Nat} {Q : Ret → Pot → Prop} (hp : bz a p) (hq : bz b q) (l : a + b < 8900) (h : Q (.d (dq (p - q))) θ) : Gv (m__law_less [.dat (dq p), .dat (dq q)] θ) Q := by
  unfold m__law_less r__law_less
  simp! [dq, Int.zero_sub]
  rw [← dq_pair, ← dq_neg]
  refine law_sum_ok hp hq.neg l ?_
  simp! [true_and]
  rw [← Rat.sub_eq_add_neg]
  exact h
end Tc


namespace Tc
open PySem PySem.Spec Pd
theorem bnd_of {i : Int} (h1 : -4611686018427387904 ≤ i) (h2 : i < 4611686018427387904) : bnd62 i = true := by
  unfold bnd62
  rw [Bool.and_eq_true, decide_eq_true_iff, decide_eq_true_iff]
  constructor <;> omega
theorem rng0 (n : Nat) : rngL 0 n = (List.range n).map fun i : Nat => Dt.int (0 + i) := rfl
theorem cmapR {ρ : DEnv} {θ : Pot} {T : Tgt} {vs : List Nat} {elt : M Dt} {Q : List Dt → Pot → Prop} {f : Nat → Dt} (n : Nat) (h : ∀ (i : Nat) (v : Int), i < n → v = (i : Nat) → cmpR (bindT T (.int v) (wipeD (hide ρ) vs)) fun ρ1 => Gv (elt ρ1 θ) fun d θ' => d = f i ∧ θ' = θ) (q : Q ((List.range n).map f) θ) : Gv (compGo T vs tt1 elt (rngL 0 n) ρ θ) Q := by
  rw [rng0]
  exact cmap _ (fun i hi => h i _ (List.mem_range.mp hi) (by omega)) q
/-! ### rows and matrices -/
abbrev Rw := List Rat
abbrev Mx := List Rw
def dr (r : Rw) : Dt := .tup (r.map dq)
def dm (M : Mx) : Dt := .tup (M.map dr)
def rok (k : Nat) (r : Rw) : Prop := ∀ q ∈ r, bz k q
def mok (k : Nat) (M : Mx) : Prop := ∀ r ∈ M, rok k r
/-- h rows of w numbers -/
structure Shp (h w : Nat) (M : Mx) : Prop where
  h : M.length = h
  w : ∀ r ∈ M, r.length = w
theorem gv_lenR {ρ : DEnv} {θ : Pot} (r : Rw) {Q : Dt → Pot → Prop} : Gv (opt (gLen [dr r]) ρ θ) Q = Q (.int r.length) θ := by
  show Q (.int ((r.map dq).length : Nat)) θ = _
  rw [List.length_map]
theorem gv_lenX {ρ : DEnv} {θ : Pot} (M : Mx) {Q : Dt → Pot → Prop} : Gv (opt (gLen [dm M]) ρ θ) Q = Q (.int M.length) θ := by
  show Q (.int ((M.map dr).length : Nat)) θ = _
  rw [List.length_map]
theorem gIx_map {α : Type} (f : α → Dt) (l : List α) (a0 : α) {i : Nat} {v : Int} (e : v = (i : Nat)) (h : i < l.length) : gIx (.tup (l.map f)) (.int v) = some (f (l.getD i a0)) := by
  subst e
  have : (l.map f)[i]? = some (f (l.getD i a0)) := by
    rw [List.getElem?_map, List.getD_eq_getElem?_getD, List.getElem?_eq_getElem h]
    rfl
  exact L2.atI_nat this
theorem gv_ixR {ρ : DEnv} {θ : Pot} (r : Rw) {i : Nat} {v : Int} (e : v = (i : Nat)) (h : i < r.length) {Q : Dt → Pot → Prop} : Gv (opt (gIx (dr r) (.int v)) ρ θ) Q = Q (dq (r.getD i 0)) θ := by
  rw [show gIx (dr r) (.int v) = some (dq (r.getD i 0)) from gIx_map dq r 0 e h, gv_opt]
theorem gv_ixX {ρ : DEnv} {θ : Pot} (M : Mx) {i : Nat} {v : Int} (e : v = (i : Nat)) (h : i < M.length) {Q : Dt → Pot → Prop} : Gv (opt (gIx (dm M) (.int v)) ρ θ) Q = Q (dr (M.getD i [])) θ := by
  rw [show gIx (dm M) (.int v) = some (dr (M.getD i [])) from gIx_map dr M [] e h, gv_opt]
theorem gv_q0 {ρ : DEnv} {θ : Pot} (q : Rat) {Q : Dt → Pot → Prop} : Gv (opt (gIx (dq q) (.int 0)) ρ θ) Q = Q (.int q.num) θ := by
  unfold dq
  simp! [true_and]
theorem gv_q1 {ρ : DEnv} {θ : Pot} (q : Rat) {Q : Dt → Pot → Prop} : Gv (opt (gIx (dq q) (.int 1)) ρ θ) Q = Q (.int (q.den : Nat)) θ := by
  unfold dq
  simp! [true_and]
/-! ### products of rows -/
def dotP : List (Rat × Rat) → Rat
  | [] => 0
  | p :: ps => p.1 * p.2 + dotP ps
def dotQ (r s : Rw) : Rat := dotP (r.zip s)
theorem dot_loop_bz {a b n : Nat} {acc x y : Rat} (h : bz (n * (a + b + 1)) acc) (hx : bz a x) (hy : bz b y) : bz ((n + 1) * (a + b + 1)) (acc + x * y) := by
  have e : (n + 1) * (a + b + 1) = n * (a + b + 1) + (a + b + 1) := Nat.succ_mul n _
  exact (h.add (hx.mul hy)).mono (by omega)
theorem dz : (Dt.tup [.int 0, .int 1]) = dq 0 := rfl
theorem num_zero {q : Rat} (h : q.num = 0) : q = 0 := Rat.num_eq_zero.mp h
theorem small_mul {n m c : Nat} (h : n ≤ m) : n * c ≤ m * c := Nat.mul_le_mul_right c h
theorem dot_ok {θ : Pot} {r s : Rw} {a b : Nat} {Q : Ret → Pot → Prop} (hr : rok a r) (hs : rok b s) (hl : r.length ≤ 4) (l : 4 * (a + b + 1) + (a + b) < 8900) (q : Q (.d (dq (dotQ r s))) θ) : Gv (m_dot [.dat (dr r), .dat (dr s)] θ) Q := by
  unfold m_dot r_dot
  simp! [dz, dr, pairs_map]
  refine gv_for_inv (fun l ρ θ' => ∃ (ps : List (Rat × Rat)) (acc : Rat) (n : Nat) (x y : Option Ent), l = ps.map (fun p => .tup [dq p.1, dq p.2]) ∧ ρ = [some (.dat (.tup (r.map dq))), some (.dat (.tup (s.map dq))), some (.dat (dq acc)), x, y] ∧ θ' = θ ∧ (∀ p ∈ ps, bz a p.1 ∧ bz b p.2) ∧ n + ps.length ≤ 4 ∧ bz (n * (a + b + 1)) acc ∧ acc + dotP ps = dotQ r s) ?_ ?_ _ _ _ ⟨r.zip s, 0, 0, _, _, rfl, rfl, rfl, fun p hp => ⟨hr _ (List.of_mem_zip hp).1, hs _ (List.of_mem_zip hp).2⟩, ?_, ?_, ?_⟩
  · rintro ρ θ1 ⟨ps, acc, n, x, y, e, rfl, rfl, hp, hn, hb, hd⟩
    cases ps with
    | cons _ _ => cases e
    | nil =>
      have e2 : acc = dotQ r s := by
        rw [← hd]
        show acc = acc + 0
        grind
      simp! [e2]
      exact q
  · rintro d ds ρ θ1 ⟨ps, acc, n, x, y, e, rfl, rfl, hp, hn, hb, hd⟩
    cases ps with
    | nil => cases e
    | cons p ps =>
      rw [List.map_cons] at e
      obtain ⟨rfl, rfl⟩ := List.cons.inj e
      obtain ⟨h1, h2⟩ := hp p List.mem_cons_self
      have hp' : ∀ p ∈ ps, bz a p.1 ∧ bz b p.2 := fun x hx => hp x (List.mem_cons_of_mem _ hx)
      rw [List.length_cons] at hn
      have nb : n * (a + b + 1) ≤ 4 * (a + b + 1) := small_mul (by omega)
      have skip : p.1 * p.2 = 0 → acc + dotP ps = dotQ r s := fun z => by
        rw [← hd]
        show acc + dotP ps = acc + (p.1 * p.2 + dotP ps)
        rw [z]
        grind
      refine ⟨_, bindT_2 3 4 _ _, ?_⟩
      by_cases z1 : p.1.num = 0
      · have z : p.1 * p.2 = 0 := by rw [num_zero z1, Rat.zero_mul]
        simp! [gv_q0, z1]
        exact ⟨ps, acc, n, _, _, rfl, rfl, hp', by omega, hb, skip z⟩
      · by_cases z2 : p.2.num = 0
        · have z : p.1 * p.2 = 0 := by rw [num_zero z2, Rat.mul_zero]
          simp! [gv_q0, z1, z2]
          exact ⟨ps, acc, n, _, _, rfl, rfl, hp', by omega, hb, skip z⟩
        · simp! [gv_q0, z1, z2]
          refine mul_ok h1 h2 (by omega) ?_
          simp! [true_and]
          refine add_ok hb (h1.mul h2) (by omega) ?_
          simp! [true_and]
          refine ⟨ps, acc + p.1 * p.2, n + 1, _, _, rfl, rfl, hp', by omega, dot_loop_bz hb h1 h2, ?_⟩
          rw [← hd]
          show acc + p.1 * p.2 + dotP ps = acc + (p.1 * p.2 + dotP ps)
          grind
  · rw [List.length_zip]
    omega
  · rw [Nat.zero_mul]
    decide +kernel
  · show 0 + dotQ r s = dotQ r s
    grind
theorem law_dot_ok {θ : Pot} {r s : Rw} {a b : Nat} {Q : Ret → Pot → Prop} (hr : rok a r) (hs : rok b s) (hl : r.length ≤ 4) (l : 4 * (a + b + 1) + (a + b) < 8900) (q : Q (.d (dq (dotQ r s))) θ) : Gv (m__law_dot [.dat (dr r), .dat (dr s)] θ) Q := by
  unfold m__law_dot r__law_dot
  simp! [dz, dr, pairs_map]
  refine gv_for_inv (fun l ρ θ' => ∃ (ps : List (Rat × Rat)) (acc : Rat) (n : Nat) (x y : Option Ent), l = ps.map (fun p => .tup [dq p.1, dq p.2]) ∧ ρ = [some (.dat (.tup (r.map dq))), some (.dat (.tup (s.map dq))), some (.dat (dq acc)), x, y] ∧ θ' = θ ∧ (∀ p ∈ ps, bz a p.1 ∧ bz b p.2) ∧ n + ps.length ≤ 4 ∧ bz (n * (a + b + 1)) acc ∧ acc + dotP ps = dotQ r s) ?_ ?_ _ _ _ ⟨r.zip s, 0, 0, _, _, rfl, rfl, rfl, fun p hp => ⟨hr _ (List.of_mem_zip hp).1, hs _ (List.of_mem_zip hp).2⟩, ?_, ?_, ?_⟩
  · rintro ρ θ1 ⟨ps, acc, n, x, y, e, rfl, rfl, hp, hn, hb, hd⟩
    cases ps with
    | cons _ _ => cases e
    | nil =>
      have e2 : acc = dotQ r s := by
        rw [← hd]
        show acc = acc + 0
        grind
      simp! [e2]
      exact q
  · rintro d ds ρ θ1 ⟨ps, acc, n, x, y, e, rfl, rfl, hp, hn, hb, hd⟩
    cases ps with
    | nil => cases e
    | cons p ps =>
      rw [List.map_cons] at e
      obtain ⟨rfl, rfl⟩ := List.cons.inj e
      obtain ⟨h1, h2⟩ := hp p List.mem_cons_self
      have hp' : ∀ p ∈ ps, bz a p.1 ∧ bz b p.2 := fun x hx => hp x (List.mem_cons_of_mem _ hx)
      rw [List.length_cons] at hn
      have nb : n * (a + b + 1) ≤ 4 * (a + b + 1) := small_mul (by omega)
      refine ⟨_, bindT_2 3 4 _ _, ?_⟩
      simp! [true_and]
      refine law_times_ok h1 h2 (by omega) ?_
      simp! [true_and]
      refine law_sum_ok hb (h1.mul h2) (by omega) ?_
      simp! [true_and]
      refine ⟨ps, acc + p.1 * p.2, n + 1, _, _, rfl, rfl, hp', by omega, dot_loop_bz hb h1 h2, ?_⟩
      rw [← hd]
      show acc + p.1 * p.2 + dotP ps = acc + (p.1 * p.2 + dotP ps)
      grind
  · rw [List.length_zip]
    omega
  · rw [Nat.zero_mul]
    decide +kernel
  · show 0 + dotQ r s = dotQ r s
    grind
end Tc


namespace Tc
open PySem PySem.Spec Pd
def colsQ (w : Nat) (M : Mx) : Mx := (List.range w).map fun j => M.map fun r => r.getD j 0
def prodQ (A C : Mx) : Mx := A.map fun r => C.map fun c => dotQ r c
theorem dm_t (M : Mx) : dm M = .tup (M.map dr) := rfl
theorem dr_t (r : Rw) : dr r = .tup (r.map dq) := rfl
theorem Shp.first {h w : Nat} {M : Mx} (s : Shp h w M) (h0 : 0 < h) : (M.getD 0 []).length = w := by
  cases M with
  | nil =>
    have := s.h
    simp at this
    omega
  | cons r rs => exact s.w r List.mem_cons_self
theorem columns_ok {θ : Pot} {M : Mx} {h w : Nat} {Q : Ret → Pot → Prop} (sh : Shp h w M) (h0 : 0 < h) (h1 : h ≤ 20) (w1 : w ≤ 20) (q : Q (.d (dm (colsQ w M))) θ) : Gv (m_columns_of [.dat (dm M)] θ) Q := by
  unfold m_columns_of r_columns_of
  have e0 := sh.first h0
  have l0 : 0 < M.length := by rw [sh.h]; exact h0
  have lb : M.length < bigL := Nat.lt_of_le_of_lt (by rw [sh.h]; exact h1) (show 20 < bigL by decide)
  have wb : w < bigL := Nat.lt_of_le_of_lt w1 (by decide)
  obtain ⟨v, ev⟩ : ∃ v : Int, v = (w : Nat) := ⟨_, rfl⟩
  obtain ⟨d0, ed⟩ : ∃ d0 : Dt, d0 = dr (M.getD 0 []) := ⟨_, rfl⟩
  have g0 : ∀ (ρ : DEnv) (θ : Pot) (Q : Dt → Pot → Prop), Gv (opt (gIx (dm M) (.int 0)) ρ θ) Q = Q d0 θ := fun ρ θ Q => by rw [gv_ixX M (i := 0) (v := 0) rfl l0, ed]
  have gl : ∀ (ρ : DEnv) (θ : Pot) (Q : Dt → Pot → Prop), Gv (opt (gLen [d0]) ρ θ) Q = Q (.int v) θ := fun ρ θ Q => by rw [ed, gv_lenR, e0, ev]
  have bm : bnd62 v = true := bnd_of (by omega) (by omega)
  have tv : v.toNat = w := by omega
  simp! [g0, gl, bm]
  rw [tv]
  refine ⟨wb, ?_⟩
  refine cmapR (f := fun j => dr (M.map fun r => r.getD j 0)) w (fun j z hj ez => ?_) ?_
  · simp! [dm_t, List.length_map, lb]
    refine cmap (g := dr) (f := fun r => dq (r.getD j 0)) M (fun r hr => ?_) ?_
    · have lj : j < r.length := by rw [sh.w r hr]; exact hj
      simp! [gv_ixR r ez lj]
    · simp! [dr_t, mapC]
  · simp! [true_and]
    have e : dm (colsQ w M) = .tup ((List.range w).map fun j => dr (M.map fun r => r.getD j 0)) := by
      unfold dm colsQ
      rw [mapC]
    rw [e] at q
    exact q
theorem getD_mem {r : Rw} {j : Nat} (h : j < r.length) : r.getD j 0 ∈ r := by
  rw [List.getD_eq_getElem?_getD, List.getElem?_eq_getElem h]
  exact List.getElem_mem h
theorem cols_mok {b k w : Nat} {B : Mx} (s : Shp w k B) (h : mok b B) : mok b (colsQ k B) := by
  intro c hc q hq
  obtain ⟨j, hj, rfl⟩ := List.mem_map.mp hc
  obtain ⟨r, hr, rfl⟩ := List.mem_map.mp hq
  exact h r hr _ (getD_mem (by rw [s.w r hr]; exact List.mem_range.mp hj))
theorem cols_shp {k w : Nat} {B : Mx} (s : Shp w k B) : Shp k w (colsQ k B) := by
  refine ⟨by unfold colsQ; rw [List.length_map, List.length_range], fun c hc => ?_⟩
  obtain ⟨j, hj, rfl⟩ := List.mem_map.mp hc
  rw [List.length_map, s.h]
theorem prod_shp {h w k : Nat} {A C : Mx} (sA : Shp h w A) (sC : Shp k w C) : Shp h k (prodQ A C) := by
  refine ⟨by unfold prodQ; rw [List.length_map, sA.h], fun c hc => ?_⟩
  obtain ⟨r, hr, rfl⟩ := List.mem_map.mp hc
  rw [List.length_map, sC.h]
theorem product_of_ok {θ : Pot} {A B : Mx} {h w k a b : Nat} {Q : Ret → Pot → Prop} (sA : Shp h w A) (sB : Shp w k B) (w0 : 0 < w) (h1 : h ≤ 4) (w1 : w ≤ 4) (k1 : k ≤ 4) (ha : mok a A) (hb : mok b B) (l : 4 * (a + b + 1) + (a + b) < 8900) (q : Q (.d (dm (prodQ A (colsQ k B)))) θ) : Gv (m_product_of [.dat (dm A), .dat (dm B)] θ) Q := by
  unfold m_product_of r_product_of
  have lA : A.length < bigL := Nat.lt_of_le_of_lt (by rw [sA.h]; exact h1) (show 4 < bigL by decide)
  have lC : (colsQ k B).length < bigL := Nat.lt_of_le_of_lt (by unfold colsQ; rw [List.length_map, List.length_range]; exact k1) (show 4 < bigL by decide)
  have hC : mok b (colsQ k B) := cols_mok sB hb
  simp! [true_and]
  refine columns_ok sB w0 (by omega) (by omega) ?_
  simp! [dm_t A, List.length_map, lA]
  refine cmap (g := dr) (f := fun r => dr ((colsQ k B).map fun c => dotQ r c)) A (fun r hr => ?_) ?_
  · simp! [dm_t (colsQ k B), List.length_map, lC]
    refine cmap (g := dr) (f := fun c => dq (dotQ r c)) (colsQ k B) (fun c hc => ?_) ?_
    · simp! [true_and]
      refine dot_ok (ha r hr) (hC c hc) (by rw [sA.w r hr]; omega) l ?_
      simp! [true_and]
    · simp! [dr_t, mapC]
  · simp! [true_and]
    have e : dm (prodQ A (colsQ k B)) = .tup (A.map fun r => dr ((colsQ k B).map fun c => dotQ r c)) := by
      unfold dm prodQ
      rw [mapC]
    rw [e] at q
    exact q
theorem led_by_ok {θ : Pot} {A : Mx} {s : Rw} {h w a b : Nat} {Q : Ret → Pot → Prop} (sA : Shp h w A) (h1 : h ≤ 4) (w1 : w ≤ 4) (ha : mok a A) (hb : rok b s) (l : 4 * (a + b + 1) + (a + b) < 8900) (q : Q (.d (dr (A.map fun r => dotQ r s))) θ) : Gv (m_led_by [.dat (dm A), .dat (dr s)] θ) Q := by
  unfold m_led_by r_led_by
  have lA : A.length < bigL := Nat.lt_of_le_of_lt (by rw [sA.h]; exact h1) (show 4 < bigL by decide)
  simp! [dm_t A, List.length_map, lA]
  refine cmap (g := dr) (f := fun r => dq (dotQ r s)) A (fun r hr => ?_) ?_
  · simp! [true_and]
    refine dot_ok (ha r hr) hb (by rw [sA.w r hr]; omega) l ?_
    simp! [true_and]
  · simp! [true_and]
    rw [dr_t, mapC] at q
    exact q
theorem law_led_ok {θ : Pot} {A : Mx} {s : Rw} {h w a b : Nat} {Q : Ret → Pot → Prop} (sA : Shp h w A) (h1 : h ≤ 4) (w1 : w ≤ 4) (ha : mok a A) (hb : rok b s) (l : 4 * (a + b + 1) + (a + b) < 8900) (q : Q (.d (dr (A.map fun r => dotQ r s))) θ) : Gv (m__law_led [.dat (dm A), .dat (dr s)] θ) Q := by
  unfold m__law_led r__law_led
  have lA : A.length < bigL := Nat.lt_of_le_of_lt (by rw [sA.h]; exact h1) (show 4 < bigL by decide)
  simp! [dm_t A, List.length_map, lA]
  refine cmap (g := dr) (f := fun r => dq (dotQ r s)) A (fun r hr => ?_) ?_
  · simp! [true_and]
    refine law_dot_ok (ha r hr) hb (by rw [sA.w r hr]; omega) l ?_
    simp! [true_and]
  · simp! [true_and]
    rw [dr_t, mapC] at q
    exact q
end Tc


namespace Tc
open PySem PySem.Spec Pd
theorem all_tt {α : Type} (l : List α) : (l.all fun _ => true) = true := by
  rw [List.all_eq_true]
  exact fun _ _ => rfl
theorem is_row_ok {θ : Pot} {r : Rw} {Q : Ret → Pot → Prop} (h1 : 1 ≤ r.length) (h2 : r.length ≤ 8) (q : Q (.d (.bl true)) θ) : Gv (m_is_row [.dat (dr r)] θ) Q := by
  unfold m_is_row r_is_row
  have h1' : (1 : Int) ≤ (r.length : Int) := by omega
  have h2' : (r.length : Int) ≤ 8 := by omega
  have hb : r.length < bigL := Nat.lt_of_le_of_lt h2 (by decide)
  have gl : ∀ (ρ : DEnv) (θ : Pot) (Q : Dt → Pot → Prop), Gv (opt (gLen [.tup (r.map dq)]) ρ θ) Q = Q (.int r.length) θ := fun ρ θ Q => gv_lenR r
  simp! [dr_t, gl, h1', h2', List.length_map, hb]
  refine cmap (g := dq) (f := fun _ => .bl true) r (fun x hx => ?_) ?_
  · simp! [true_and]
    refine is_ratio_ok ?_
    simp! [true_and]
  · simp! [true_and]
    rw [gv_allM (fun _ => true), all_tt]
    simp! [true_and]
    exact q
theorem is_matrix_ok {θ : Pot} {M : Mx} {h w : Nat} {Q : Ret → Pot → Prop} (sh : Shp h w M) (h1 : 1 ≤ h) (h2 : h ≤ 8) (w1 : 1 ≤ w) (w2 : w ≤ 8) (q : Q (.d (.bl true)) θ) : Gv (m_is_matrix [.dat (dm M)] θ) Q := by
  unfold m_is_matrix r_is_matrix
  have eh := sh.h
  have h1' : (1 : Int) ≤ (M.length : Int) := by omega
  have h2' : (M.length : Int) ≤ 8 := by omega
  have hb : M.length < bigL := Nat.lt_of_le_of_lt (by omega) (show 8 < bigL by decide)
  have l0 : 0 < M.length := by omega
  have gl : ∀ (ρ : DEnv) (θ : Pot) (Q : Dt → Pot → Prop), Gv (opt (gLen [.tup (M.map dr)]) ρ θ) Q = Q (.int M.length) θ := fun ρ θ Q => gv_lenX M
  have g0 : ∀ (ρ : DEnv) (θ : Pot) (Q : Dt → Pot → Prop), Gv (opt (gIx (.tup (M.map dr)) (.int 0)) ρ θ) Q = Q (dr (M.getD 0 [])) θ := fun ρ θ Q => gv_ixX M (i := 0) (v := 0) rfl l0
  simp! [dm_t, gl, h1', h2', List.length_map, hb]
  refine cmap (g := dr) (f := fun _ => .bl true) M (fun r hr => ?_) ?_
  · simp! [true_and]
    refine is_row_ok (by rw [sh.w r hr]; exact w1) (by rw [sh.w r hr]; exact w2) ?_
    simp! [true_and]
  · simp! [true_and]
    rw [gv_allM (fun _ => true), all_tt]
    simp! [List.length_map, hb]
    refine cmap (g := dr) (f := fun _ => .bl true) M (fun r hr => ?_) ?_
    · have e1 := sh.w r hr
      have e2 := sh.first (by omega)
      simp! [gv_lenR, g0, e1, e2]
    · simp! [true_and]
      rw [gv_allM (fun _ => true), all_tt]
      simp! [true_and]
      exact q
end Tc


namespace Tc
open PySem PySem.Spec Pd
end Tc


namespace Tc
open PySem PySem.Spec Pd
def unitQ (n : Nat) : Mx := (List.range n).map fun i => (List.range n).map fun j => if j = i then 1 else 0
theorem done1 : (Dt.tup [.int 1, .int 1]) = dq 1 := rfl
theorem unit_of_ok {θ : Pot} {n : Nat} {v : Int} {Q : Ret → Pot → Prop} (ev : v = (n : Nat)) (hn : n ≤ 20) (q : Q (.d (dm (unitQ n))) θ) : Gv (m_unit_of [.dat (.int v)] θ) Q := by
  unfold m_unit_of r_unit_of
  have bm : bnd62 v = true := bnd_of (by omega) (by omega)
  have tv : v.toNat = n := by omega
  have nb : n < bigL := Nat.lt_of_le_of_lt hn (by decide)
  simp! [bm]
  rw [tv]
  refine ⟨nb, ?_⟩
  refine cmapR (f := fun i => dr ((List.range n).map fun j => if j = i then 1 else 0)) n (fun i z hi ez => ?_) ?_
  · simp! [bm, tv, nb]
    refine cmapR (f := fun j => dq (if j = i then 1 else 0)) n (fun j y hj ey => ?_) ?_
    · by_cases e : j = i
      · have e2 : y = z := by omega
        simp! [e2, e, if_true]
        rfl
      · have e2 : ¬ y = z := by omega
        simp! [e2, e, if_false]
        rfl
    · simp! [dr_t, mapC]
  · simp! [true_and]
    have e : dm (unitQ n) = .tup ((List.range n).map fun i => dr ((List.range n).map fun j => if j = i then 1 else 0)) := by
      unfold dm unitQ
      rw [mapC]
    rw [e] at q
    exact q
theorem law_unit_ok {θ : Pot} {n : Nat} {v : Int} {Q : Ret → Pot → Prop} (ev : v = (n : Nat)) (hn : n ≤ 20) (q : Q (.d (dm (unitQ n))) θ) : Gv (m__law_unit [.dat (.int v)] θ) Q := by
  unfold m__law_unit r__law_unit
  have bm : bnd62 v = true := bnd_of (by omega) (by omega)
  have tv : v.toNat = n := by omega
  have nb : n < bigL := Nat.lt_of_le_of_lt hn (by decide)
  have gi : ∀ (b : Bool) (ρ : DEnv) (θ : Pot) (Q : Dt → Pot → Prop), Gv (opt (gInt [.bl b]) ρ θ) Q = Q (.int (if b = true then 1 else 0)) θ := fun b ρ θ Q => by cases b <;> rfl
  simp! [bm]
  rw [tv]
  refine ⟨nb, ?_⟩
  refine cmapR (f := fun i => dr ((List.range n).map fun j => if j = i then 1 else 0)) n (fun i z hi ez => ?_) ?_
  · simp! [bm, tv, nb]
    refine cmapR (f := fun j => dq (if j = i then 1 else 0)) n (fun j y hj ey => ?_) ?_
    · by_cases e : j = i
      · have e2 : y = z := by omega
        simp! [gi, e2, e, if_true]
        rfl
      · have e2 : ¬ y = z := by omega
        simp! [gi, e2, e, if_false, Bool.false_eq_true]
        rfl
    · simp! [dr_t, mapC]
  · simp! [true_and]
    have e : dm (unitQ n) = .tup ((List.range n).map fun i => dr ((List.range n).map fun j => if j = i then 1 else 0)) := by
      unfold dm unitQ
      rw [mapC]
    rw [e] at q
    exact q
end Tc


namespace Tc
open PySem PySem.Spec Pd
def timesR (r : Rw) (q : Rat) : Rw := r.map fun x => x * q
def lessR (r s : Rw) (q : Rat) : Rw := (r.zip s).map fun p => p.1 - p.2 * q
theorem row_times_ok {θ : Pot} {r : Rw} {x : Rat} {a b : Nat} {Q : Ret → Pot → Prop} (hr : rok a r) (hx : bz b x) (hl : r.length ≤ 20) (l : a + b < 8900) (q : Q (.d (dr (timesR r x))) θ) : Gv (m_row_times [.dat (dr r), .dat (dq x)] θ) Q := by
  unfold m_row_times r_row_times
  have lb : r.length < bigL := Nat.lt_of_le_of_lt hl (by decide)
  simp! [dr_t, List.length_map, lb]
  refine cmap (g := dq) (f := fun y => dq (y * x)) r (fun y hy => ?_) ?_
  · simp! [true_and]
    refine mul_ok (hr y hy) hx (by omega) ?_
    simp! [true_and]
  · simp! [true_and]
    rw [dr_t, timesR, mapC] at q
    exact q
theorem row_less_ok {θ : Pot} {r s : Rw} {x : Rat} {a b c : Nat} {Q : Ret → Pot → Prop} (hr : rok a r) (hs : rok b s) (hx : bz c x) (hl : r.length ≤ 20) (l : a + b + c < 8900) (q : Q (.d (dr (lessR r s x))) θ) : Gv (m_row_less [.dat (dr r), .dat (dr s), .dat (dq x)] θ) Q := by
  unfold m_row_less r_row_less
  have lz : (r.zip s).length < bigL := Nat.lt_of_le_of_lt (by rw [List.length_zip]; omega) (show 20 < bigL by decide)
  simp! [dr_t, pairs_map, List.length_map, lz]
  refine cmap (g := fun p : Rat × Rat => .tup [dq p.1, dq p.2]) (f := fun p => dq (p.1 - p.2 * x)) (r.zip s) (fun p hp => ?_) ?_
  · have h1 := hr _ (List.of_mem_zip hp).1
    have h2 := hs _ (List.of_mem_zip hp).2
    simp! [true_and]
    refine mul_ok h2 hx (by omega) ?_
    simp! [true_and]
    refine sub_ok h1 (h2.mul hx) (by omega) ?_
    simp! [true_and]
  · simp! [true_and]
    rw [dr_t, lessR, mapC] at q
    exact q
end Tc


namespace Tc
open PySem PySem.Spec Pd
def exch (M : Mx) (i j : Nat) : Mx := (M.set i (M.getD j [])).set j (M.getD i [])
theorem gIx_lmap {α : Type} (f : α → Dt) (l : List α) (a0 : α) {i : Nat} {v : Int} (e : v = (i : Nat)) (h : i < l.length) : gIx (.lst (l.map f)) (.int v) = some (f (l.getD i a0)) := by
  subst e
  have : (l.map f)[i]? = some (f (l.getD i a0)) := by
    rw [List.getElem?_map, List.getD_eq_getElem?_getD, List.getElem?_eq_getElem h]
    rfl
  exact L2.atI_nat this
theorem ixN_nat (n k : Nat) (h : k < n) : L2.ixN n (k : Nat) = some k := by
  unfold L2.ixN
  simp [h]
theorem exchanged_ok {θ : Pot} {M : Mx} {i j : Nat} {v z : Int} {Q : Ret → Pot → Prop} (ev : v = (i : Nat)) (ez : z = (j : Nat)) (hi : i < M.length) (hj : j < M.length) (q : Q (.o ((exch M i j).map dr)) θ) : Gv (m_exchanged [.dat (.lst (M.map dr)), .dat (.int v), .dat (.int z)] θ) Q := by
  unfold m_exchanged r_exchanged
  have g1 : ∀ (ρ : DEnv) (θ : Pot) (Q : Dt → Pot → Prop), Gv (opt (gIx (.lst (M.map dr)) (.int v)) ρ θ) Q = Q (dr (M.getD i [])) θ := fun ρ θ Q => by rw [gIx_lmap dr M [] ev hi, gv_opt]
  have g2 : ∀ (ρ : DEnv) (θ : Pot) (Q : Dt → Pot → Prop), Gv (opt (gIx (.lst (M.map dr)) (.int z)) ρ θ) Q = Q (dr (M.getD j [])) θ := fun ρ θ Q => by rw [gIx_lmap dr M [] ez hj, gv_opt]
  have k1 : ∀ (l : List Dt), l.length = M.length → L2.ixN l.length v = some i := fun l e => by rw [e, ev]; exact ixN_nat _ _ hi
  have k2 : ∀ (l : List Dt), l.length = M.length → L2.ixN l.length z = some j := fun l e => by rw [e, ez]; exact ixN_nat _ _ hj
  simp! [g1, g2]
  rw [stK_a 3 _ _ v i (k1 _ (by simp))]
  simp! [true_and]
  rw [stK_a 3 _ _ z j (k2 _ (by simp))]
  simp! [true_and]
  have e : ((M.map dr).set i (dr (M.getD j []))).set j (dr (M.getD i [])) = (exch M i j).map dr := by
    unfold exch
    rw [List.map_set, List.map_set]
  rw [e]
  exact q
end Tc


namespace Tc
open PySem PySem.Spec Pd
theorem for_rangeR {T : Tgt} {body : M Out} {Q : Out → Pot → Prop} (g : Nat → Dt) (n : Nat) (I : Nat → DEnv → Pot → Prop) (h0 : ∀ ρ θ, I n ρ θ → Q (.next ρ) θ)
    (h1 : ∀ i ρ θ, i < n → I i ρ θ → ∃ ρ1, bindT T (g i) ρ = some ρ1 ∧ Gv (body ρ1 θ) fun o θ2 => (∃ ρ2, o = .next ρ2 ∧ I (i + 1) ρ2 θ2) ∨ (∃ r, o = .ret r ∧ Q (.ret r) θ2)) (ρ : DEnv) (θ : Pot) (h : I 0 ρ θ) : Gv (forGo T body ((List.range n).map g) ρ θ) Q := by
  refine gv_for_inv (fun l ρ θ => ∃ i, i ≤ n ∧ l = (List.range' i (n - i)).map g ∧ I i ρ θ) ?_ ?_ _ _ _ ⟨0, Nat.zero_le _, by rw [List.range_eq_range', Nat.sub_zero], h⟩
  · rintro ρ θ ⟨i, l, e, hi⟩
    have : i = n := by
      have := congrArg List.length e
      simp at this
      omega
    subst this
    exact h0 _ _ hi
  · rintro d ds ρ θ ⟨i, l, e, hi⟩
    have lt : i < n := by
      rcases Nat.lt_or_ge i n with z | z
      · exact z
      · rw [show n - i = 0 by omega] at e
        cases e
    obtain ⟨m, em⟩ : ∃ m, n - i = m + 1 := ⟨n - i - 1, by omega⟩
    rw [em, List.range'_succ, List.map_cons] at e
    obtain ⟨rfl, rfl⟩ := List.cons.inj e
    obtain ⟨ρ1, e1, q⟩ := h1 i ρ θ lt hi
    refine ⟨ρ1, e1, q.imp ?_⟩
    rintro _ θ2 (⟨ρ2, rfl, q2⟩ | ⟨r, rfl, q2⟩)
    · exact ⟨i + 1, lt, by rw [show n - (i + 1) = m by omega], q2⟩
    · exact q2
theorem rngLe (i : Int) (n : Nat) : rngL i n = (List.range n).map fun k : Nat => Dt.int (i + k) := rfl
def ent (M : Mx) (i p : Nat) : Rat := (M.getD i []).getD p 0
/-- the first row from b on that is not 0 at p -/
def firstNZ (M : Mx) (p : Nat) : Nat → Nat → Option Nat
  | _, 0 => none
  | b, n + 1 => if ent M b p ≠ 0 then some b else firstNZ M p (b + 1) n
def optD : Option Nat → Dt
  | none => .non
  | some i => .int (i : Nat)
theorem firstNZ_skip (M : Mx) (p : Nat) : ∀ (i b n : Nat), i ≤ n → (∀ k, k < i → ent M (b + k) p = 0) → firstNZ M p b n = firstNZ M p (b + i) (n - i)
  | 0, b, n, _, _ => rfl
  | i + 1, b, n, h, hz => by
    obtain ⟨m, rfl⟩ : ∃ m, n = m + 1 := ⟨n - 1, by omega⟩
    have z0 : ent M b p = 0 := hz 0 (Nat.succ_pos _)
    have e1 : firstNZ M p b (m + 1) = firstNZ M p (b + 1) m := by
      show (if ent M b p ≠ 0 then some b else firstNZ M p (b + 1) m) = _
      rw [if_neg (fun w => w z0)]
    rw [e1, firstNZ_skip M p i (b + 1) m (by omega) fun k hk => by
      have := hz (k + 1) (by omega)
      rwa [show b + (k + 1) = b + 1 + k by omega] at this]
    rw [show b + 1 + i = b + (i + 1) by omega, show m + 1 - (i + 1) = m - i by omega]
theorem row_with_ok {θ : Pot} {M : Mx} {h w p b : Nat} {v z : Int} {Q : Ret → Pot → Prop} (sh : Shp h w M) (ev : v = (p : Nat)) (ez : z = (b : Nat)) (hp : p < w) (hb : b ≤ h) (hh : h ≤ 20) (q : Q (.d (optD (firstNZ M p b (h - b)))) θ) : Gv (m_row_with [.dat (.lst (M.map dr)), .dat (.int v), .dat (.int z)] θ) Q := by
  unfold m_row_with r_row_with
  obtain ⟨u, eu⟩ : ∃ u : Int, u = (h : Nat) := ⟨_, rfl⟩
  have gl : ∀ (ρ : DEnv) (θ : Pot) (Q : Dt → Pot → Prop), Gv (opt (gLen [.lst (M.map dr)]) ρ θ) Q = Q (.int u) θ := fun ρ θ Q => by
    rw [eu, ← sh.h]
    show Q (.int ((M.map dr).length : Nat)) θ = _
    rw [List.length_map]
  have b1 : bnd62 z = true := bnd_of (by omega) (by omega)
  have b2 : bnd62 u = true := bnd_of (by omega) (by omega)
  have tv : (u - z).toNat = h - b := by omega
  simp! [gl, b1, b2]
  rw [tv, rngLe]
  refine for_rangeR (fun k : Nat => Dt.int (z + k)) (h - b) (fun i ρ θ' => ∃ x, ρ = [some (.dat (.lst (M.map dr))), some (.dat (.int v)), some (.dat (.int z)), x] ∧ θ' = θ ∧ ∀ k, k < i → ent M (b + k) p = 0) ?_ ?_ _ _ ⟨_, rfl, rfl, fun k hk => absurd hk (Nat.not_lt_zero _)⟩
  · rintro ρ θ1 ⟨x, rfl, rfl, hz⟩
    simp! [true_and]
    have e := firstNZ_skip M p (h - b) b (h - b) (Nat.le_refl _) hz
    rw [Nat.sub_self] at e
    rw [e] at q
    exact q
  · rintro i ρ θ1 hi ⟨x, rfl, rfl, hz⟩
    obtain ⟨y, ey⟩ : ∃ y, y = z + (i : Nat) := ⟨_, rfl⟩
    have lb : b + i < M.length := by rw [sh.h]; omega
    have lp : p < (M.getD (b + i) []).length := by
      rw [List.getD_eq_getElem?_getD, List.getElem?_eq_getElem lb]
      show p < (M[b + i]).length
      rw [sh.w _ (List.getElem_mem lb)]
      exact hp
    have g1 : ∀ (ρ : DEnv) (θ : Pot) (Q : Dt → Pot → Prop), Gv (opt (gIx (.lst (M.map dr)) (.int y)) ρ θ) Q = Q (dr (M.getD (b + i) [])) θ := fun ρ θ Q => by rw [gIx_lmap dr M [] (by omega) lb, gv_opt]
    have g2 : ∀ (ρ : DEnv) (θ : Pot) (Q : Dt → Pot → Prop), Gv (opt (gIx (dr (M.getD (b + i) [])) (.int v)) ρ θ) Q = Q (dq (ent M (b + i) p)) θ := fun ρ θ Q => gv_ixR _ ev lp
    refine ⟨_, bindT_n 3 _, ?_⟩
    simp only [← ey]
    by_cases c : ent M (b + i) p = 0
    · have c0 : (ent M (b + i) p).num = 0 := by rw [c]; rfl
      simp! [g1, g2, gv_q0, c0]
      refine Or.inl ⟨_, rfl, _, rfl, fun k hk => ?_⟩
      rcases Nat.lt_or_ge k i with w | w
      · exact hz k w
      · rw [show k = i by omega]
        exact c
    · have c0 : ¬ (ent M (b + i) p).num = 0 := fun w => c (num_zero w)
      simp! [g1, g2, gv_q0, c0]
      refine Or.inr ⟨_, rfl, ?_⟩
      have e := firstNZ_skip M p i b (h - b) (by omega) hz
      obtain ⟨m, em⟩ : ∃ m, h - b - i = m + 1 := ⟨h - b - i - 1, by omega⟩
      rw [em] at e
      have e2 : firstNZ M p (b + i) (m + 1) = some (b + i) := by
        show (if ent M (b + i) p ≠ 0 then some (b + i) else _) = _
        rw [if_pos c]
      rw [e, e2] at q
      have ey2 : y = ((b + i : Nat) : Int) := by omega
      rw [ey2]
      exact q
end Tc


namespace Tc
open PySem PySem.Spec Pd
/-- one row made 0 at p -/
def stepR (line : Rw) (p k : Nat) (M : Mx) : Mx := if ent M k p ≠ 0 then M.set k (lessR (M.getD k []) line (ent M k p)) else M
def elimR (line : Rw) (p : Nat) : Nat → Nat → Mx → Mx
  | _, 0, M => M
  | k, n + 1, M => elimR line p (k + 1) n (stepR line p k M)
theorem lessR_len (r s : Rw) (q : Rat) : (lessR r s q).length = min r.length s.length := by
  unfold lessR
  rw [List.length_map, List.length_zip]
theorem stepR_shp {line : Rw} {p k h w : Nat} {M : Mx} (sh : Shp h w M) (ll : line.length = w) (hk : k < h) : Shp h w (stepR line p k M) := by
  unfold stepR
  split
  · refine ⟨by rw [List.length_set]; exact sh.h, fun r hr => ?_⟩
    rcases List.mem_or_eq_of_mem_set hr with z | z
    · exact sh.w r z
    · rw [z, lessR_len, ll]
      have lb : k < M.length := by rw [sh.h]; exact hk
      have : (M.getD k []).length = w := by
        rw [List.getD_eq_getElem?_getD, List.getElem?_eq_getElem lb]
        exact sh.w _ (List.getElem_mem lb)
      rw [this, Nat.min_self]
  · exact sh
theorem getD_row {h w k : Nat} {M : Mx} (sh : Shp h w M) (hk : k < h) : M.getD k [] ∈ M ∧ (M.getD k []).length = w := by
  have lb : k < M.length := by rw [sh.h]; exact hk
  rw [List.getD_eq_getElem?_getD, List.getElem?_eq_getElem lb]
  exact ⟨List.getElem_mem lb, sh.w _ (List.getElem_mem lb)⟩
end Tc


namespace Tc
open PySem PySem.Spec Pd
def detBody : M Out :=
 (Pd.mSeq (Pd.mSet 4 (Pd.mLend (Pd.mCallD m_row_with [] [0, 1, 2] (Pd.mECons (Pd.mVar 1) (Pd.mECons (Pd.mVar 3) (Pd.mECons (Pd.mVar 3) Pd.mENil))) Pd.mENil)))
 (Pd.mSeq (Pd.mIf (Pd.mBool (Pd.mOp Pd.gIs2 (Pd.mVar 4) (Pd.ret .non)))
  (Pd.mRet (Pd.ret (.tup [.int (0), .int (1)])))
  Pd.mNext)
 (Pd.mSeq (Pd.mIf (Pd.mBool (Pd.mOp Pd.gNe (Pd.mVar 4) (Pd.mVar 3)))
  (Pd.mFrz 1 (Pd.mParOD 1 2 (Pd.mCallO m_exchanged [] [0, 1, 2] (Pd.mECons (Pd.mVar 1) (Pd.mECons (Pd.mVar 4) (Pd.mECons (Pd.mVar 3) Pd.mENil))) Pd.mENil) (Pd.mCallD m_neg_ratio [] [0] (Pd.mECons (Pd.mVar 2) Pd.mENil) Pd.mENil)))
  Pd.mNext)
 (Pd.mSeq (Pd.mSet 5 (Pd.mOp Pd.gIx (Pd.mIxO 1 (Pd.mVar 3)) (Pd.mVar 3)))
 (Pd.mSeq (Pd.mSet 2 (Pd.mCallD m_mul_ratios [] [0, 1] (Pd.mECons (Pd.mVar 2) (Pd.mECons (Pd.mVar 5) Pd.mENil)) Pd.mENil))
 (Pd.mSeq (Pd.mSet 6 (Pd.mCallD m_row_times [] [0, 1] (Pd.mECons (Pd.mIxO 1 (Pd.mVar 3)) (Pd.mECons (Pd.mCallD m_inverse_ratio [] [0] (Pd.mECons (Pd.mVar 5) Pd.mENil) Pd.mENil) Pd.mENil)) Pd.mENil))
 (Pd.mFor (.n 7) (Pd.mRng Pd.rng2 (Pd.mCons (Pd.mOp Pd.gAdd2 (Pd.mVar 3) (Pd.ret (.int 1))) (Pd.mCons (Pd.mB Pd.gLen (Pd.mBor 1)) Pd.mNil)))
  (Pd.mIf (Pd.mBool (Pd.mOp Pd.gNe (Pd.mOp Pd.gIx (Pd.mOp Pd.gIx (Pd.mIxO 1 (Pd.mVar 7)) (Pd.mVar 3)) (Pd.ret (.int 0))) (Pd.ret (.int 0))))
  (Pd.mSetI 1 (Pd.mVar 7) (Pd.mCallD m_row_less [] [0, 1, 2] (Pd.mECons (Pd.mIxO 1 (Pd.mVar 7)) (Pd.mECons (Pd.mVar 6) (Pd.mECons (Pd.mOp Pd.gIx (Pd.mIxO 1 (Pd.mVar 7)) (Pd.mVar 3)) Pd.mENil))) Pd.mENil))
  Pd.mNext))))))))
/-- the rows with the one found at its place -/
def swapM (M : Mx) (i p : Nat) : Mx := if i = p then M else exch M i p
def swapF (f : Rat) (i p : Nat) : Rat := if i = p then f else -f
def detE (n : Nat) : Nat → Nat → Mx → Rat → Rat
  | 0, _, _, f => f
  | k + 1, p, M, f => match firstNZ M p p (n - p) with
    | none => 0
    | some i => detE n k (p + 1) (elimR (timesR ((swapM M i p).getD p []) (1 / ent (swapM M i p) p p)) p (p + 1) (n - (p + 1)) (swapM M i p)) (swapF f i p * ent (swapM M i p) p p)
theorem firstNZ_some {M : Mx} {p : Nat} : ∀ {b n i : Nat}, firstNZ M p b n = some i → b ≤ i ∧ i < b + n ∧ ent M i p ≠ 0
  | b, 0, i, h => by cases h
  | b, n + 1, i, h => by
    by_cases c : ent M b p ≠ 0
    · have e : firstNZ M p b (n + 1) = some b := if_pos c
      rw [e] at h
      cases h
      exact ⟨Nat.le_refl _, by omega, c⟩
    · have e : firstNZ M p b (n + 1) = firstNZ M p (b + 1) n := if_neg c
      rw [e] at h
      obtain ⟨h1, h2, h3⟩ := firstNZ_some h
      exact ⟨by omega, by omega, h3⟩
theorem exch_shp {h w i j : Nat} {M : Mx} (sh : Shp h w M) (hi : i < h) (hj : j < h) : Shp h w (exch M i j) := by
  obtain ⟨_, l1⟩ := getD_row sh hi
  obtain ⟨_, l2⟩ := getD_row sh hj
  refine ⟨by unfold exch; rw [List.length_set, List.length_set]; exact sh.h, fun r hr => ?_⟩
  rcases List.mem_or_eq_of_mem_set hr with z | z
  · rcases List.mem_or_eq_of_mem_set z with z | z
    · exact sh.w r z
    · rw [z]; exact l2
  · rw [z]; exact l1
theorem exch_mok {c h w i j : Nat} {M : Mx} (sh : Shp h w M) (hi : i < h) (hj : j < h) (m : mok c M) : mok c (exch M i j) := by
  obtain ⟨l1, _⟩ := getD_row sh hi
  obtain ⟨l2, _⟩ := getD_row sh hj
  intro r hr
  rcases List.mem_or_eq_of_mem_set hr with z | z
  · rcases List.mem_or_eq_of_mem_set z with z | z
    · exact m r z
    · rw [z]; exact m _ l2
  · rw [z]; exact m _ l1
end Tc


namespace Tc
open PySem PySem.Spec Pd
end Tc


namespace Tc
open PySem PySem.Spec Pd
/-! ### numbers by place: sums, determinants, inverses -/
def sm (n : Nat) (f : Nat → Rat) : Rat := match n with | 0 => 0 | n + 1 => sm n f + f n
abbrev En := Nat → Nat → Rat
def swI (i0 p i : Nat) : Nat := if i = p then i0 else if i = i0 then p else i
/-- a step of the whole elimination -/
def stepE (e : En) (p i0 : Nat) : En := fun i j => if i = p then e i0 j * (1 / e i0 p) else e (swI i0 p i) j - e i0 j * (1 / e i0 p) * e (swI i0 p i) p
def dlt (i j : Nat) : Rat := if j = i then 1 else 0
def detN : Nat → En → Rat
  | 1, e => e 0 0
  | 2, e => e 0 0 * e 1 1 - e 0 1 * e 1 0
  | 3, e => e 0 0 * (e 1 1 * e 2 2 - e 1 2 * e 2 1) - e 0 1 * (e 1 0 * e 2 2 - e 1 2 * e 2 0) + e 0 2 * (e 1 0 * e 2 1 - e 1 1 * e 2 0)
  | _, _ => 0
theorem sm_congr {f g : Nat → Rat} : ∀ (n : Nat), (∀ k, k < n → f k = g k) → sm n f = sm n g
  | 0, _ => rfl
  | n + 1, h => by
    show sm n f + f n = sm n g + g n
    rw [sm_congr n fun k hk => h k (by omega), h n (by omega)]
theorem sm_mul (c : Rat) (f : Nat → Rat) : ∀ n, sm n (fun k => f k * c) = sm n f * c
  | 0 => by show (0 : Rat) = 0 * c; grind
  | n + 1 => by
    show sm n (fun k => f k * c) + f n * c = (sm n f + f n) * c
    rw [sm_mul c f n]
    grind
theorem sm_sub (f g : Nat → Rat) : ∀ n, sm n (fun k => f k - g k) = sm n f - sm n g
  | 0 => by show (0 : Rat) = 0 - 0; grind
  | n + 1 => by
    show sm n (fun k => f k - g k) + (f n - g n) = sm n f + f n - (sm n g + g n)
    rw [sm_sub f g n]
    grind
/-- rows led: the left part is the right part times m -/
def LedBy (n : Nat) (m e : En) : Prop := ∀ i, i < n → ∀ j, j < n → e i j = sm n fun k => e i (n + k) * m k j
def UnitE (n p : Nat) (e : En) : Prop := ∀ i, i < n → ∀ j, j < p → e i j = dlt i j
theorem swI_lt {n i0 p i : Nat} (h0 : i0 < n) (hp : p < n) (hi : i < n) : swI i0 p i < n := by
  unfold swI
  split
  · exact h0
  · split
    · exact hp
    · exact hi
theorem stepE_led {n i0 p : Nat} {m e : En} (h : LedBy n m e) (h0 : i0 < n) (hp : p < n) : LedBy n m (stepE e p i0) := by
  intro i hi j hj
  unfold stepE
  by_cases c : i = p
  · simp only [if_pos c]
    rw [h i0 h0 j hj, ← sm_mul]
    exact sm_congr n fun k _ => by grind
  · simp only [if_neg c]
    have l := swI_lt h0 hp hi
    generalize swI i0 p i = q at *
    rw [h i0 h0 j hj, h q l j hj, Rat.mul_assoc, ← sm_mul, ← sm_sub]
    exact sm_congr n fun k _ => by grind
theorem stepE_unit {n i0 p : Nat} {e : En} (h : UnitE n p e) (h0 : i0 < n) (hp0 : p ≤ i0) (hp : p < n) (nz : e i0 p ≠ 0) : UnitE n (p + 1) (stepE e p i0) := by
  intro i hi j hj
  unfold stepE
  have l := swI_lt h0 hp hi
  by_cases cj : j = p
  · subst cj
    by_cases c : i = j
    · subst c
      rw [if_pos rfl]
      unfold dlt
      rw [if_pos rfl]
      grind
    · rw [if_neg c]
      unfold dlt
      rw [if_neg (fun z => c z.symm)]
      grind
  · have hj' : j < p := by omega
    have e0 : e i0 j = 0 := by
      rw [h i0 h0 j hj']
      unfold dlt
      rw [if_neg (by omega)]
    by_cases c : i = p
    · rw [if_pos c, e0]
      unfold dlt
      rw [if_neg (by omega)]
      grind
    · rw [if_neg c, e0, h _ l j hj']
      have : dlt (swI i0 p i) j = dlt i j := by
        unfold dlt swI
        rw [if_neg c]
        split
        · have a1 : ¬ j = p := by omega
          have a2 : ¬ j = i := by omega
          simp only [a1, a2, if_false]
        · rfl
      rw [this]
      grind
/-- how the determinant goes with a step -/
theorem stepE_det {n i0 p : Nat} {e : En} (h1 : 1 ≤ n) (h3 : n ≤ 3) (h0 : i0 < n) (hp0 : p ≤ i0) (nz : e i0 p ≠ 0) : detN n e = (if i0 = p then 1 else -1) * e i0 p * detN n (stepE e p i0) := by
  obtain ⟨u, hu⟩ : ∃ u, u = 1 / e i0 p := ⟨_, rfl⟩
  have hu2 : e i0 p * u = 1 := by rw [hu]; grind
  have hn : n = 1 ∨ n = 2 ∨ n = 3 := by omega
  have hi : i0 = 0 ∨ i0 = 1 ∨ i0 = 2 := by omega
  have hq : p = 0 ∨ p = 1 ∨ p = 2 := by omega
  rcases hn with rfl | rfl | rfl <;> rcases hi with rfl | rfl | rfl <;> rcases hq with rfl | rfl | rfl <;> first
    | omega
    | (simp only [detN, stepE, swI, ← hu, Nat.reduceEqDiff, if_true, if_false, reduceIte, Nat.succ_ne_zero, Nat.zero_ne_one]; grind)
theorem det_fail {n p : Nat} {e : En} (h1 : 1 ≤ n) (h3 : n ≤ 3) (hp : p < n) (h : UnitE n p e) (z : ∀ i, p ≤ i → i < n → e i p = 0) : detN n e = 0 := by
  have hn : n = 1 ∨ n = 2 ∨ n = 3 := by omega
  have hq : p = 0 ∨ p = 1 ∨ p = 2 := by omega
  rcases hn with rfl | rfl | rfl <;> rcases hq with rfl | rfl | rfl <;> first
    | omega
    | skip
  · have := z 0; simp [detN] at *; grind
  · have := z 0; have := z 1; simp [detN] at *; grind
  · have := z 1; have := h 0 (by omega) 0 (by omega); have := h 1 (by omega) 0 (by omega); simp [detN, dlt] at *; grind
  · have := z 0; have := z 1; have := z 2; simp [detN] at *; grind
  · have := z 1; have := z 2; have := h 0 (by omega) 0 (by omega); have := h 1 (by omega) 0 (by omega);  have := h 2 (by omega) 0 (by omega); simp [detN, dlt] at *; grind
  · have := z 2; have := h 0 (by omega) 0 (by omega); have := h 1 (by omega) 0 (by omega);  have := h 2 (by omega) 0 (by omega); have := h 0 (by omega) 1 (by omega); have := h 1 (by omega) 1 (by omega);  have := h 2 (by omega) 1 (by omega); simp [detN, dlt] at *; grind
theorem det_unit {n : Nat} {e : En} (h1 : 1 ≤ n) (h3 : n ≤ 3) (h : UnitE n n e) : detN n e = 1 := by
  have hn : n = 1 ∨ n = 2 ∨ n = 3 := by omega
  rcases hn with rfl | rfl | rfl
  · have := h 0 (by omega) 0 (by omega); simp [detN, dlt] at *; grind
  · have := h 0 (by omega) 0 (by omega); have := h 1 (by omega) 0 (by omega); have := h 0 (by omega) 1 (by omega); have := h 1 (by omega) 1 (by omega); simp [detN, dlt] at *; grind
  · have := h 0 (by omega) 0 (by omega); have := h 1 (by omega) 0 (by omega); have := h 0 (by omega) 1 (by omega); have := h 1 (by omega) 1 (by omega); have := h 2 (by omega) 0 (by omega);have := h 2 (by omega) 1 (by omega);have := h 2 (by omega) 2 (by omega);have := h 0 (by omega) 2 (by omega);have := h 1 (by omega) 2 (by omega); simp [detN, dlt] at *; grind
/-- the same for the determinant's own elimination: rows below p alone, the row itself kept -/
def stepD (e : En) (p i0 : Nat) : En := fun i j => if i ≤ p then e (swI i0 p i) j else e (swI i0 p i) j - e i0 j * (1 / e i0 p) * e (swI i0 p i) p
/-- the block from p on -/
def blk (p : Nat) (e : En) : En := fun i j => e (p + i) (p + j)
/-- an index but one -/
def skp (h i : Nat) : Nat := if i < h then i else i + 1
/-- the inverse by minors -/
def minN : Nat → En → Nat → Nat → Rat
  | 1, _, _, _ => 1
  | n + 1, e, h, a => detN n fun i j => e (skp h i) (skp a j)
  | 0, _, _, _ => 0
def sgN (i j : Nat) : Rat := if (i + j) % 2 = 0 then 1 else -1
def invN (n : Nat) (e : En) : En := fun i j => sgN i j * minN n e j i / detN n e
theorem inv_right {n : Nat} {e : En} (h1 : 1 ≤ n) (h3 : n ≤ 3) (nz : detN n e ≠ 0) : ∀ i, i < n → ∀ j, j < n → (sm n fun k => e i k * invN n e k j) = dlt i j := by
  obtain ⟨u, hu⟩ : ∃ u, u = 1 / detN n e := ⟨_, rfl⟩
  have hu2 : detN n e * u = 1 := by rw [hu]; grind
  have hd : ∀ x, x / detN n e = x * u := fun x => by rw [hu]; grind
  have hn : n = 1 ∨ n = 2 ∨ n = 3 := by omega
  intro i hi j hj
  have hi2 : i = 0 ∨ i = 1 ∨ i = 2 := by omega
  have hq : j = 0 ∨ j = 1 ∨ j = 2 := by omega
  clear nz
  rcases hn with rfl | rfl | rfl <;> rcases hi2 with rfl | rfl | rfl <;> rcases hq with rfl | rfl | rfl <;> first
    | omega
    | (simp only [invN, hd]; simp [minN, sgN, skp, sm, dlt, detN] at *; grind)
theorem inv_left {n : Nat} {e : En} (h1 : 1 ≤ n) (h3 : n ≤ 3) (nz : detN n e ≠ 0) : ∀ i, i < n → ∀ j, j < n → (sm n fun k => invN n e i k * e k j) = dlt i j := by
  obtain ⟨u, hu⟩ : ∃ u, u = 1 / detN n e := ⟨_, rfl⟩
  have hu2 : detN n e * u = 1 := by rw [hu]; grind
  have hd : ∀ x, x / detN n e = x * u := fun x => by rw [hu]; grind
  have hn : n = 1 ∨ n = 2 ∨ n = 3 := by omega
  intro i hi j hj
  have hi2 : i = 0 ∨ i = 1 ∨ i = 2 := by omega
  have hq : j = 0 ∨ j = 1 ∨ j = 2 := by omega
  clear nz
  rcases hn with rfl | rfl | rfl <;> rcases hi2 with rfl | rfl | rfl <;> rcases hq with rfl | rfl | rfl <;> first
    | omega
    | (simp only [invN, hd]; simp [minN, sgN, skp, sm, dlt, detN] at *; grind)
theorem sm_add (f g : Nat → Rat) : ∀ n, sm n (fun k => f k + g k) = sm n f + sm n g
  | 0 => by show (0 : Rat) = 0 + 0; grind
  | n + 1 => by
    show sm n (fun k => f k + g k) + (f n + g n) = sm n f + f n + (sm n g + g n)
    rw [sm_add f g n]
    grind
theorem sm_zero : ∀ n, sm n (fun _ => 0) = 0
  | 0 => rfl
  | n + 1 => by
    show sm n (fun _ => 0) + 0 = 0
    rw [sm_zero n]
    grind
theorem sm_swap (f : Nat → Nat → Rat) (m : Nat) : ∀ n, (sm n fun i => sm m fun j => f i j) = sm m fun j => sm n fun i => f i j
  | 0 => by
    show (0 : Rat) = sm m fun _ => 0
    rw [sm_zero]
  | n + 1 => by
    show (sm n fun i => sm m fun j => f i j) + (sm m fun j => f n j) = sm m fun j => (sm n fun i => f i j) + f n j
    rw [sm_swap f m n, ← sm_add]
theorem mul_sm (c : Rat) (f : Nat → Rat) (n : Nat) : sm n (fun k => c * f k) = c * sm n f := by
  rw [Rat.mul_comm, ← sm_mul]
  exact sm_congr n fun k _ => Rat.mul_comm _ _
/-- products go behind one another -/
theorem sm_assoc (a b c : En) (n m i j : Nat) : (sm n fun k => a i k * sm m fun l => b k l * c l j) = sm m fun l => (sm n fun k => a i k * b k l) * c l j := by
  have e1 : (sm n fun k => a i k * sm m fun l => b k l * c l j) = sm n fun k => sm m fun l => a i k * (b k l * c l j) := sm_congr n fun k _ => (mul_sm _ _ _).symm
  rw [e1, sm_swap]
  refine sm_congr m fun l _ => ?_
  rw [← sm_mul]
  exact sm_congr n fun k _ => (Rat.mul_assoc _ _ _).symm
theorem sm_dlt_r (f : Nat → Rat) (j : Nat) : ∀ n, j < n → (sm n fun k => f k * dlt k j) = f j
  | 0, h => absurd h (Nat.not_lt_zero _)
  | n + 1, h => by
    show (sm n fun k => f k * dlt k j) + f n * dlt n j = f j
    by_cases c : j = n
    · have : (sm n fun k => f k * dlt k j) = 0 := by
        rw [← sm_zero n]
        refine sm_congr n fun k hk => ?_
        unfold dlt
        rw [if_neg (by omega)]
        grind
      rw [this]
      subst c
      unfold dlt
      rw [if_pos rfl]
      grind
    · rw [sm_dlt_r f j n (by omega)]
      unfold dlt
      rw [if_neg c]
      grind
theorem sm_dlt_l (f : Nat → Rat) (i n : Nat) (h : i < n) : (sm n fun k => dlt i k * f k) = f i := by
  have := sm_dlt_r f i n h
  rw [← this]
  refine sm_congr n fun k hk => ?_
  unfold dlt
  by_cases c : k = i
  · subst c; simp
  · have c' : ¬ i = k := fun z => c z.symm
    simp [c, c']
/-- a left inverse is the one by minors -/
theorem inv_one {n : Nat} {m x : En} (h1 : 1 ≤ n) (h3 : n ≤ 3) (nz : detN n m ≠ 0) (h : ∀ i, i < n → ∀ j, j < n → (sm n fun k => x i k * m k j) = dlt i j) : ∀ i, i < n → ∀ j, j < n → x i j = invN n m i j := by
  intro i hi j hj
  have e1 : (sm n fun k => x i k * sm n fun l => m k l * invN n m l j) = x i j := by
    rw [sm_congr n fun k hk => by rw [inv_right h1 h3 nz k hk j hj]]
    exact sm_dlt_r (x i) j n hj
  rw [← e1, sm_assoc x m (invN n m) n n i j, sm_congr n fun l hl => by rw [h i hi l hl]]
  exact sm_dlt_l (fun l => invN n m l j) i n hi
end Tc


namespace Tc
open PySem PySem.Spec Pd
theorem getD_set {α : Type} (l : List α) (k i : Nat) (x d : α) (h : k < l.length) : (l.set k x).getD i d = if i = k then x else l.getD i d := by
  rw [List.getD_eq_getElem?_getD, List.getD_eq_getElem?_getD, List.getElem?_set]
  by_cases c : k = i
  · subst c
    simp [h]
  · have c2 : ¬ i = k := fun z => c z.symm
    simp [c, c2]
theorem ent_exch {M : Mx} {i0 p : Nat} (h0 : i0 < M.length) (hp : p < M.length) (i j : Nat) : ent (exch M i0 p) i j = ent M (swI i0 p i) j := by
  unfold ent exch swI
  rw [getD_set _ _ _ _ _ (by rw [List.length_set]; exact hp), getD_set _ _ _ _ _ h0]
  split
  · rfl
  · split
    · rfl
    · rfl
theorem times_getD (r : Rw) (q : Rat) (j : Nat) : (timesR r q).getD j 0 = r.getD j 0 * q := by
  unfold timesR
  rw [List.getD_eq_getElem?_getD, List.getD_eq_getElem?_getD, List.getElem?_map]
  cases r[j]? with
  | none => show (0 : Rat) = 0 * q; rw [Rat.zero_mul]
  | some x => rfl
theorem less_getD {r s : Rw} (q : Rat) {j : Nat} (h1 : j < r.length) (h2 : j < s.length) : (lessR r s q).getD j 0 = r.getD j 0 - s.getD j 0 * q := by
  unfold lessR
  rw [List.getD_eq_getElem?_getD, List.getD_eq_getElem?_getD, List.getD_eq_getElem?_getD, List.getElem?_map, show (r.zip s)[j]? = some (r[j], s[j]) from List.getElem?_zip_eq_some.mpr ⟨List.getElem?_eq_getElem h1, List.getElem?_eq_getElem h2⟩, List.getElem?_eq_getElem h1, List.getElem?_eq_getElem h2]
  rfl
theorem ent_stepR {line : Rw} {p k h w : Nat} {M : Mx} (sh : Shp h w M) (ll : line.length = w) (hk : k < h) {i j : Nat} (hj : j < w) : ent (stepR line p k M) i j = if i = k then ent M k j - line.getD j 0 * ent M k p else ent M i j := by
  obtain ⟨_, rl⟩ := getD_row sh hk
  unfold stepR
  by_cases c : ent M k p = 0
  · rw [if_neg (fun z => z c), c]
    split
    · rename_i e
      rw [e]
      grind
    · rfl
  · rw [if_pos c]
    show ((M.set k (lessR (M.getD k []) line (ent M k p))).getD i []).getD j 0 = _
    rw [getD_set _ _ _ _ _ (by rw [sh.h]; exact hk)]
    split
    · rw [less_getD _ (by rw [rl]; exact hj) (by rw [ll]; exact hj)]
      rfl
    · rfl
theorem times_len (r : Rw) (q : Rat) : (timesR r q).length = r.length := by
  unfold timesR
  rw [List.length_map]
/-- the line that is taken from the others -/
def lineD (M : Mx) (i0 p : Nat) : Rw := timesR ((swapM M i0 p).getD p []) (1 / ent (swapM M i0 p) p p)
def nextD (n : Nat) (M : Mx) (i0 p : Nat) : Mx := elimR (lineD M i0 p) p (p + 1) (n - (p + 1)) (swapM M i0 p)
theorem detN_congr {k : Nat} {a b : En} (h3 : k ≤ 3) (h : ∀ i, i < k → ∀ j, j < k → a i j = b i j) : detN k a = detN k b := by
  have hk : k = 0 ∨ k = 1 ∨ k = 2 ∨ k = 3 := by omega
  rcases hk with rfl | rfl | rfl | rfl
  · rfl
  · simp only [detN]
    rw [h 0 (by omega) 0 (by omega)]
  · simp only [detN]
    rw [h 0 (by omega) 0 (by omega), h 0 (by omega) 1 (by omega), h 1 (by omega) 0 (by omega), h 1 (by omega) 1 (by omega)]
  · simp only [detN]
    rw [h 0 (by omega) 0 (by omega), h 0 (by omega) 1 (by omega), h 1 (by omega) 0 (by omega), h 1 (by omega) 1 (by omega), h 0 (by omega) 2 (by omega), h 1 (by omega) 2 (by omega), h 2 (by omega) 0 (by omega), h 2 (by omega) 1 (by omega), h 2 (by omega) 2 (by omega)]
theorem firstNZ_none {M : Mx} {p : Nat} : ∀ {b n : Nat}, firstNZ M p b n = none → ∀ i, b ≤ i → i < b + n → ent M i p = 0
  | b, 0, _, i, h1, h2 => by omega
  | b, n + 1, h, i, h1, h2 => by
    by_cases c : ent M b p ≠ 0
    · have e : firstNZ M p b (n + 1) = some b := if_pos c
      rw [e] at h
      cases h
    · have e : firstNZ M p b (n + 1) = firstNZ M p (b + 1) n := if_neg c
      rw [e] at h
      by_cases z : i = b
      · subst z
        exact Decidable.not_not.mp c
      · exact firstNZ_none h i (by omega) (by omega)
end Tc


namespace Tc
open PySem PySem.Spec Pd
structure DetS (n c : Nat) (S : Nat → Mx → Rat → Prop) : Prop where
  shp : ∀ i M f, S i M f → Shp n n M
  mok : ∀ i M f, S i M f → mok c M
  bz : ∀ i M f, S i M f → bz c f
  ln : ∀ i M f i0, i < n → S i M f → i ≤ i0 → i0 < n → ent M i0 i ≠ 0 → rok c (lineD M i0 i)
  el : ∀ i M f i0, i < n → S i M f → i ≤ i0 → i0 < n → ent M i0 i ≠ 0 → ∀ t, t ≤ n - (i + 1) → Tc.mok c (elimR (lineD M i0 i) i (i + 1) t (swapM M i0 i))
  nx : ∀ i M f i0, i < n → S i M f → i ≤ i0 → i0 < n → ent M i0 i ≠ 0 → S (i + 1) (nextD n M i0 i) (swapF f i0 i * ent (swapM M i0 i) i i)
theorem mok_ent {c h w i j : Nat} {M : Mx} (sh : Shp h w M) (m : mok c M) (hi : i < h) (hj : j < w) : bz c (ent M i j) := by
  obtain ⟨l1, l2⟩ := getD_row sh hi
  exact m _ l1 _ (getD_mem (by rw [l2]; exact hj))
theorem mok_row {c h w i : Nat} {M : Mx} (sh : Shp h w M) (m : mok c M) (hi : i < h) : rok c (M.getD i []) := m _ (getD_row sh hi).1
end Tc


namespace Tc
open PySem PySem.Spec Pd
/-! ### the inverse: all rows but one -/
def stepX (line : Rw) (p k : Nat) (M : Mx) : Mx := if k = p then M else stepR line p k M
def elimX (line : Rw) (p : Nat) : Nat → Nat → Mx → Mx
  | _, 0, M => M
  | k, n + 1, M => elimX line p (k + 1) n (stepX line p k M)
theorem elimX_snoc (line : Rw) (p : Nat) : ∀ (k n : Nat) (M : Mx), elimX line p k (n + 1) M = stepX line p (k + n) (elimX line p k n M)
  | k, 0, M => rfl
  | k, n + 1, M => by
    show elimX line p (k + 1) (n + 1) (stepX line p k M) = _
    rw [elimX_snoc line p (k + 1) n]
    rw [show k + 1 + n = k + (n + 1) by omega]
    rfl
theorem stepX_shp {line : Rw} {p k h w : Nat} {M : Mx} (sh : Shp h w M) (ll : line.length = w) (hk : k < h) : Shp h w (stepX line p k M) := by
  unfold stepX
  split
  · exact sh
  · exact stepR_shp sh ll hk
theorem stepX_row {line : Rw} {p k h w : Nat} {M : Mx} (sh : Shp h w M) (hk : k < h) : (stepX line p k M).getD p [] = M.getD p [] := by
  unfold stepX
  split
  · rfl
  · rename_i c
    unfold stepR
    split
    · rw [getD_set _ _ _ _ _ (by rw [sh.h]; exact hk), if_neg (fun z => c z.symm)]
    · rfl
theorem elimX_shp {line : Rw} {p h w : Nat} (ll : line.length = w) : ∀ (n k : Nat) {M : Mx}, Shp h w M → k + n ≤ h → Shp h w (elimX line p k n M)
  | 0, _, _, sh, _ => sh
  | n + 1, k, _, sh, hk => elimX_shp ll n (k + 1) (stepX_shp sh ll (by omega)) (by omega)
theorem elimX_row {line : Rw} {p h w : Nat} (ll : line.length = w) : ∀ (n k : Nat) {M : Mx}, Shp h w M → k + n ≤ h → (elimX line p k n M).getD p [] = M.getD p []
  | 0, _, _, _, _ => rfl
  | n + 1, k, _, sh, hk => (elimX_row ll n (k + 1) (stepX_shp sh ll (by omega)) (by omega)).trans (stepX_row sh (by omega))
theorem ent_stepX {line : Rw} {p k h w : Nat} {M : Mx} (sh : Shp h w M) (ll : line.length = w) (hk : k < h) {i j : Nat} (hj : j < w) : ent (stepX line p k M) i j = if i = k ∧ i ≠ p then ent M k j - line.getD j 0 * ent M k p else ent M i j := by
  unfold stepX
  by_cases c : k = p
  · rw [if_pos c, if_neg (by omega)]
  · rw [if_neg c, ent_stepR sh ll hk hj]
    by_cases e : i = k
    · rw [if_pos e, if_pos (by omega)]
    · rw [if_neg e, if_neg (by omega)]
theorem ent_elimX {line : Rw} {p h w : Nat} (ll : line.length = w) (hp : p < w) {i j : Nat} (hj : j < w) : ∀ (n k : Nat) {M : Mx}, Shp h w M → k + n ≤ h → ent (elimX line p k n M) i j = if (k ≤ i ∧ i < k + n) ∧ i ≠ p then ent M i j - line.getD j 0 * ent M i p else ent M i j
  | 0, k, M, sh, hk => by
    show ent M i j = _
    rw [if_neg (by omega)]
  | n + 1, k, M, sh, hk => by
    show ent (elimX line p (k + 1) n (stepX line p k M)) i j = _
    rw [ent_elimX ll hp hj n (k + 1) (stepX_shp sh ll (by omega)) (by omega), ent_stepX sh ll (by omega) hj, ent_stepX sh ll (by omega) hp]
    by_cases c : i = k
    · subst c
      rw [if_neg (by omega)]
      by_cases z : i = p
      · rw [if_neg (by omega), if_neg (by omega)]
      · rw [if_pos ⟨rfl, z⟩, if_pos (by omega)]
    · have n1 : ∀ (x y : Rat), (if i = k ∧ i ≠ p then x else y) = y := fun x y => if_neg fun w => c w.1
      rw [n1, n1]
      by_cases c2 : (k + 1 ≤ i ∧ i < k + 1 + n) ∧ i ≠ p
      · rw [if_pos c2, if_pos (by omega)]
      · rw [if_neg c2, if_neg (by omega)]
/-- the line at p, made 1 there -/
def lineI (R : Mx) (i0 p : Nat) : Rw := timesR ((exch R i0 p).getD p []) (1 / ent (exch R i0 p) p p)
def readyI (R : Mx) (i0 p : Nat) : Mx := (exch R i0 p).set p (lineI R i0 p)
def nextI (n : Nat) (R : Mx) (i0 p : Nat) : Mx := elimX (lineI R i0 p) p 0 n (readyI R i0 p)
def invE (n : Nat) : Nat → Nat → Mx → Option Mx
  | 0, _, R => some R
  | k + 1, p, R => match firstNZ R p p (n - p) with
    | none => none
    | some i0 => invE n k (p + 1) (nextI n R i0 p)
theorem set_shp {h w k : Nat} {M : Mx} {r : Rw} (sh : Shp h w M) (hr : r.length = w) : Shp h w (M.set k r) := by
  refine ⟨by rw [List.length_set]; exact sh.h, fun x hx => ?_⟩
  rcases List.mem_or_eq_of_mem_set hx with z | z
  · exact sh.w x z
  · rw [z]; exact hr
theorem lineI_len {h w i0 p : Nat} {R : Mx} (sh : Shp h w R) (h0 : i0 < h) (hp : p < h) : (lineI R i0 p).length = w := by
  unfold lineI
  rw [times_len]
  exact (getD_row (exch_shp sh h0 hp) hp).2
theorem readyI_shp {h w i0 p : Nat} {R : Mx} (sh : Shp h w R) (h0 : i0 < h) (hp : p < h) : Shp h w (readyI R i0 p) := set_shp (exch_shp sh h0 hp) (lineI_len sh h0 hp)
theorem readyI_row {h w i0 p : Nat} {R : Mx} (sh : Shp h w R) (h0 : i0 < h) (hp : p < h) : (readyI R i0 p).getD p [] = lineI R i0 p := by
  unfold readyI
  rw [getD_set _ _ _ _ _ (by rw [(exch_shp sh h0 hp).h]; exact hp), if_pos rfl]
theorem nextI_shp {h w i0 p : Nat} {R : Mx} (sh : Shp h w R) (h0 : i0 < h) (hp : p < h) : Shp h w (nextI h R i0 p) :=
  elimX_shp (lineI_len sh h0 hp) _ _ (readyI_shp sh h0 hp) (by omega)
theorem ent_nextI {n w i0 p : Nat} {R : Mx} (sh : Shp n w R) (h0 : i0 < n) (hp : p < n) (hw : p < w) {i j : Nat} (hi : i < n) (hj : j < w) : ent (nextI n R i0 p) i j = stepE (ent R) p i0 i j := by
  have l0 : i0 < R.length := by rw [sh.h]; exact h0
  have lp : p < R.length := by rw [sh.h]; exact hp
  have lx : p < (exch R i0 p).length := by rw [(exch_shp sh h0 hp).h]; exact hp
  have e1 : ∀ j, (lineI R i0 p).getD j 0 = ent R i0 j * (1 / ent R i0 p) := fun j => by
    unfold lineI
    rw [times_getD]
    show ent (exch R i0 p) p j * (1 / ent (exch R i0 p) p p) = _
    rw [ent_exch l0 lp, ent_exch l0 lp]
    unfold swI
    rw [if_pos rfl]
  have e2 : ∀ i j, ent (readyI R i0 p) i j = if i = p then ent R i0 j * (1 / ent R i0 p) else ent R (swI i0 p i) j := fun i j => by
    show ((readyI R i0 p).getD i []).getD j 0 = _
    unfold readyI
    rw [getD_set _ _ _ _ _ lx]
    by_cases c : i = p
    · rw [if_pos c, if_pos c, e1]
    · rw [if_neg c, if_neg c]
      exact ent_exch l0 lp i j
  unfold nextI
  rw [ent_elimX (lineI_len sh h0 hp) hw hj _ _ (readyI_shp sh h0 hp) (by omega), e1, e2, e2]
  unfold stepE
  by_cases c : i = p
  · rw [if_neg (by omega), if_pos c, if_pos c]
  · rw [if_pos (by omega), if_neg c, if_neg c, if_neg c]
/-- what the elimination of the whole comes to -/
theorem invE_ok : ∀ (k p n w : Nat) (R M : Mx) (s : Rat), n = p + k → 1 ≤ n → n ≤ 3 → w = n + n → Shp n w R → LedBy n (ent M) (ent R) → UnitE n p (ent R) → s ≠ 0 → detN n (ent M) = s * detN n (ent R) →
    match invE n k p R with
    | none => detN n (ent M) = 0
    | some R' => Shp n w R' ∧ LedBy n (ent M) (ent R') ∧ UnitE n n (ent R') ∧ detN n (ent M) ≠ 0
  | 0, p, n, w, R, M, s, hn, h1, h3, hw, sh, hl, hu, hs, hd => by
    have hp : p = n := by omega
    rw [hp] at hu
    have d1 := det_unit h1 h3 hu
    refine ⟨sh, hl, hu, ?_⟩
    rw [hd, d1, Rat.mul_one]
    exact hs
  | k + 1, p, n, w, R, M, s, hn, h1, h3, hw, sh, hl, hu, hs, hd => by
    have hp : p < n := by omega
    unfold invE
    cases e : firstNZ R p p (n - p) with
    | none =>
      show detN n (ent M) = 0
      rw [hd, det_fail h1 h3 hp hu fun i a b => firstNZ_none e i a (by omega), Rat.mul_zero]
    | some i0 =>
      obtain ⟨a1, a2, a3⟩ := firstNZ_some e
      have h0 : i0 < n := by omega
      have en : ∀ i, i < n → ∀ j, j < w → ent (nextI n R i0 p) i j = stepE (ent R) p i0 i j := fun i hi j hj => ent_nextI sh h0 hp (by omega) hi hj
      refine invE_ok k (p + 1) n w (nextI n R i0 p) M (s * ((if i0 = p then 1 else -1) * ent R i0 p)) (by omega) h1 h3 hw (nextI_shp sh h0 hp) ?_ ?_ ?_ ?_
      · intro i hi j hj
        rw [en i hi j (by omega), stepE_led hl h0 hp i hi j hj]
        exact sm_congr n fun k hk => by rw [en i hi (n + k) (by omega)]
      · intro i hi j hj
        rw [en i hi j (by omega)]
        exact stepE_unit hu h0 a1 hp a3 i hi j hj
      · split <;> grind
      · rw [hd, stepE_det h1 h3 h0 a1 a3, detN_congr h3 fun i hi j hj => en i hi j (by omega)]
        split <;> grind
end Tc


namespace Tc
open PySem PySem.Spec Pd
theorem cut_from (l : List Dt) (i : Nat) (h : i ≤ l.length) : cutD l (some (i : Int)) none = l.drop i := by
  unfold cutD
  rw [HT.sIx_nat, HT.sIx_none, Nat.min_eq_left h, List.take_of_length_le (by rw [List.length_drop]; omega)]
theorem cut_upto (l : List Dt) (i : Nat) (h : i ≤ l.length) : cutD l none (some (i : Int)) = l.take i := by
  unfold cutD
  rw [HT.sIx_nat, HT.sIx_none, Nat.min_eq_left h, List.drop_zero, Nat.sub_zero]
theorem neN {a b : Nat} {x y : Int} (ex : x = (a : Nat)) (ey : y = (b : Nat)) (ρ : DEnv) (θ : Pot) (Q : Dt → Pot → Prop) : Gv (opt (gNe (.int x) (.int y)) ρ θ) Q = Q (.bl (!decide (a = b))) θ := by
  rw [gv_neI]
  by_cases c : a = b
  · have : x = y := by omega
    simp [c, this]
  · have : ¬ x = y := by omega
    simp [c, this]
theorem elimX_loop {θ : Pot} {M : Mx} {line : Rw} {h w p n c : Nat} {z : Int} {e0 e1 e2 e4 e5 : Option Ent} {x : Option Dt} {Q : Out → Pot → Prop} (ez : z = (p : Nat)) (hp : p < w) (ph : p < h) (hn : n ≤ h) (hh : h ≤ 16) (w1 : w ≤ 16) (lc : 3 * c < 8900)
    (sh : ∀ i, i ≤ n → Shp h w (elimX line p 0 i M)) (hr : ∀ i, i ≤ n → (elimX line p 0 i M).getD p [] = line) (hb : ∀ i, i ≤ n → mok c (elimX line p 0 i M)) (hl : rok c line)
    (q : ∀ x : Option Dt, Q (.next [e0, e1, e2, some (.own ((elimX line p 0 n M).map dr)), e4, e5, some (.dat (.int z)), x.map Ent.dat]) θ) :
    Gv (forGo (.n 7) (mIf (mAnd (mBool (mOp gNe (mVar 7) (mVar 6))) (mBool (mOp gNe (mOp gIx (mOp gIx (mIxO 3 (mVar 7)) (mVar 6)) (ret (.int 0))) (ret (.int 0)))))
      (mSetI 3 (mVar 7) (mCallD m_row_less [] [0, 1, 2] (mECons (mIxO 3 (mVar 7)) (mECons (mIxO 3 (mVar 6)) (mECons (mOp gIx (mIxO 3 (mVar 7)) (mVar 6)) mENil))) mENil)) mNext) (rngL 0 n) [e0, e1, e2, some (.own (M.map dr)), e4, e5, some (.dat (.int z)), x.map Ent.dat] θ) Q := by
  rw [rngLe]
  refine for_rangeR (fun k : Nat => Dt.int (0 + k)) n (fun i ρ θ' => ∃ x : Option Dt, ρ = [e0, e1, e2, some (.own ((elimX line p 0 i M).map dr)), e4, e5, some (.dat (.int z)), x.map Ent.dat] ∧ θ' = θ) ?_ ?_ _ _ ⟨_, rfl, rfl⟩
  · rintro ρ θ1 ⟨x, rfl, rfl⟩
    exact q x
  · rintro i ρ θ1 hi ⟨x, rfl, rfl⟩
    obtain ⟨y, ey⟩ : ∃ y, y = 0 + ((i : Nat) : Int) := ⟨_, rfl⟩
    have ey2 : y = ((i : Nat) : Int) := by omega
    have sN := sh i (by omega)
    have bN := hb i (by omega)
    have rN := hr i (by omega)
    have sn := elimX_snoc line p 0 i M
    rw [Nat.zero_add] at sn
    generalize elimX line p 0 i M = N at *
    have lb : i < N.length := by rw [sN.h]; omega
    have lp : p < N.length := by rw [sN.h]; exact ph
    obtain ⟨rm, rl⟩ := getD_row sN (show i < h by omega)
    have g1 : ∀ (ρ : DEnv) (θ : Pot) (Q : Dt → Pot → Prop), Gv (opt (gIx (.lst (N.map dr)) (.int y)) ρ θ) Q = Q (dr (N.getD i [])) θ := fun ρ θ Q => by rw [gIx_lmap dr N [] ey2 lb, gv_opt]
    have g2 : ∀ (ρ : DEnv) (θ : Pot) (Q : Dt → Pot → Prop), Gv (opt (gIx (dr (N.getD i [])) (.int z)) ρ θ) Q = Q (dq (ent N i p)) θ := fun ρ θ Q => gv_ixR _ ez (by rw [rl]; exact hp)
    have g3 : ∀ (ρ : DEnv) (θ : Pot) (Q : Dt → Pot → Prop), Gv (opt (gIx (.lst (N.map dr)) (.int z)) ρ θ) Q = Q (dr line) θ := fun ρ θ Q => by rw [gIx_lmap dr N [] ez lp, gv_opt, rN]
    have g4 := neN (a := i) (b := p) ey2 ez
    refine ⟨_, bindT_n 7 _, ?_⟩
    simp only [← ey]
    rw [sn]
    by_cases cp : i = p
    · have sx : stepX line p i N = N := if_pos cp
      rw [sx]
      simp! [g4, cp, decide_true]
      exact Or.inl ⟨_, rfl, some (.int y), rfl⟩
    · have sx : stepX line p i N = stepR line p i N := if_neg cp
      rw [sx]
      simp! [g4, cp, decide_false]
      by_cases c0 : ent N i p = 0
      · have c1 : (ent N i p).num = 0 := by rw [c0]; rfl
        have e : stepR line p i N = N := by
          unfold stepR
          rw [if_neg (fun w => w c0)]
        simp! [g1, g2, gv_q0, c1]
        rw [e]
        exact Or.inl ⟨_, rfl, some (.int y), rfl⟩
      · have c1 : ¬ (ent N i p).num = 0 := fun w => c0 (num_zero w)
        have e : stepR line p i N = N.set i (lessR (N.getD i []) line (ent N i p)) := by
          unfold stepR
          rw [if_pos c0]
        simp! [g1, g2, g3, gv_q0, c1]
        refine row_less_ok (bN _ rm) hl (bN _ rm _ (getD_mem (by rw [rl]; exact hp))) (by omega) (by omega) ?_
        simp! [true_and]
        rw [stK_a 3 _ _ y i (by rw [ey2]; exact ixN_nat _ _ (by rw [List.length_map]; exact lb))]
        rw [e, List.map_set]
        exact Or.inl ⟨_, rfl, some (.int y), rfl, rfl⟩
end Tc


namespace Tc
open PySem PySem.Spec Pd
def begI (n : Nat) (M : Mx) : Mx := M.zipIdx.map fun p => p.1 ++ (unitQ n).getD p.2 []
structure InvS (n w c : Nat) (S : Nat → Mx → Prop) : Prop where
  shp : ∀ i R, S i R → Shp n w R
  mok : ∀ i R, S i R → mok c R
  ln : ∀ i R i0, i < n → S i R → i ≤ i0 → i0 < n → ent R i0 i ≠ 0 → rok c (lineI R i0 i)
  el : ∀ i R i0, i < n → S i R → i ≤ i0 → i0 < n → ent R i0 i ≠ 0 → ∀ t, t ≤ n → Tc.mok c (elimX (lineI R i0 i) i 0 t (readyI R i0 i))
  nx : ∀ i R i0, i < n → S i R → i ≤ i0 → i0 < n → ent R i0 i ≠ 0 → S (i + 1) (nextI n R i0 i)
def optM (n : Nat) : Option Mx → Dt
  | none => .non
  | some R => dm (R.map fun r => r.drop n)
theorem invE_none {n i : Nat} {R : Mx} (hi : i < n) (e : firstNZ R i i (n - i) = none) : invE n (n - i) i R = none := by
  obtain ⟨k, hk⟩ : ∃ k, n - i = k + 1 := ⟨n - i - 1, by omega⟩
  rw [hk]
  unfold invE
  rw [e]
theorem invE_some {n i i0 : Nat} {R : Mx} (hi : i < n) (e : firstNZ R i i (n - i) = some i0) : invE n (n - i) i R = invE n (n - (i + 1)) (i + 1) (nextI n R i0 i) := by
  obtain ⟨k, hk⟩ : ∃ k, n - i = k + 1 := ⟨n - i - 1, by omega⟩
  rw [show n - (i + 1) = k by omega, hk, invE, e]
theorem unitQ_shp (n : Nat) : Shp n n (unitQ n) := by
  refine ⟨by unfold unitQ; rw [List.length_map, List.length_range], fun r hr => ?_⟩
  obtain ⟨i, hi, rfl⟩ := List.mem_map.mp hr
  rw [List.length_map, List.length_range]
theorem hide_m (y : Option Dt) (ρ : DEnv) : hide (y.map Ent.dat :: ρ) = y.map Ent.dat :: hide ρ := by
  cases y <;> rfl
theorem inv_walk {θ : Pot} {M0 : Mx} {n w c : Nat} {v : Int} {d0 : Dt} {S : Nat → Mx → Prop} {Q : Ret → Pot → Prop} (ev : v = (n : Nat)) (ed : d0 = dm M0) (h1 : 1 ≤ n) (h8 : n ≤ 8) (hw : n ≤ w) (w16 : w ≤ 16) (lc : 3 * c < 8900) (sM : Shp n n M0) (s0 : S 0 (begI n M0)) (hS : InvS n w c S)
    (q : Q (.d (optM n (invE n n 0 (begI n M0)))) θ) : Gv (m_inverse_of [.dat d0] θ) Q := by
  have eh := sM.h
  have gl : ∀ (ρ : DEnv) (θ : Pot) (Q : Dt → Pot → Prop), Gv (opt (gLen [d0]) ρ θ) Q = Q (.int v) θ := fun ρ θ Q => by rw [ed, gv_lenX, eh, ev]
  have gf : enumOf2 [d0] = some (M0.zipIdx.map fun p => .tup [.int (p.2 : Nat), dr p.1]) := by
    rw [ed]
    show some (numbered (M0.map dr)) = _
    rw [numbered_map]
  have bm : bnd62 v = true := bnd_of (by omega) (by omega)
  have tv : v.toNat = n := by omega
  have zb : M0.zipIdx.length < bigL := Nat.lt_of_le_of_lt (by rw [List.length_zipIdx, eh]; exact h8) (show 8 < bigL by decide)
  unfold m_inverse_of r_inverse_of
  simp! [gl]
  refine unit_of_ok ev (by omega) ?_
  simp! [gf, List.length_map, zb]
  refine cmap (g := fun p : Rw × Nat => .tup [.int (p.2 : Nat), dr p.1]) (f := fun p => dr (p.1 ++ (unitQ n).getD p.2 [])) M0.zipIdx (fun p hp => ?_) ?_
  · have ix : p.2 < n := by
      have := (List.mem_zipIdx hp).2.1
      omega
    have pl : p.1.length = n := by
      obtain ⟨_, _, e⟩ := List.mem_zipIdx hp
      rw [e]
      exact sM.w _ (List.getElem_mem _)
    have ul := (getD_row (unitQ_shp n) ix).2
    have lb : n + n < bigL := Nat.lt_of_le_of_lt (show n + n ≤ 16 by omega) (by decide)
    have gx : ∀ (ρ : DEnv) (θ : Pot) (Q : Dt → Pot → Prop), Gv (opt (gIx (dm (unitQ n)) (.int (p.2 : Nat))) ρ θ) Q = Q (dr ((unitQ n).getD p.2 [])) θ := fun ρ θ Q => gv_ixX _ rfl (by rw [(unitQ_shp n).h]; exact ix)
    simp! [gx, dr_t, List.length_map, pl, ul, lb]
    rw [List.map_append]
  · have eb : (M0.zipIdx.map fun p => dr (p.1 ++ (unitQ n).getD p.2 [])) = (begI n M0).map dr := by
      unfold begI
      rw [List.map_map]
      rfl
    rw [eb]
    simp! [bm]
    rw [tv, rng0]
    refine for_rangeR (fun k : Nat => Dt.int (0 + k)) n (fun i ρ θ' => ∃ (R : Mx) (x4 x5 x6 x7 : Option Dt), S i R ∧ invE n (n - i) i R = invE n n 0 (begI n M0) ∧ ρ = [some (.dat d0), some (.dat (.int v)), some (.dat (dm (unitQ n))), some (.own (R.map dr)), x4.map Ent.dat, x5.map Ent.dat, x6.map Ent.dat, x7.map Ent.dat] ∧ θ' = θ) ?_ ?_ _ _ ⟨begI n M0, none, none, none, none, s0, rfl, rfl, rfl⟩
    · rintro ρ θ1 ⟨R, x4, x5, x6, x7, hs, he, rfl, rfl⟩
      have sR := hS.shp _ _ hs
      rw [Nat.sub_self] at he
      have he : some R = invE n n 0 (begI n M0) := he
      rw [← he] at q
      have rb : R.length < bigL := Nat.lt_of_le_of_lt (by rw [sR.h]; exact h8) (show 8 < bigL by decide)
      simp! [List.length_map, rb]
      refine cmap (g := dr) (f := fun r => dr (r.drop n)) R (fun r hr => ?_) ?_
      · have e := cut_from (r.map dq) n (by rw [List.length_map, sR.w r hr]; exact hw)
        rw [← ev] at e
        simp! [hide_m, dr_t, e]
        rw [List.map_drop]
      · simp! [true_and]
        have e : optM n (some R) = .tup (R.map fun r => dr (r.drop n)) := by
          show Dt.tup (List.map dr (R.map fun r => r.drop n)) = _
          rw [List.map_map]
          rfl
        rw [e] at q
        exact q
    · rintro i ρ θ1 hi ⟨R, x4, x5, x6, x7, hs, he, rfl, rfl⟩
      have sh := hS.shp _ _ hs
      have mR := hS.mok _ _ hs
      obtain ⟨z, ez⟩ : ∃ z : Int, z = 0 + (i : Nat) := ⟨_, rfl⟩
      have ez2 : z = (i : Nat) := by omega
      refine ⟨_, bindT_n 6 _, ?_⟩
      simp only [← ez]
      simp! [true_and]
      refine row_with_ok sh ez2 ez2 (by omega) (by omega) (by omega) ?_
      cases e : firstNZ R i i (n - i) with
      | none =>
        rw [invE_none hi e] at he
        rw [← he] at q
        simp! [optD]
        exact Or.inr ⟨_, rfl, q⟩
      | some i0 =>
        obtain ⟨a1, a2, a3⟩ := firstNZ_some e
        have h0 : i0 < n := by omega
        have l0 : i0 < R.length := by rw [sh.h]; exact h0
        have lp : i < R.length := by rw [sh.h]; exact hi
        have sN := exch_shp sh h0 hi
        have mN := exch_mok sh h0 hi mR
        have lN := hS.ln _ _ _ hi hs a1 h0 a3
        have eN := hS.el _ _ _ hi hs a1 h0 a3
        have nN := hS.nx _ _ _ hi hs a1 h0 a3
        rw [invE_some hi e] at he
        have nz : ent (exch R i0 i) i i ≠ 0 := by
          rw [ent_exch l0 lp]
          unfold swI
          rw [if_pos rfl]
          exact a3
        simp! [optD]
        refine exchanged_ok rfl ez2 l0 lp ?_
        have lb : i < (exch R i0 i).length := by rw [sN.h]; exact hi
        have rl : ((exch R i0 i).getD i []).length = w := (getD_row sN hi).2
        have g1 : ∀ (ρ : DEnv) (θ : Pot) (Q : Dt → Pot → Prop), Gv (opt (gIx (.lst ((exch R i0 i).map dr)) (.int z)) ρ θ) Q = Q (dr ((exch R i0 i).getD i [])) θ := fun ρ θ Q => by rw [gIx_lmap dr (exch R i0 i) [] ez2 lb, gv_opt]
        have g2 : ∀ (ρ : DEnv) (θ : Pot) (Q : Dt → Pot → Prop), Gv (opt (gIx (dr ((exch R i0 i).getD i [])) (.int z)) ρ θ) Q = Q (dq (ent (exch R i0 i) i i)) θ := fun ρ θ Q => gv_ixR _ ez2 (by rw [rl]; omega)
        have be : bz c (ent (exch R i0 i) i i) := mok_ent sN mN hi (by omega)
        have br : rok c ((exch R i0 i).getD i []) := mok_row sN mN hi
        simp! [g1, g2]
        refine inv_ok be (by omega) nz ?_
        simp! [true_and]
        refine row_times_ok br (be.inv nz) (by omega) (by omega) ?_
        have el : timesR ((exch R i0 i).getD i []) (1 / ent (exch R i0 i) i i) = lineI R i0 i := rfl
        rw [el]
        simp! [true_and]
        rw [stK_a 3 _ _ z i (by rw [ez2]; exact ixN_nat _ _ (by rw [List.length_map]; exact lb))]
        have es : ((exch R i0 i).map dr).set i (dr (lineI R i0 i)) = (readyI R i0 i).map dr := by
          unfold readyI
          rw [List.map_set]
        simp! [es, bm]
        rw [tv]
        refine elimX_loop (c := c) (h := n) (w := w) ez2 (by omega) hi (Nat.le_refl _) (by omega) w16 lc (fun t ht => ?_) (fun t ht => ?_) (fun t ht => eN t ht) lN ?_
        · exact elimX_shp (lineI_len sh h0 hi) _ _ (readyI_shp sh h0 hi) (by omega)
        · rw [elimX_row (lineI_len sh h0 hi) _ _ (readyI_shp sh h0 hi) (by omega)]
          exact readyI_row sh h0 hi
        · intro x
          exact Or.inl ⟨_, rfl, nextI n R i0 i, some (.int (i0 : Nat)), x5, some (.int z), x, nN, he, rfl, rfl⟩
end Tc


namespace Tc
open PySem PySem.Spec Pd
theorem mok_of_ent {c h w : Nat} {M : Mx} (sh : Shp h w M) (e : ∀ i, i < h → ∀ j, j < w → bz c (ent M i j)) : mok c M := by
  intro r hr q hq
  obtain ⟨i, hi, rfl⟩ := List.mem_iff_getElem.mp hr
  obtain ⟨j, hj, rfl⟩ := List.mem_iff_getElem.mp hq
  have hw := sh.w _ hr
  have hh := sh.h
  have := e i (by omega) j (by omega)
  unfold ent at this
  rw [List.getD_eq_getElem?_getD, List.getD_eq_getElem?_getD, List.getElem?_eq_getElem hi] at this
  simpa [List.getElem?_eq_getElem hj] using this
theorem bz.one {k : Nat} : bz k 1 := by
  have h : (1 : Nat) ≤ 2 ^ k := Nat.one_le_two_pow
  exact ⟨h, h⟩
theorem bz.zero {k : Nat} : bz k 0 := by
  have h : (1 : Nat) ≤ 2 ^ k := Nat.one_le_two_pow
  exact ⟨Nat.zero_le _, h⟩
theorem rok_of {c w : Nat} {r : Rw} (hl : r.length = w) (e : ∀ j, j < w → bz c (r.getD j 0)) : rok c r := by
  intro q hq
  obtain ⟨j, hj, rfl⟩ := List.mem_iff_getElem.mp hq
  have := e j (by omega)
  rw [List.getD_eq_getElem?_getD, List.getElem?_eq_getElem hj] at this
  exact this
def bitB (b : Nat) : Nat → Nat
  | 0 => b
  | i + 1 => 4 * bitB b i + 1
theorem bitB_le (b : Nat) : ∀ i, i ≤ 3 → bitB b i ≤ 64 * b + 21 := fun i hi => by
  have : i = 0 ∨ i = 1 ∨ i = 2 ∨ i = 3 := by omega
  rcases this with rfl | rfl | rfl | rfl <;> simp only [bitB] <;> omega
def bitG (b : Nat) : Nat → Nat
  | 0 => 0
  | i + 1 => bitG b i + bitB b i
/-! ### the inverse -/
theorem ent_readyI {n w i0 p : Nat} {R : Mx} (sh : Shp n w R) (h0 : i0 < n) (hp : p < n) (i j : Nat) : ent (readyI R i0 p) i j = if i = p then ent R i0 j * (1 / ent R i0 p) else ent R (swI i0 p i) j := by
  have l0 : i0 < R.length := by rw [sh.h]; exact h0
  have lp : p < R.length := by rw [sh.h]; exact hp
  have lx : p < (exch R i0 p).length := by rw [(exch_shp sh h0 hp).h]; exact hp
  show ((readyI R i0 p).getD i []).getD j 0 = _
  unfold readyI
  rw [getD_set _ _ _ _ _ lx]
  by_cases c : i = p
  · rw [if_pos c, if_pos c]
    unfold lineI
    rw [times_getD]
    show ent (exch R i0 p) p j * (1 / ent (exch R i0 p) p p) = _
    rw [ent_exch l0 lp, ent_exch l0 lp]
    unfold swI
    rw [if_pos rfl]
  · rw [if_neg c, if_neg c]
    exact ent_exch l0 lp i j
theorem lineI_getD {n w i0 p : Nat} {R : Mx} (sh : Shp n w R) (h0 : i0 < n) (hp : p < n) (j : Nat) : (lineI R i0 p).getD j 0 = ent R i0 j * (1 / ent R i0 p) := by
  have e := ent_readyI sh h0 hp p j
  rw [if_pos rfl] at e
  rw [← e]
  show _ = ((readyI R i0 p).getD p []).getD j 0
  rw [readyI_row sh h0 hp]
theorem invS3 {n w b : Nat} (h3 : n ≤ 3) (hw : n ≤ w) : InvS n w (64 * b + 21) fun i R => i ≤ n ∧ Shp n w R ∧ mok (bitB b i) R := by
  have el : ∀ (i : Nat) (R : Mx) (i0 : Nat), i < n → Shp n w R → mok (bitB b i) R → i ≤ i0 → i0 < n → ent R i0 i ≠ 0 → rok (2 * bitB b i) (lineI R i0 i) ∧ ∀ t, t ≤ n → Tc.mok (bitB b (i + 1)) (elimX (lineI R i0 i) i 0 t (readyI R i0 i)) := by
    intro i M i0 hi sh mM a1 h0 a3
    have bl : ∀ j, j < w → bz (2 * bitB b i) ((lineI M i0 i).getD j 0) := fun j hj => by
      rw [lineI_getD sh h0 hi]
      exact ((mok_ent sh mM h0 hj).mul ((mok_ent sh mM h0 (by omega)).inv a3)).mono (by omega)
    refine ⟨rok_of (lineI_len sh h0 hi) bl, fun t ht => ?_⟩
    refine mok_of_ent (elimX_shp (lineI_len sh h0 hi) _ _ (readyI_shp sh h0 hi) (by omega)) fun r hr j hj => ?_
    rw [ent_elimX (lineI_len sh h0 hi) (by omega) hj _ _ (readyI_shp sh h0 hi) (by omega), ent_readyI sh h0 hi, ent_readyI sh h0 hi]
    have q := swI_lt h0 hi hr
    have b1 := mok_ent sh mM q hj
    have b2 := mok_ent sh mM q (show i < w by omega)
    have b3 := bl j hj
    have e : bitB b (i + 1) = 4 * bitB b i + 1 := rfl
    by_cases c : r = i
    · rw [if_neg (by omega), if_pos c, ← lineI_getD sh h0 hi]
      exact b3.mono (by omega)
    · rw [if_neg c, if_neg c]
      split
      · exact (b1.sub (b3.mul b2)).mono (by omega)
      · exact b1.mono (by omega)
  constructor
  · rintro i R ⟨_, h, _⟩; exact h
  · rintro i R ⟨hi, h, m⟩; exact fun r hr q hq => (m r hr q hq).mono (bitB_le b i (by omega))
  · rintro i R i0 hi ⟨_, h, m⟩ a1 h0 a3
    have hb := bitB_le b (i + 1) (by omega)
    have e : bitB b (i + 1) = 4 * bitB b i + 1 := rfl
    exact fun q hq => ((el i R i0 hi h m a1 h0 a3).1 q hq).mono (by omega)
  · rintro i R i0 hi ⟨_, h, m⟩ a1 h0 a3 t ht
    exact fun r hr q hq => ((el i R i0 hi h m a1 h0 a3).2 t ht r hr q hq).mono (bitB_le b (i + 1) (by omega))
  · rintro i R i0 hi ⟨_, h, m⟩ a1 h0 a3
    exact ⟨hi, nextI_shp h h0 hi, (el i R i0 hi h m a1 h0 a3).2 _ (Nat.le_refl _)⟩
theorem begI_shp {n : Nat} {M : Mx} (sh : Shp n n M) : Shp n (n + n) (begI n M) := by
  refine ⟨by unfold begI; rw [List.length_map, List.length_zipIdx]; exact sh.h, fun r hr => ?_⟩
  obtain ⟨p, hp, rfl⟩ := List.mem_map.mp hr
  obtain ⟨_, h2, e⟩ := List.mem_zipIdx hp
  have eh := sh.h
  rw [List.length_append, e, sh.w _ (List.getElem_mem _), (getD_row (unitQ_shp n) (show p.2 < n by omega)).2]
theorem ent_unit {n i j : Nat} (hi : i < n) (hj : j < n) : ent (unitQ n) i j = dlt i j := by
  unfold ent unitQ dlt
  simp [List.getD_eq_getElem?_getD, hi, hj]
theorem ent_begI {n : Nat} {M : Mx} (sh : Shp n n M) {i j : Nat} (hi : i < n) : ent (begI n M) i j = if j < n then ent M i j else ent (unitQ n) i (j - n) := by
  have lb : i < M.length := by rw [sh.h]; exact hi
  have e : (begI n M).getD i [] = M.getD i [] ++ (unitQ n).getD i [] := by
    unfold begI
    rw [List.getD_eq_getElem?_getD, List.getElem?_map, List.getElem?_zipIdx, List.getD_eq_getElem?_getD, List.getElem?_eq_getElem lb]
    simp
  unfold ent
  rw [e]
  have l := (getD_row sh hi).2
  generalize M.getD i [] = r at *
  generalize (unitQ n).getD i [] = s at *
  rw [List.getD_eq_getElem?_getD, List.getD_eq_getElem?_getD, List.getD_eq_getElem?_getD]
  split
  · rw [List.getElem?_append_left (by omega)]
  · rw [List.getElem?_append_right (by omega), l]
theorem begI_mok {n b : Nat} {M : Mx} (sh : Shp n n M) (m : mok b M) : mok b (begI n M) := by
  refine mok_of_ent (begI_shp sh) fun i hi j hj => ?_
  rw [ent_begI sh hi]
  split
  · exact mok_ent sh m hi (by omega)
  · rw [ent_unit hi (by omega)]
    unfold dlt
    split
    · exact bz.one
    · exact bz.zero
/-- matrices of the same numbers are the same -/
theorem mx_ext {h w : Nat} {M N : Mx} (sM : Shp h w M) (sN : Shp h w N) (e : ∀ i, i < h → ∀ j, j < w → ent M i j = ent N i j) : M = N := by
  refine List.ext_getElem (by rw [sM.h, sN.h]) fun i h1 h2 => ?_
  have hi : i < h := by rw [← sM.h]; exact h1
  refine List.ext_getElem (by rw [sM.w _ (List.getElem_mem _), sN.w _ (List.getElem_mem _)]) fun j g1 g2 => ?_
  have hj : j < w := by rw [← sM.w _ (List.getElem_mem h1)]; exact g1
  have := e i hi j hj
  unfold ent at this
  simpa [List.getD_eq_getElem?_getD, h1, h2, g1, g2] using this
/-- the matrix of given numbers -/
def mxOf (n : Nat) (e : En) : Mx := (List.range n).map fun i => (List.range n).map fun j => e i j
theorem mxOf_shp (n : Nat) (e : En) : Shp n n (mxOf n e) := by
  refine ⟨by unfold mxOf; rw [List.length_map, List.length_range], fun r hr => ?_⟩
  obtain ⟨i, hi, rfl⟩ := List.mem_map.mp hr
  rw [List.length_map, List.length_range]
theorem ent_mxOf {n i j : Nat} (e : En) (hi : i < n) (hj : j < n) : ent (mxOf n e) i j = e i j := by
  unfold ent mxOf
  simp [List.getD_eq_getElem?_getD, hi, hj]
def invD (n : Nat) (M : Mx) : Dt := if detN n (ent M) = 0 then .non else dm (mxOf n (invN n (ent M)))
theorem drop_ent {n w : Nat} {R : Mx} (sh : Shp n w R) {i j : Nat} (hi : i < n) : ent (R.map fun r => r.drop n) i j = ent R i (n + j) := by
  have lb : i < R.length := by rw [sh.h]; exact hi
  unfold ent
  simp [List.getD_eq_getElem?_getD, lb]
theorem inverse_of_ok {θ : Pot} {M : Mx} {n b : Nat} {d0 : Dt} {Q : Ret → Pot → Prop} (ed : d0 = dm M) (sh : Shp n n M) (h1 : 1 ≤ n) (h3 : n ≤ 3) (m : mok b M) (lb : b ≤ 45) (q : Q (.d (invD n M)) θ) : Gv (m_inverse_of [.dat d0] θ) Q := by
  refine inv_walk (c := 64 * b + 21) (n := n) (w := n + n) (v := (n : Nat)) rfl ed h1 (by omega) (by omega) (by omega) (by omega) sh ⟨Nat.zero_le _, begI_shp sh, begI_mok sh m⟩ (invS3 h3 (by omega)) ?_
  have eb : ∀ i, i < n → ∀ j, j < n → ent (begI n M) i j = ent M i j := fun i hi j hj => by rw [ent_begI sh hi, if_pos hj]
  have z := invE_ok n 0 n (n + n) (begI n M) M 1 (by omega) h1 h3 rfl (begI_shp sh) (fun i hi j hj => by
    rw [eb i hi j hj, sm_congr n fun k hk => by rw [ent_begI sh hi, if_neg (by omega), Nat.add_sub_cancel_left, ent_unit hi hk]]
    exact (sm_dlt_l (fun k => ent M k j) i n hi).symm) (fun i hi j hj => absurd hj (Nat.not_lt_zero _)) (by decide) (by rw [Rat.one_mul]; exact (detN_congr h3 eb).symm)
  unfold invD at q
  cases e : invE n n 0 (begI n M) with
  | none =>
    rw [e] at z
    rw [if_pos z] at q
    exact q
  | some R =>
    rw [e] at z
    obtain ⟨sR, lR, uR, nz⟩ := z
    rw [if_neg nz] at q
    have sX : Shp n n (R.map fun r => r.drop n) := by
      refine ⟨by rw [List.length_map]; exact sR.h, fun r hr => ?_⟩
      obtain ⟨r', hr', rfl⟩ := List.mem_map.mp hr
      rw [List.length_drop, sR.w r' hr']
      omega
    have ex : (R.map fun r => r.drop n) = mxOf n (invN n (ent M)) := by
      refine mx_ext sX (mxOf_shp _ _) fun i hi j hj => ?_
      rw [ent_mxOf _ hi hj, drop_ent sR hi]
      refine inv_one (x := fun i j => ent R i (n + j)) h1 h3 nz (fun i hi j hj => ?_) i hi j hj
      show (sm n fun k => ent R i (n + k) * ent M k j) = dlt i j
      rw [← lR i hi j hj]
      exact uR i hi j hj
    show Q (.d (dm (R.map fun r => r.drop n))) θ
    rw [ex]
    exact q
end Tc


namespace Tc
open PySem PySem.Spec Pd
/-! ### the law's own determinant and inverse -/
def minorM (M : Mx) (h a : Nat) : Mx := (M.take h ++ M.drop (h + 1)).map fun r => r.take a ++ r.drop (a + 1)
theorem minor_ok {θ : Pot} {M : Mx} {n w h a : Nat} {v z : Int} {Q : Ret → Pot → Prop} (sh : Shp n w M) (ev : v = (h : Nat)) (ez : z = (a : Nat)) (hh : h < n) (ha : a < w) (n8 : n ≤ 8) (w8 : w ≤ 8) (q : Q (.d (dm (minorM M h a))) θ) : Gv (m__law_minor [.dat (dm M), .dat (.int v), .dat (.int z)] θ) Q := by
  unfold m__law_minor r__law_minor
  have eh := sh.h
  have c1 := cut_upto (M.map dr) h (by rw [List.length_map]; omega)
  have c2 := cut_from (M.map dr) (h + 1) (by rw [List.length_map]; omega)
  rw [← ev] at c1
  rw [show ((h + 1 : Nat) : Int) = v + 1 by omega] at c2
  have lb : ((M.map dr).take h).length + ((M.map dr).drop (h + 1)).length < bigL := Nat.lt_of_le_of_lt (show _ ≤ 16 by rw [List.length_take, List.length_drop, List.length_map]; omega) (by decide)
  have em : (M.map dr).take h ++ (M.map dr).drop (h + 1) = (M.take h ++ M.drop (h + 1)).map dr := by
    rw [List.map_append, List.map_take, List.map_drop]
  have lm : (M.take h ++ M.drop (h + 1)).length < bigL := Nat.lt_of_le_of_lt (show _ ≤ 16 by rw [List.length_append, List.length_take, List.length_drop]; omega) (by decide)
  simp! [dm_t, c1, c2, lb, em, List.length_map, lm]
  refine cmap (g := dr) (f := fun r => dr (r.take a ++ r.drop (a + 1))) (M.take h ++ M.drop (h + 1)) (fun r hr => ?_) ?_
  · have hw : r.length = w := by
      rcases List.mem_append.mp hr with z | z
      · exact sh.w r (List.mem_of_mem_take z)
      · exact sh.w r (List.mem_of_mem_drop z)
    have d1 := cut_upto (r.map dq) a (by rw [List.length_map]; omega)
    have d2 := cut_from (r.map dq) (a + 1) (by rw [List.length_map]; omega)
    rw [← ez] at d1
    rw [show ((a + 1 : Nat) : Int) = z + 1 by omega] at d2
    have lr : ((r.map dq).take a).length + ((r.map dq).drop (a + 1)).length < bigL := Nat.lt_of_le_of_lt (show _ ≤ 16 by rw [List.length_take, List.length_drop, List.length_map]; omega) (by decide)
    simp! [dr_t, d1, d2, lr]
    rw [List.map_append, List.map_take, List.map_drop]
  · simp! [true_and]
    have e : dm (minorM M h a) = .tup ((M.take h ++ M.drop (h + 1)).map fun r => dr (r.take a ++ r.drop (a + 1))) := by
      unfold dm minorM
      rw [List.map_map]
      rfl
    rw [e] at q
    exact q
theorem but_getD {α : Type} (l : List α) (h i : Nat) (d : α) (hh : h < l.length) : (l.take h ++ l.drop (h + 1)).getD i d = l.getD (skp h i) d := by
  rw [List.getD_eq_getElem?_getD, List.getD_eq_getElem?_getD]
  unfold skp
  split
  · rename_i c
    rw [List.getElem?_append_left (by rw [List.length_take]; omega), List.getElem?_take_of_lt c]
  · rename_i c
    rw [List.getElem?_append_right (by rw [List.length_take]; omega), List.length_take, List.getElem?_drop]
    congr 2
    omega
theorem minor_shp {M : Mx} {n w h a : Nat} (sh : Shp (n + 1) (w + 1) M) (hh : h < n + 1) (ha : a < w + 1) : Shp n w (minorM M h a) := by
  have eh := sh.h
  refine ⟨by unfold minorM; rw [List.length_map, List.length_append, List.length_take, List.length_drop]; omega, fun r hr => ?_⟩
  obtain ⟨s, hs, rfl⟩ := List.mem_map.mp hr
  have hw : s.length = w + 1 := by
    rcases List.mem_append.mp hs with z | z
    · exact sh.w s (List.mem_of_mem_take z)
    · exact sh.w s (List.mem_of_mem_drop z)
  rw [List.length_append, List.length_take, List.length_drop]
  omega
theorem ent_minor {M : Mx} {n w h a : Nat} (sh : Shp (n + 1) (w + 1) M) (hh : h < n + 1) (ha : a < w + 1) {i : Nat} (hi : i < n) (j : Nat) : ent (minorM M h a) i j = ent M (skp h i) (skp a j) := by
  have eh := sh.h
  have sk : skp h i < n + 1 := by
    unfold skp
    split <;> omega
  have e1 : (minorM M h a).getD i [] = (M.getD (skp h i) []).take a ++ (M.getD (skp h i) []).drop (a + 1) := by
    have e0 := but_getD M h i [] (by omega)
    unfold minorM
    rw [List.getD_eq_getElem?_getD, List.getElem?_map]
    rw [List.getD_eq_getElem?_getD] at e0
    have lt : i < (M.take h ++ M.drop (h + 1)).length := by rw [List.length_append, List.length_take, List.length_drop]; omega
    rw [List.getElem?_eq_getElem lt] at e0 ⊢
    have e0 : (M.take h ++ M.drop (h + 1))[i] = M.getD (skp h i) [] := e0
    show (M.take h ++ M.drop (h + 1))[i].take a ++ (M.take h ++ M.drop (h + 1))[i].drop (a + 1) = _
    rw [e0]
  unfold ent
  rw [e1]
  exact but_getD _ a j 0 (by rw [(getD_row sh sk).2]; exact ha)
theorem minor_mok {M : Mx} {n w h a b : Nat} (sh : Shp (n + 1) (w + 1) M) (hh : h < n + 1) (ha : a < w + 1) (m : mok b M) : mok b (minorM M h a) := by
  refine mok_of_ent (minor_shp sh hh ha) fun i hi j hj => ?_
  rw [ent_minor sh hh ha hi]
  refine mok_ent sh m ?_ ?_ <;> (unfold skp; split <;> omega)
theorem gLen_dm {M : Mx} {n w : Nat} (sh : Shp n w M) (ρ : DEnv) (θ : Pot) (Q : Dt → Pot → Prop) : Gv (opt (gLen [dm M]) ρ θ) Q = Q (.int (n : Nat)) θ := by rw [gv_lenX, sh.h]
theorem law_det1 {θ : Pot} {M : Mx} {k : Nat} {Q : Ret → Pot → Prop} (sh : Shp 1 1 M) (q : Q (.d (dq (detN 1 (ent M)))) θ) : Gv (m__law_det (k + 1) [.dat (dm M)] θ) Q := by
  unfold m__law_det r__law_det
  have l0 : 0 < M.length := by rw [sh.h]; omega
  have rl := (getD_row sh (show 0 < 1 by omega)).2
  have l1 : 0 < (M.getD 0 []).length := by rw [rl]; omega
  have gl := gLen_dm sh
  simp! [gl, gv_ixX M (i := 0) (v := 0) rfl l0, gv_ixR (M.getD 0 []) (i := 0) (v := 0) rfl l1, Int.natCast_one, decide_true, Int.cast_ofNat_Int]
  exact q
theorem row0_2 {M : Mx} (sh : Shp 2 2 M) : M.getD 0 [] = [ent M 0 0, ent M 0 1] := by
  have rl := (getD_row sh (show 0 < 2 by omega)).2
  unfold ent
  match M.getD 0 [], rl with
  | [a, b], _ => rfl
theorem row0_3 {M : Mx} (sh : Shp 3 3 M) : M.getD 0 [] = [ent M 0 0, ent M 0 1, ent M 0 2] := by
  have rl := (getD_row sh (show 0 < 3 by omega)).2
  unfold ent
  match M.getD 0 [], rl with
  | [a, b, c], _ => rfl
theorem fd0 : Int.fdiv 0 2 = 0 := rfl
theorem fd1 : Int.fdiv 1 2 = 0 := rfl
theorem fd2 : Int.fdiv 2 2 = 1 := rfl
theorem sm0 : small 0 = true := by decide
theorem sm1 : small 1 = true := by decide
theorem law_det2 {θ : Pot} {M : Mx} {k b : Nat} {Q : Ret → Pot → Prop} (sh : Shp 2 2 M) (m : mok b M) (lb : b ≤ 40) (q : Q (.d (dq (detN 2 (ent M)))) θ) : Gv (m__law_det (k + 2) [.dat (dm M)] θ) Q := by
  unfold m__law_det r__law_det
  have l0 : 0 < M.length := by rw [sh.h]; omega
  have gl := gLen_dm sh
  have g0 : ∀ (ρ : DEnv) (θ : Pot) (Q : Dt → Pot → Prop), Gv (opt (gIx (dm M) (.int 0)) ρ θ) Q = Q (.tup [dq (ent M 0 0), dq (ent M 0 1)]) θ := fun ρ θ Q => by
    rw [gv_ixX M (i := 0) (v := 0) rfl l0, row0_2 sh]
    rfl
  have gn : numbered [dq (ent M 0 0), dq (ent M 0 1)] = [.tup [.int 0, dq (ent M 0 0)], .tup [.int 1, dq (ent M 0 1)]] := rfl
  have b0 := mok_ent sh m (show 0 < 2 by omega) (show 0 < 2 by omega)
  have b1 := mok_ent sh m (show 0 < 2 by omega) (show 1 < 2 by omega)
  have s0 := minor_shp (h := 0) (a := 0) sh (by omega) (by omega)
  have s1 := minor_shp (h := 0) (a := 1) sh (by omega) (by omega)
  have m0 : bz b (detN 1 (ent (minorM M 0 0))) := mok_ent s0 (minor_mok sh (by omega) (by omega) m) (by omega) (by omega)
  have m1 : bz b (detN 1 (ent (minorM M 0 1))) := mok_ent s1 (minor_mok sh (by omega) (by omega) m) (by omega) (by omega)
  have e2 : ¬ ((2 : Nat) : Int) = 1 := by decide
  simp! [gl, e2, g0, gn, bindT_2, dz]
  refine minor_ok (h := 0) (a := 0) sh rfl rfl (by omega) (by omega) (by omega) (by omega) ?_
  simp! [true_and]
  refine law_det1 s0 ?_
  simp! [true_and]
  refine law_times_ok b0 m0 (by omega) ?_
  simp! [fd0, fd1, fd2, sm0, sm1]
  refine law_sum_ok (bz.zero (k := 0)) (b0.mul m0) (by omega) ?_
  simp! [bindT_2]
  refine minor_ok (h := 0) (a := 1) sh rfl rfl (by omega) (by omega) (by omega) (by omega) ?_
  simp! [true_and]
  refine law_det1 s1 ?_
  simp! [true_and]
  refine law_times_ok b1 m1 (by omega) ?_
  simp! [fd0, fd1, fd2, sm0, sm1]
  refine law_less_ok ((bz.zero (k := 0)).add (b0.mul m0)) (b1.mul m1) (by omega) ?_
  simp! [true_and]
  have e : 0 + ent M 0 0 * detN 1 (ent (minorM M 0 0)) - ent M 0 1 * detN 1 (ent (minorM M 0 1)) = detN 2 (ent M) := by
    simp only [detN, ent_minor (n := 1) (w := 1) sh (show 0 < 1 + 1 by omega) (show 0 < 1 + 1 by omega) (show 0 < 1 by omega), ent_minor (n := 1) (w := 1) sh (show 0 < 1 + 1 by omega) (show 1 < 1 + 1 by omega) (show 0 < 1 by omega)]
    simp only [skp]
    simp
    grind
  rw [e]
  exact q
theorem det2_bz {b : Nat} {e : En} (h : ∀ i, i < 2 → ∀ j, j < 2 → bz b (e i j)) : bz (4 * b + 1) (detN 2 e) :=
  (((h 0 (by omega) 0 (by omega)).mul (h 1 (by omega) 1 (by omega))).sub ((h 0 (by omega) 1 (by omega)).mul (h 1 (by omega) 0 (by omega)))).mono (by omega)
theorem law_det3 {θ : Pot} {M : Mx} {k b : Nat} {Q : Ret → Pot → Prop} (sh : Shp 3 3 M) (m : mok b M) (lb : b ≤ 40) (q : Q (.d (dq (detN 3 (ent M)))) θ) : Gv (m__law_det (k + 3) [.dat (dm M)] θ) Q := by
  unfold m__law_det r__law_det
  have l0 : 0 < M.length := by rw [sh.h]; omega
  have gl := gLen_dm sh
  have g0 : ∀ (ρ : DEnv) (θ : Pot) (Q : Dt → Pot → Prop), Gv (opt (gIx (dm M) (.int 0)) ρ θ) Q = Q (.tup [dq (ent M 0 0), dq (ent M 0 1), dq (ent M 0 2)]) θ := fun ρ θ Q => by
    rw [gv_ixX M (i := 0) (v := 0) rfl l0, row0_3 sh]
    rfl
  have gn : numbered [dq (ent M 0 0), dq (ent M 0 1), dq (ent M 0 2)] = [.tup [.int 0, dq (ent M 0 0)], .tup [.int 1, dq (ent M 0 1)], .tup [.int 2, dq (ent M 0 2)]] := rfl
  have b0 := mok_ent sh m (show 0 < 3 by omega) (show 0 < 3 by omega)
  have b1 := mok_ent sh m (show 0 < 3 by omega) (show 1 < 3 by omega)
  have b2 := mok_ent sh m (show 0 < 3 by omega) (show 2 < 3 by omega)
  have s0 := minor_shp (h := 0) (a := 0) sh (by omega) (by omega)
  have s1 := minor_shp (h := 0) (a := 1) sh (by omega) (by omega)
  have s2 := minor_shp (h := 0) (a := 2) sh (by omega) (by omega)
  have k0 := minor_mok (h := 0) (a := 0) (n := 2) (w := 2) sh (by omega) (by omega) m
  have k1 := minor_mok (h := 0) (a := 1) (n := 2) (w := 2) sh (by omega) (by omega) m
  have k2 := minor_mok (h := 0) (a := 2) (n := 2) (w := 2) sh (by omega) (by omega) m
  have m0 : bz (4 * b + 1) (detN 2 (ent (minorM M 0 0))) := det2_bz fun i hi j hj => mok_ent s0 k0 hi hj
  have m1 : bz (4 * b + 1) (detN 2 (ent (minorM M 0 1))) := det2_bz fun i hi j hj => mok_ent s1 k1 hi hj
  have m2 : bz (4 * b + 1) (detN 2 (ent (minorM M 0 2))) := det2_bz fun i hi j hj => mok_ent s2 k2 hi hj
  have e2 : ¬ ((3 : Nat) : Int) = 1 := by decide
  simp! [gl, e2, g0, gn, bindT_2, dz]
  refine minor_ok (h := 0) (a := 0) sh rfl rfl (by omega) (by omega) (by omega) (by omega) ?_
  simp! [true_and]
  refine law_det2 s0 k0 lb ?_
  simp! [true_and]
  refine law_times_ok b0 m0 (by omega) ?_
  simp! [fd0, fd1, fd2, sm0, sm1]
  refine law_sum_ok (bz.zero (k := 0)) (b0.mul m0) (by omega) ?_
  simp! [bindT_2]
  refine minor_ok (h := 0) (a := 1) sh rfl rfl (by omega) (by omega) (by omega) (by omega) ?_
  simp! [true_and]
  refine law_det2 s1 k1 lb ?_
  simp! [true_and]
  refine law_times_ok b1 m1 (by omega) ?_
  simp! [fd0, fd1, fd2, sm0, sm1]
  refine law_less_ok ((bz.zero (k := 0)).add (b0.mul m0)) (b1.mul m1) (by omega) ?_
  simp! [bindT_2]
  refine minor_ok (h := 0) (a := 2) sh rfl rfl (by omega) (by omega) (by omega) (by omega) ?_
  simp! [true_and]
  refine law_det2 s2 k2 lb ?_
  simp! [true_and]
  refine law_times_ok b2 m2 (by omega) ?_
  simp! [fd0, fd1, fd2, sm0, sm1]
  refine law_sum_ok (((bz.zero (k := 0)).add (b0.mul m0)).sub (b1.mul m1)) (b2.mul m2) (by omega) ?_
  simp! [true_and]
  have e : 0 + ent M 0 0 * detN 2 (ent (minorM M 0 0)) - ent M 0 1 * detN 2 (ent (minorM M 0 1)) + ent M 0 2 * detN 2 (ent (minorM M 0 2)) = detN 3 (ent M) := by
    have en : ∀ a, a < 3 → ∀ i, i < 2 → ∀ j, ent (minorM M 0 a) i j = ent M (skp 0 i) (skp a j) := fun a ha i hi j => ent_minor (n := 2) (w := 2) sh (by omega) ha hi j
    simp only [detN, en 0 (by omega) 0 (by omega), en 0 (by omega) 1 (by omega), en 1 (by omega) 0 (by omega), en 1 (by omega) 1 (by omega), en 2 (by omega) 0 (by omega), en 2 (by omega) 1 (by omega)]
    simp only [skp]
    simp
    grind
  rw [e]
  exact q
def bitD (b : Nat) : Nat := 15 * b + 9
theorem det_bz {b n : Nat} {e : En} (h1 : 1 ≤ n) (h3 : n ≤ 3) (h : ∀ i, i < n → ∀ j, j < n → bz b (e i j)) : bz (bitD b) (detN n e) := by
  unfold bitD
  have hn : n = 1 ∨ n = 2 ∨ n = 3 := by omega
  rcases hn with rfl | rfl | rfl
  · exact (h 0 (by omega) 0 (by omega)).mono (by omega)
  · exact (det2_bz h).mono (by omega)
  · have b0 := h 0 (by omega) 0 (by omega)
    have b1 := h 0 (by omega) 1 (by omega)
    have b2 := h 0 (by omega) 2 (by omega)
    have c0 := h 1 (by omega) 0 (by omega)
    have c1 := h 1 (by omega) 1 (by omega)
    have c2 := h 1 (by omega) 2 (by omega)
    have d0 := h 2 (by omega) 0 (by omega)
    have d1 := h 2 (by omega) 1 (by omega)
    have d2 := h 2 (by omega) 2 (by omega)
    exact (((b0.mul ((c1.mul d2).sub (c2.mul d1))).sub (b1.mul ((c0.mul d2).sub (c2.mul d0)))).add (b2.mul ((c0.mul d1).sub (c1.mul d0)))).mono (by omega)
theorem law_det_ok {θ : Pot} {M : Mx} {k n b : Nat} {Q : Ret → Pot → Prop} (sh : Shp n n M) (h1 : 1 ≤ n) (h3 : n ≤ 3) (m : mok b M) (lb : b ≤ 40) (q : Q (.d (dq (detN n (ent M)))) θ) : Gv (m__law_det (k + 3) [.dat (dm M)] θ) Q := by
  have hn : n = 1 ∨ n = 2 ∨ n = 3 := by omega
  rcases hn with rfl | rfl | rfl
  · exact law_det1 sh q
  · exact law_det2 sh m lb q
  · exact law_det3 sh m lb q
end Tc


namespace Tc
open PySem PySem.Spec Pd
def sgZ (i j : Nat) : Int := if (i + j) % 2 = 0 then 1 else -1
theorem sg_cast (i j : Nat) : ((sgZ i j : Int) : Rat) = sgN i j := by
  unfold sgZ sgN
  split <;> rfl
theorem sg_fd {x y : Int} {i j : Nat} (ex : x = (i : Nat)) (ey : y = (j : Nat)) : 1 - (x + y - (x + y).fdiv 2 * 2) * 2 = sgZ i j := by
  have e : (x + y).fdiv 2 = (x + y) / 2 := fd_pos (by decide)
  rw [e]
  unfold sgZ
  split <;> omega
theorem minN_eq {n h a : Nat} {M : Mx} (sh : Shp (n + 2) (n + 2) M) (hh : h < n + 2) (ha : a < n + 2) (h3 : n + 2 ≤ 3) : detN (n + 1) (ent (minorM M h a)) = minN (n + 2) (ent M) h a := by
  show _ = detN (n + 1) fun i j => ent M (skp h i) (skp a j)
  refine detN_congr (by omega) fun i hi j hj => ?_
  exact ent_minor (n := n + 1) (w := n + 1) sh (by omega) (by omega) hi j
theorem min_bz {n h a b : Nat} {M : Mx} (sh : Shp (n + 2) (n + 2) M) (hh : h < n + 2) (ha : a < n + 2) (h3 : n + 2 ≤ 3) (m : mok b M) : bz (bitD b) (minN (n + 2) (ent M) h a) := by
  rw [← minN_eq sh hh ha h3]
  exact det_bz (by omega) (by omega) fun i hi j hj => mok_ent (minor_shp (n := n + 1) (w := n + 1) sh hh ha) (minor_mok (n := n + 1) (w := n + 1) sh hh ha m) hi hj
theorem inv_entry {p w : Rat} {s : Int} (hw : w ≠ 0) : ((p.num * s * (w.den : Nat) : Int) : Rat) / (((p.den : Nat) * w.num : Int) : Rat) = (s : Rat) * p / w := by
  have e1 := q_num_den p
  have e2 := q_num_den w
  have h1 := cast_ne (den_ne p)
  have h2 := cast_ne (den_ne w)
  have h3 : (w.num : Rat) ≠ 0 := cast_ne fun e => hw (Rat.num_eq_zero.mp e)
  rw [Rat.intCast_mul, Rat.intCast_mul, Rat.intCast_mul]
  generalize (p.num : Rat) = a at *
  generalize (((p.den : Nat) : Int) : Rat) = c at *
  generalize (w.num : Rat) = d at *
  generalize (((w.den : Nat) : Int) : Rat) = e at *
  generalize (s : Rat) = t at *
  grind
theorem z_num {w : Rat} (h : w ≠ 0) : w.num ≠ 0 := fun e => h (Rat.num_eq_zero.mp e)
theorem law_inverse_ok {θ : Pot} {M : Mx} {n b : Nat} {v : Int} {d0 : Dt} {Q : Ret → Pot → Prop} (ev : v = (n : Nat)) (ed : d0 = dm M) (sh : Shp n n M) (h1 : 1 ≤ n) (h3 : n ≤ 3) (m : mok b M) (lb : b ≤ 30) (q : Q (.d (invD n M)) θ) : Gv (m__law_inverse [.dat d0] θ) Q := by
  have gl : ∀ (ρ : DEnv) (θ : Pot) (Q : Dt → Pot → Prop), Gv (opt (gLen [d0]) ρ θ) Q = Q (.int v) θ := fun ρ θ Q => by rw [ed, gLen_dm sh, ev]
  have bm : bnd62 v = true := bnd_of (by omega) (by omega)
  have tv : v.toNat = n := by omega
  have bd := det_bz h1 h3 fun i hi j hj => mok_ent sh m hi hj
  have dd : ∀ {R : Ret → Pot → Prop}, R (.d (dq (detN n (ent M)))) θ → Gv (m__law_det 12 [.dat d0] θ) R := fun r => by
    rw [ed]
    exact law_det_ok (k := 9) sh h1 h3 m (by omega) r
  have bD : bitD b ≤ 459 := by unfold bitD; omega
  unfold invD at q
  generalize ew : detN n (ent M) = w at *
  unfold m__law_inverse r__law_inverse
  simp! [gl]
  refine dd ?_
  simp! [gl, gv_q0]
  refine ⟨fun z => ?_, fun z => ?_⟩
  · rw [if_pos (num_zero z)] at q
    exact q
  · have nz : w ≠ 0 := fun e => z (by rw [e]; rfl)
    rw [if_neg nz] at q
    have s1 := bd.1.small (by omega)
    have s2 := bd.2.small (by omega)
    simp! [bm]
    rw [tv, rng0]
    refine for_rangeR (fun k : Nat => Dt.int (0 + k)) n (fun i ρ θ' => ∃ (x4 x6 x7 x8 : Option Dt) (x5 : Option Ent), ρ = [some (.dat d0), some (.dat (dq w)), some (.dat (.int v)), some (.own ((List.range i).map fun i => dr ((List.range n).map fun j => invN n (ent M) i j))), x4.map Ent.dat, x5, x6.map Ent.dat, x7.map Ent.dat, x8.map Ent.dat] ∧ θ' = θ) ?_ ?_ _ _ ⟨none, none, none, none, none, rfl, rfl⟩
    · rintro ρ θ1 ⟨x4, x6, x7, x8, x5, rfl, rfl⟩
      simp! [true_and]
      have e : dm (mxOf n (invN n (ent M))) = .tup ((List.range n).map fun i => dr ((List.range n).map fun j => invN n (ent M) i j)) := by
        unfold dm mxOf
        rw [List.map_map]
        rfl
      rw [e] at q
      exact q
    · rintro i ρ θ1 hi ⟨x4, x6, x7, x8, x5, rfl, rfl⟩
      obtain ⟨z, ez⟩ : ∃ z : Int, z = 0 + (i : Nat) := ⟨_, rfl⟩
      have ez2 : z = (i : Nat) := by omega
      refine ⟨_, bindT_n 4 _, ?_⟩
      simp only [← ez]
      simp! [bm]
      rw [tv, rng0]
      refine for_rangeR (fun k : Nat => Dt.int (0 + k)) n (fun j ρ θ' => ∃ (x6 x7 x8 : Option Dt), ρ = [some (.dat d0), some (.dat (dq w)), some (.dat (.int v)), some (.own ((List.range i).map fun i => dr ((List.range n).map fun j => invN n (ent M) i j))), some (.dat (.int z)), some (.own ((List.range j).map fun j => dq (invN n (ent M) i j))), x6.map Ent.dat, x7.map Ent.dat, x8.map Ent.dat] ∧ θ' = θ1) ?_ ?_ _ _ ⟨x6, x7, x8, rfl, rfl⟩
      · rintro ρ θ2 ⟨x6, x7, x8, rfl, rfl⟩
        simp! [true_and]
        refine ⟨Nat.lt_of_le_of_lt (by rw [List.length_map, List.length_range]; omega) (show 3 < bigL by decide), Or.inl ⟨_, rfl, some (.int z), x6, x7, x8, some (.dat (.lst ((List.range n).map fun j => dq (invN n (ent M) i j)))), ?_⟩⟩
        rw [List.range_succ, List.map_append]
        simp only [dr_t, List.map_map, List.map_cons, List.map_nil]
        rfl
      · rintro j ρ θ2 hj ⟨x6, x7, x8, rfl, rfl⟩
        obtain ⟨y, ey⟩ : ∃ y : Int, y = 0 + (j : Nat) := ⟨_, rfl⟩
        have ey2 : y = (j : Nat) := by omega
        refine ⟨_, bindT_n 6 _, ?_⟩
        simp only [← ey]
        have sgE := sg_fd ez2 ey2
        have sF : small ((z + y).fdiv 2) = true := by
          rw [show (z + y).fdiv 2 = (z + y) / 2 from fd_pos (by decide)]
          exact small_of (by omega) (by omega)
        have sE : small (z + y - (z + y).fdiv 2 * 2) = true := by
          rw [show (z + y).fdiv 2 = (z + y) / 2 from fd_pos (by decide)]
          exact small_of (by omega) (by omega)
        have sG : small (sgZ i j) = true := by unfold sgZ; split <;> decide
        have rest : ∀ (R : Ret → Pot → Prop) (p : Rat), bz (bitD b) p → p = minN n (ent M) j i → Gv ((mSeq (mSet 8 (mOp gSub (ret (.int 1)) (mOp gMul (mOp gSub (mOp gAdd2 (mVar 4) (mVar 6)) (mOp gMul (mOp gDiv (mOp gAdd2 (mVar 4) (mVar 6)) (ret (.int 2))) (ret (.int 2)))) (ret (.int 2)))))
           (mApp 5 (mCallD m__law_made [] [0, 1] (mECons (mOp gMul (mOp gMul (mOp gIx (mVar 7) (ret (.int 0))) (mVar 8)) (mOp gIx (mVar 1) (ret (.int 1)))) (mECons (mOp gMul (mOp gIx (mVar 7) (ret (.int 1))) (mOp gIx (mVar 1) (ret (.int 0)))) mENil)) mENil)))
           [some (.dat d0), some (.dat (dq w)), some (.dat (.int v)), some (.own ((List.range i).map fun i => dr ((List.range n).map fun j => invN n (ent M) i j))), some (.dat (.int z)), some (.own ((List.range j).map fun j => dq (invN n (ent M) i j))), some (.dat (.int y)), some (.dat (dq p)), x8.map Ent.dat] θ2) fun o θ3 => (∃ ρ2, o = .next ρ2 ∧ ∃ (x6 x7 x8 : Option Dt), ρ2 = [some (.dat d0), some (.dat (dq w)), some (.dat (.int v)), some (.own ((List.range i).map fun i => dr ((List.range n).map fun j => invN n (ent M) i j))), some (.dat (.int z)), some (.own ((List.range (j + 1)).map fun j => dq (invN n (ent M) i j))), x6.map Ent.dat, x7.map Ent.dat, x8.map Ent.dat] ∧ θ3 = θ2) ∨ (∃ r, o = .ret r ∧ R r θ3) := by
          intro R p bp ep
          have t1 := bp.1.small (by omega)
          have t2 := bp.2.small (by omega)
          have sb : bi 1 (sgZ i j) := by unfold sgZ; split <;> decide
          have t3 := (bp.1.mul sb).small (by omega)
          have t4 := bd.1.small (by omega)
          have t5 := bd.2.small (by omega)
          have lg : (List.range j).length < bigL := Nat.lt_of_le_of_lt (by rw [List.length_range]; omega) (show 3 < bigL by decide)
          simp! [sF, sE, sgE, sG, gv_q0, gv_q1, t1, t2, t3, t4, t5]
          have nw : w.num ≠ 0 := z_num nz
          refine law_made_ok (k := bitD b + bitD b) (Int.mul_ne_zero (den_ne p) nw) (bp.2.mul bd.1) (by omega) ?_
          rw [inv_entry nz, sg_cast]
          have ev : sgN i j * p / w = invN n (ent M) i j := by
            unfold invN
            rw [ep, ew]
          rw [ev]
          simp! [List.length_map, lg]
          refine Or.inl ⟨_, rfl, some (.int y), some (dq p), some (.int (sgZ i j)), ?_⟩
          rw [List.range_succ, List.map_append]
          rfl
        simp! [true_and]
        refine ⟨fun c => ?_, fun c => ?_⟩
        · have n1 : n = 1 := by omega
          have e1 : (1 : Rat) = minN n (ent M) j i := by rw [n1]; rfl
          have t := fun R => rest R 1 bz.one e1
          rw [← done1] at t
          simp! [true_and] at t ⊢
          exact t _
        · obtain ⟨k, hk⟩ : ∃ k, n = k + 2 := ⟨n - 2, by omega⟩
          subst hk
          have t := fun R => rest R (minN (k + 2) (ent M) j i) (min_bz sh hj hi h3 m) rfl
          simp! [true_and] at t
          subst ed
          refine minor_ok sh ey2 ez2 hj hi (by omega) (by omega) ?_
          simp! [true_and]
          refine law_det_ok (k := 9) (n := k + 1) (minor_shp (n := k + 1) (w := k + 1) sh hj hi) (by omega) (by omega) (minor_mok (n := k + 1) (w := k + 1) sh hj hi m) (by omega) ?_
          rw [minN_eq sh hj hi h3]
          simp! [true_and]
          exact t _
end Tc


namespace Tc
open PySem PySem.Spec Pd
/-! ### what is drawn -/
theorem ratio_spec {θ : Pot} (h : PotOk θ) : Gv (m__law_ratio [.pot] θ) fun r θ' => ∃ q, r = .d (dq q) ∧ bz 2 q ∧ PotOk θ' := by
  unfold m__law_ratio r__law_ratio
  simp! [true_and]
  refine (draw_spec h (by decide) (by decide)).imp ?_
  rintro _ θ1 ⟨i, rfl, i0, i9, h1⟩
  simp! [true_and]
  have go : ∀ (u : Int) (θ2 : Pot), PotOk θ2 → (u = 1 ∨ u = 2 ∨ u = 3) → Gv (m__law_made [.dat (.int (i - 4)), .dat (.int u)] θ2) (rdK (retK (fnK fun r θ' => ∃ q, r = .d (dq q) ∧ bz 2 q ∧ PotOk θ'))) := fun u θ2 h2 hu => by
    have un : u ≠ 0 := by omega
    have ub : bi 2 u := show u.natAbs ≤ 4 by omega
    have nb : bi 2 (i - 4) := show (i - 4).natAbs ≤ 4 by omega
    refine law_made_ok un ub (by omega) ?_
    simp! [true_and]
    exact ⟨_, rfl, bz_of (w := (i - 4, u)) un rfl nb ub, h2⟩
  refine pick4_ok h1 fun θ2 h2 => ⟨?_, ?_, ?_, ?_⟩
  · simp! [true_and]; exact go 1 θ2 h2 (by omega)
  · simp! [true_and]; exact go 1 θ2 h2 (by omega)
  · simp! [true_and]; exact go 2 θ2 h2 (by omega)
  · simp! [true_and]; exact go 3 θ2 h2 (by omega)
theorem row_spec {θ : Pot} {n : Nat} {v : Int} (ev : v = (n : Nat)) (hn : n ≤ 4) (h : PotOk θ) : Gv (m__law_row [.pot, .dat (.int v)] θ) fun r θ' => ∃ x : Rw, r = .d (dr x) ∧ x.length = n ∧ rok 2 x ∧ PotOk θ' := by
  have bm : bnd62 v = true := bnd_of (by omega) (by omega)
  have tv : v.toNat = n := by omega
  unfold m__law_row r__law_row
  simp! [bm]
  rw [tv, rng0]
  refine for_rangeR (fun k : Nat => Dt.int (0 + k)) n (fun i ρ θ' => ∃ (x : Rw) (y : Option Ent), ρ = [some .pot, some (.dat (.int v)), some (.own (x.map dq)), y] ∧ x.length = i ∧ rok 2 x ∧ PotOk θ') ?_ ?_ _ _ ⟨[], none, rfl, rfl, fun q hq => (List.not_mem_nil hq).elim, h⟩
  · rintro ρ θ1 ⟨x, y, rfl, lx, bx, h1⟩
    simp! [true_and]
    exact ⟨x, rfl, lx, bx, h1⟩
  · rintro i ρ θ1 hi ⟨x, y, rfl, lx, bx, h1⟩
    refine ⟨_, bindT_n 3 _, ?_⟩
    simp! [true_and]
    refine (ratio_spec h1).imp ?_
    rintro _ θ2 ⟨q, rfl, bq, h2⟩
    have lb : x.length < bigL := Nat.lt_of_le_of_lt (show x.length ≤ 4 by omega) (by decide)
    simp! [List.length_map, lb]
    refine Or.inl ⟨_, rfl, x ++ [q], _, by rw [List.map_append]; rfl, by rw [List.length_append, lx]; rfl, fun z hz => ?_, h2⟩
    rcases List.mem_append.mp hz with w | w
    · exact bx z w
    · rw [List.mem_singleton.mp w]
      exact bq
theorem matrix_spec {θ : Pot} {n w : Nat} {v z : Int} (ev : v = (n : Nat)) (ez : z = (w : Nat)) (hn : n ≤ 4) (hw : w ≤ 4) (h : PotOk θ) : Gv (m__law_matrix [.pot, .dat (.int v), .dat (.int z)] θ) fun r θ' => ∃ M, r = .d (dm M) ∧ Shp n w M ∧ mok 2 M ∧ PotOk θ' := by
  have bm : bnd62 v = true := bnd_of (by omega) (by omega)
  have tv : v.toNat = n := by omega
  unfold m__law_matrix r__law_matrix
  simp! [bm]
  rw [tv, rng0]
  refine for_rangeR (fun k : Nat => Dt.int (0 + k)) n (fun i ρ θ' => ∃ (x : Mx) (y : Option Ent), ρ = [some .pot, some (.dat (.int v)), some (.dat (.int z)), some (.own (x.map dr)), y] ∧ Shp i w x ∧ mok 2 x ∧ PotOk θ') ?_ ?_ _ _ ⟨[], none, rfl, ⟨rfl, fun q hq => (List.not_mem_nil hq).elim⟩, fun q hq => (List.not_mem_nil hq).elim, h⟩
  · rintro ρ θ1 ⟨x, y, rfl, lx, bx, h1⟩
    simp! [true_and]
    exact ⟨x, rfl, lx, bx, h1⟩
  · rintro i ρ θ1 hi ⟨x, y, rfl, lx, bx, h1⟩
    refine ⟨_, bindT_n 4 _, ?_⟩
    simp! [true_and]
    refine (row_spec ez hw h1).imp ?_
    rintro _ θ2 ⟨q, rfl, lq, bq, h2⟩
    have lb : x.length < bigL := Nat.lt_of_le_of_lt (show x.length ≤ 4 by rw [lx.h]; omega) (by decide)
    simp! [List.length_map, lb]
    refine Or.inl ⟨_, rfl, x ++ [q], _, by rw [List.map_append]; rfl, ⟨by rw [List.length_append, lx.h]; rfl, fun s hs => ?_⟩, fun z hz => ?_, h2⟩
    · rcases List.mem_append.mp hs with w | w
      · exact lx.w s w
      · rw [List.mem_singleton.mp w]
        exact lq
    · rcases List.mem_append.mp hz with w | w
      · exact bx z w
      · rw [List.mem_singleton.mp w]
        exact bq
/-! ### data that can be shown and compared -/
theorem bi_log {k : Nat} {i : Int} (h : bi k i) (l : k < 1920) : i.natAbs.log2 < 1920 := by
  by_cases z : i.natAbs = 0
  · rw [z]
    decide
  · have h : i.natAbs ≤ 2 ^ k := h
    have : i.natAbs < 2 ^ (k + 1) := Nat.lt_of_le_of_lt h (Nat.pow_lt_pow_right (by decide) (by omega))
    have := (Nat.log2_lt z).mpr this
    omega
theorem okD_dq {k : Nat} {q : Rat} (h : bz k q) (l : k < 1920) : okD (dq q) := by
  unfold dq
  simp only [okD, oks]
  exact ⟨bi_log h.1 l, bi_log h.2 l, trivial⟩
theorem depD_dq (q : Rat) : depD (dq q) = 1 := rfl
theorem costD_dq (q : Rat) : costD (dq q) ≤ 4010 := by
  unfold dq
  simp only [costD, costs]
  decide
theorem okD_dr {k : Nat} {r : Rw} (h : rok k r) (l : k < 1920) : okD (dr r) := by
  unfold dr
  simp only [okD]
  exact oks_map fun q hq => okD_dq (h q hq) l
theorem depD_dr (r : Rw) : depD (dr r) ≤ 2 := by
  unfold dr
  simp only [depD]
  have := deps_map (f := dq) (n := 1) (l := r) fun q _ => Nat.le_of_eq (depD_dq q)
  omega
theorem costD_dr {r : Rw} (h : r.length ≤ 8) : costD (dr r) ≤ 32120 := by
  unfold dr
  simp only [costD]
  have := costs_map (f := dq) (n := 4010) (l := r) fun q _ => costD_dq q
  have : r.length * (4010 + 2) ≤ 8 * 4012 := Nat.mul_le_mul_right _ h
  omega
theorem okD_dm {k : Nat} {M : Mx} (h : mok k M) (l : k < 1920) : okD (dm M) := by
  unfold dm
  simp only [okD]
  exact oks_map fun r hr => okD_dr (h r hr) l
theorem depD_dm (M : Mx) : depD (dm M) ≤ 3 := by
  unfold dm
  simp only [depD]
  have := deps_map (f := dr) (n := 2) (l := M) fun r _ => depD_dr r
  omega
theorem costD_dm {h w : Nat} {M : Mx} (sh : Shp h w M) (h8 : h ≤ 9) (w8 : w ≤ 8) : costD (dm M) ≤ 290000 := by
  unfold dm
  simp only [costD]
  have := costs_map (f := dr) (n := 32120) (l := M) fun r hr => costD_dr (by rw [sh.w r hr]; exact w8)
  have : M.length * (32120 + 2) ≤ 9 * 32122 := Nat.mul_le_mul_right _ (by rw [sh.h]; exact h8)
  omega
theorem eq_dm {k : Nat} {M : Mx} (h : mok k M) (l : k < 1920) (ρ : DEnv) (θ : Pot) (Q : Dt → Pot → Prop) : Gv (opt (gEq (dm M) (dm M)) ρ θ) Q = Q (.bl true) θ := gEq_refl (okD_dm h l) (by have := depD_dm M; omega)
/-! ### products by place -/
theorem dotP_sm : ∀ (n : Nat) (r s : Rw), r.length = n → s.length = n → dotP (r.zip s) = sm n fun k => r.getD k 0 * s.getD k 0
  | 0, r, s, hr, hs => by
    rw [List.length_eq_zero_iff.mp hr]
    rfl
  | n + 1, r, s, hr, hs => by
    have e : ∀ (m : Nat) (f : Nat → Rat), sm (m + 1) f = f 0 + sm m fun k => f (k + 1) := fun m f => by
      induction m with
      | zero => show (0 : Rat) + f 0 = f 0 + 0; grind
      | succ m ih =>
        show sm (m + 1) f + f (m + 1) = f 0 + (sm m (fun k => f (k + 1)) + f (m + 1))
        rw [ih]
        grind
    match r, s, hr, hs with
    | a :: r, b :: s, hr, hs =>
      have ih := dotP_sm n r s (by simpa using hr) (by simpa using hs)
      rw [e]
      show a * b + dotP (r.zip s) = a * b + sm n fun k => r.getD k 0 * s.getD k 0
      rw [ih]
theorem dotQ_sm {n : Nat} {r s : Rw} (hr : r.length = n) (hs : s.length = n) : dotQ r s = sm n fun k => r.getD k 0 * s.getD k 0 := dotP_sm n r s hr hs
theorem dotP_bz {a b : Nat} : ∀ (l : List (Rat × Rat)), (∀ p ∈ l, bz a p.1 ∧ bz b p.2) → bz (l.length * (a + b + 1)) (dotP l)
  | [], _ => bz.zero
  | p :: l, h => by
    have h1 := h p List.mem_cons_self
    have h2 := dotP_bz l fun q hq => h q (List.mem_cons_of_mem _ hq)
    show bz ((l.length + 1) * (a + b + 1)) (p.1 * p.2 + dotP l)
    rw [Nat.succ_mul]
    exact ((h1.1.mul h1.2).add h2).mono (by omega)
theorem dotQ_bz {a b n : Nat} {r s : Rw} (hr : rok a r) (hs : rok b s) (l : r.length ≤ n) : bz (n * (a + b + 1)) (dotQ r s) := by
  refine (dotP_bz (r.zip s) fun p hp => ⟨hr _ (List.of_mem_zip hp).1, hs _ (List.of_mem_zip hp).2⟩).mono ?_
  exact Nat.mul_le_mul_right _ (by rw [List.length_zip]; omega)
theorem ent_cols {h w : Nat} {M : Mx} (sh : Shp h w M) {i j : Nat} (hi : i < w) (hj : j < h) : ent (colsQ w M) i j = ent M j i := by
  have lb : j < M.length := by rw [sh.h]; exact hj
  unfold ent colsQ
  simp [List.getD_eq_getElem?_getD, hi, lb]
theorem ent_prod {h w k : Nat} {A B : Mx} (sA : Shp h w A) (sB : Shp w k B) {i j : Nat} (hi : i < h) (hj : j < k) : ent (prodQ A (colsQ k B)) i j = sm w fun l => ent A i l * ent B l j := by
  have la : i < A.length := by rw [sA.h]; exact hi
  have sC := cols_shp sB
  have lc : j < (colsQ k B).length := by rw [sC.h]; exact hj
  have e : ent (prodQ A (colsQ k B)) i j = dotQ (A.getD i []) ((colsQ k B).getD j []) := by
    unfold prodQ
    show (((A.map fun r => (colsQ k B).map fun c => dotQ r c).getD i []).getD j 0) = _
    generalize colsQ k B = C at *
    simp [List.getD_eq_getElem?_getD, la, lc]
  rw [e, dotQ_sm (getD_row sA hi).2 (getD_row sC hj).2]
  refine sm_congr w fun l hl => ?_
  show ent A i l * ent (colsQ k B) j l = _
  rw [ent_cols sB hj hl]
theorem prod_mok {a b h w k : Nat} {A B : Mx} (sA : Shp h w A) (sB : Shp w k B) (ha : mok a A) (hb : mok b B) : mok (w * (a + b + 1)) (prodQ A (colsQ k B)) := by
  intro r hr q hq
  obtain ⟨s, hs, rfl⟩ := List.mem_map.mp hr
  obtain ⟨c, hc, rfl⟩ := List.mem_map.mp hq
  exact dotQ_bz (ha s hs) (cols_mok sB hb c hc) (by rw [sA.w s hs]; exact Nat.le_refl _)
theorem led_getD {h w : Nat} {A : Mx} {s : Rw} (sA : Shp h w A) (ls : s.length = w) {i : Nat} (hi : i < h) : (A.map fun r => dotQ r s).getD i 0 = sm w fun l => ent A i l * s.getD l 0 := by
  have la : i < A.length := by rw [sA.h]; exact hi
  have e : (A.map fun r => dotQ r s).getD i 0 = dotQ (A.getD i []) s := by
    simp [List.getD_eq_getElem?_getD, la]
  rw [e, dotQ_sm (getD_row sA hi).2 ls]
  rfl
theorem rw_ext {n : Nat} {r s : Rw} (hr : r.length = n) (hs : s.length = n) (e : ∀ i, i < n → r.getD i 0 = s.getD i 0) : r = s := by
  refine List.ext_getElem (by omega) fun i h1 h2 => ?_
  have := e i (by omega)
  simpa [List.getD_eq_getElem?_getD, h1, h2] using this
theorem led_assoc {h w k : Nat} {A B : Mx} {s : Rw} (sA : Shp h w A) (sB : Shp w k B) (ls : s.length = k) : ((prodQ A (colsQ k B)).map fun r => dotQ r s) = A.map fun r => dotQ r (B.map fun r => dotQ r s) := by
  have sP := prod_shp sA (cols_shp sB)
  have lB : (B.map fun r => dotQ r s).length = w := by rw [List.length_map, sB.h]
  refine rw_ext (n := h) (by rw [List.length_map, sP.h]) (by rw [List.length_map, sA.h]) fun i hi => ?_
  rw [led_getD sP ls hi, led_getD sA lB hi]
  rw [sm_congr k fun l hl => by rw [ent_prod sA sB hi hl]]
  rw [sm_congr w fun l hl => by rw [led_getD sB ls hl]]
  exact (sm_assoc (ent A) (ent B) (fun l _ => s.getD l 0) w k i 0).symm
theorem unit_mok (n c : Nat) : mok c (unitQ n) := by
  refine mok_of_ent (unitQ_shp n) fun i hi j hj => ?_
  rw [ent_unit hi hj]
  unfold dlt
  split
  · exact bz.one
  · exact bz.zero
end Tc


namespace Tc
open PySem PySem.Spec Pd
theorem repr2 {a b h w k l : Nat} {A B : Mx} (sA : Shp h w A) (sB : Shp k l B) (h8 : h ≤ 8) (w8 : w ≤ 8) (k8 : k ≤ 8) (l8 : l ≤ 8) (ha : mok a A) (hb : mok b B) (la : a < 1920) (lb : b < 1920) : ∃ s, ∀ (ρ : DEnv) (θ : Pot) (Q : Dt → Pot → Prop), Gv (opt (gRepr [.lst [dm A, dm B]]) ρ θ) Q = Q (.str s) θ := by
  have c1 := costD_dm sA (by omega) w8
  have c2 := costD_dm sB (by omega) l8
  have d1 := depD_dm A
  have d2 := depD_dm B
  refine repr_ok ?_ ?_ ?_
  · simp only [okD, oks]
    exact ⟨okD_dm ha la, okD_dm hb lb, trivial⟩
  · simp only [depD, deps]
    omega
  · simp only [costD, costs]
    omega
end Tc


namespace Tc
open PySem PySem.Spec Pd
theorem minN_bz {n h a b : Nat} {M : Mx} (h1 : 1 ≤ n) (h3 : n ≤ 3) (sh : Shp n n M) (hh : h < n) (ha : a < n) (m : mok b M) : bz (bitD b) (minN n (ent M) h a) := by
  by_cases c : n = 1
  · subst c
    exact bz.one
  · obtain ⟨k, rfl⟩ : ∃ k, n = k + 2 := ⟨n - 2, by omega⟩
    exact min_bz sh hh ha h3 m
theorem bz_div {a b : Nat} {x y : Rat} (hx : bz a x) (hy : bz b y) (nz : y ≠ 0) : bz (a + b) (x / y) := by
  have e : x / y = x * (1 / y) := by grind
  rw [e]
  exact hx.mul (hy.inv nz)
theorem inv_mok {n b : Nat} {M : Mx} (h1 : 1 ≤ n) (h3 : n ≤ 3) (sh : Shp n n M) (m : mok b M) (nz : detN n (ent M) ≠ 0) : mok (bitD b + bitD b) (mxOf n (invN n (ent M))) := by
  refine mok_of_ent (mxOf_shp _ _) fun i hi j hj => ?_
  rw [ent_mxOf _ hi hj]
  unfold invN
  have bm := minN_bz h1 h3 sh hj hi m
  have bd := det_bz h1 h3 fun i hi j hj => mok_ent sh m hi hj
  have bs : bz (bitD b) (sgN i j * minN n (ent M) j i) := by
    unfold sgN
    split
    · rw [Rat.one_mul]; exact bm
    · have : (-1 : Rat) * minN n (ent M) j i = - minN n (ent M) j i := by grind
      rw [this]
      exact bm.neg
  exact bz_div bs bd nz
theorem inv_prod {n : Nat} {M : Mx} (h1 : 1 ≤ n) (h3 : n ≤ 3) (sh : Shp n n M) (nz : detN n (ent M) ≠ 0) : prodQ (mxOf n (invN n (ent M))) (colsQ n M) = unitQ n := by
  have s2 := mxOf_shp n (invN n (ent M))
  refine mx_ext (prod_shp s2 (cols_shp sh)) (unitQ_shp n) fun i hi j hj => ?_
  rw [ent_prod s2 sh hi hj, ent_unit hi hj, ← inv_left h1 h3 nz i hi j hj]
  exact sm_congr n fun k hk => by rw [ent_mxOf _ hi hk]
theorem unit_det {n : Nat} (h1 : 1 ≤ n) (h3 : n ≤ 3) : detN n (ent (unitQ n)) = 1 := det_unit h1 h3 fun i hi j hj => ent_unit hi hj
theorem law_detD {θ : Pot} {M : Mx} {n b : Nat} {d0 : Dt} {Q : Ret → Pot → Prop} (ed : d0 = dm M) (sh : Shp n n M) (h1 : 1 ≤ n) (h3 : n ≤ 3) (m : mok b M) (lb : b ≤ 40) (q : Q (.d (dq (detN n (ent M)))) θ) : Gv (m__law_det 12 [.dat d0] θ) Q := by
  subst ed
  exact law_det_ok (k := 9) sh h1 h3 m lb q
end Tc


namespace Tc
open PySem PySem.Spec Pd
/-! ### the unit of eight rows -/
end Tc


namespace Tc
open PySem PySem.Spec Pd
/-! ### any plain value -/
mutual
def Pl : Dt → Prop
  | .int i => bi 64 i
  | .str s => PyData.strOk s = true ∧ (reprText s).length ≤ 100
  | .lst l => Pls l
  | .tup l => Pls l
  | .raw _ => False
  | _ => True
def Pls : List Dt → Prop
  | [] => True
  | d :: ds => Pl d ∧ Pls ds
end
mutual
def siz : Dt → Nat
  | .lst l => sizs l + 1
  | .tup l => sizs l + 1
  | _ => 1
def sizs : List Dt → Nat
  | [] => 0
  | d :: ds => siz d + sizs ds
end
mutual
theorem Pl_ok : ∀ {d : Dt}, Pl d → okD d
  | .non, _ => by simp only [okD]
  | .bl _, _ => by simp only [okD]
  | .int i, h => by
    simp only [Pl] at h
    simp only [okD]
    exact bi_log h (by omega)
  | .str s, h => by
    simp only [Pl] at h
    simp only [okD]
    exact h.1
  | .lst l, h => by
    simp only [Pl] at h
    simp only [okD]
    exact Pls_ok h
  | .tup l, h => by
    simp only [Pl] at h
    simp only [okD]
    exact Pls_ok h
  | .raw _, h => by simp only [Pl] at h
theorem Pls_ok : ∀ {l : List Dt}, Pls l → oks l
  | [], _ => by simp only [oks]
  | d :: ds, h => by
    simp only [Pls] at h
    simp only [oks]
    exact ⟨Pl_ok h.1, Pls_ok h.2⟩
end
mutual
theorem Pl_cost : ∀ {d : Dt}, Pl d → costD d + 2 ≤ 2012 * siz d
  | .non, _ => by simp only [costD, siz]; omega
  | .bl _, _ => by simp only [costD, siz]; omega
  | .int i, h => by simp only [costD, siz]; omega
  | .str s, h => by
    simp only [Pl] at h
    simp only [costD, siz]
    omega
  | .lst l, h => by
    simp only [Pl] at h
    have := Pls_cost h
    simp only [costD, siz]
    omega
  | .tup l, h => by
    simp only [Pl] at h
    have := Pls_cost h
    simp only [costD, siz]
    omega
  | .raw _, h => by simp only [Pl] at h
theorem Pls_cost : ∀ {l : List Dt}, Pls l → costs l ≤ 2012 * sizs l
  | [], _ => by simp only [costs, sizs]; omega
  | d :: ds, h => by
    simp only [Pls] at h
    have := Pl_cost h.1
    have := Pls_cost h.2
    simp only [costs, sizs]
    omega
end
def okI : Dt → Bool
  | .int _ => true
  | _ => false
def okT : Dt → Bool
  | .tup _ => true
  | _ => false
def ratB : Dt → Bool
  | .tup [.int n, .int u] => decide (1 ≤ u) && decide (Int.gcd n u = 1)
  | _ => false
end Tc


namespace Tc
open PySem PySem.Spec Pd
def itemsD : Dt → List Dt
  | .tup l => l
  | _ => []
def okR (r : Dt) : Bool := okT r && (decide (1 ≤ (itemsD r).length) && decide ((itemsD r).length ≤ 8))
def rowB (r : Dt) : Bool := okR r && (itemsD r).all ratB
def firstD (l : List Dt) : Dt := l.headD .non
def okL (l : List Dt) (r : Dt) : Bool := okR r && decide ((itemsD r).length = (itemsD (firstD l)).length)
def matB (d : Dt) : Bool := okR d && ((itemsD d).all (okL (itemsD d)) && (itemsD d).all fun r => (itemsD r).all ratB)
end Tc


namespace Tc
open PySem PySem.Spec Pd
/-! ### bent values -/
theorem pick_mem {θ : Pot} {l : List Dt} {Q : Ret → Pot → Prop} (h : PotOk θ) (h0 : 0 < l.length) (h1 : l.length ≤ 100) (q : ∀ d ∈ l, ∀ θ', PotOk θ' → Q (.d d) θ') : Gv (m__law_pick [.pot, .dat (.lst l)] θ) Q := by
  unfold m__law_pick r__law_pick
  simp! [gv_lenL]
  refine (draw_spec h (by omega) (by omega)).imp ?_
  rintro _ θ1 ⟨i, rfl, i0, i1, hp⟩
  obtain ⟨k, rfl⟩ : ∃ k : Nat, i = (k : Nat) := ⟨i.toNat, by omega⟩
  have lk : k < l.length := by omega
  have g : gIx (.lst l) (.int (k : Nat)) = some l[k] := L2.atI_nat (j := k) (List.getElem?_eq_getElem lk)
  simp! [g]
  exact q _ (List.getElem_mem lk) θ1 hp
structure BentOk (v d : Dt) : Prop where
  p : Pl d
  dp : depD d ≤ depD v + 2
  s : siz d ≤ 2 * siz v + 12
end Tc


namespace Tc
open PySem PySem.Spec Pd
/-! ### intervals in grains; floors -/
abbrev I2 := Int × Int
def dv (a : I2) : Dt := .tup [.int a.1, .int a.2]
abbrev Bx := List I2
def db (b : Bx) : Dt := .tup (b.map dv)
theorem db_t (b : Bx) : db b = .tup (b.map dv) := rfl
theorem dv_t (a : I2) : dv a = .tup [.int a.1, .int a.2] := rfl
def fl (q : Rat) : Int := q.num / (q.den : Int)
def cl (q : Rat) : Int := -((-q.num) / (q.den : Int))
theorem fl_div {n u : Int} (hu : 0 < u) : fl ((n : Rat) / (u : Rat)) = n / u := by
  obtain ⟨e1, e2⟩ := num_den_of (n := n) (Int.ne_of_gt hu) _ rfl
  have g0 : 0 < Int.gcd n u := Int.gcd_pos_of_ne_zero_right n (Int.ne_of_gt hu)
  unfold fl
  rw [e1, e2, Int.sign_eq_one_of_pos hu, Int.one_mul]
  obtain ⟨a, ea⟩ := Int.gcd_dvd_left (a := n) (b := u)
  obtain ⟨b, eb⟩ := Int.gcd_dvd_right (a := n) (b := u)
  generalize Int.gcd n u = g at *
  have gp : (0 : Int) < (g : Int) := by omega
  have un : ((u.natAbs : Nat) : Int) = u := by omega
  rw [un, ea, eb, Int.mul_ediv_cancel_left _ (by omega), Int.mul_ediv_cancel_left _ (by omega), Int.mul_ediv_mul_of_pos _ _ gp]
theorem cl_div {n u : Int} (hu : 0 < u) : cl ((n : Rat) / (u : Rat)) = -((-n) / u) := by
  have e : cl ((n : Rat) / (u : Rat)) = - fl (-((n : Rat) / (u : Rat))) := rfl
  have e2 : -((n : Rat) / (u : Rat)) = ((-n : Int) : Rat) / (u : Rat) := by
    rw [Rat.intCast_neg]
    grind
  rw [e, e2, fl_div hu]
theorem mul_qv (q : Rat) (v : Int) : q * (v : Rat) = ((q.num * v : Int) : Rat) / ((q.den : Int) : Rat) := by
  have e := q_num_den q
  have h := cast_ne (den_ne q)
  rw [Rat.intCast_mul]
  grind
theorem fl_mul (q : Rat) (v : Int) : fl (q * (v : Rat)) = (q.num * v) / (q.den : Int) := by rw [mul_qv, fl_div (den_pos q)]
theorem cl_mul (q : Rat) (v : Int) : cl (q * (v : Rat)) = -((-(q.num * v)) / (q.den : Int)) := by rw [mul_qv, cl_div (den_pos q)]
def slo (q : Rat) (v : I2) : Int := fl (q * ((if 0 ≤ q.num then v.1 else v.2 : Int) : Rat))
def shi (q : Rat) (v : I2) : Int := cl (q * ((if 0 ≤ q.num then v.2 else v.1 : Int) : Rat))
theorem ediv_bd {x d B : Int} (hd : 1 ≤ d) (h1 : -B ≤ x) (h2 : x ≤ B) (hB : 0 ≤ B) : -B ≤ x / d ∧ x / d ≤ B := by
  constructor
  · rw [Int.le_ediv_iff_mul_le (by omega)]
    have : -B * d ≤ -B * 1 := by
      rw [Int.neg_mul, Int.neg_mul]
      have := Int.mul_le_mul_of_nonneg_left hd hB
      omega
    omega
  · by_cases c : 0 ≤ x
    · have := Int.ediv_le_self d c
      omega
    · have := Int.ediv_neg_of_neg_of_pos (show x < 0 by omega) (show 0 < d by omega)
      omega
def B60 : Int := 1152921504606846976
structure OkS (q : Rat) (v : I2) : Prop where
  le : v.1 ≤ v.2
  b1 : bi 50 v.1
  b2 : bi 50 v.2
  bq : bz 10 q
theorem prod_bd {q : Rat} {v : Int} (hq : bz 10 q) (hv : bi 50 v) : -B60 ≤ q.num * v ∧ q.num * v ≤ B60 := by
  have := hq.1.mul hv
  have h : (q.num * v).natAbs ≤ 2 ^ 60 := this
  unfold B60
  omega
theorem den1 (q : Rat) : 1 ≤ (q.den : Int) := den_pos q
theorem OkS.lo {q : Rat} {v : I2} (h : OkS q v) : -B60 ≤ slo q v ∧ slo q v ≤ B60 := by
  unfold slo
  rw [fl_mul]
  have h1 := prod_bd h.bq h.b1
  have h2 := prod_bd h.bq h.b2
  split
  · exact ediv_bd (den1 q) h1.1 h1.2 (by decide)
  · exact ediv_bd (den1 q) h2.1 h2.2 (by decide)
theorem OkS.hi {q : Rat} {v : I2} (h : OkS q v) : -B60 ≤ shi q v ∧ shi q v ≤ B60 := by
  unfold shi
  rw [cl_mul]
  have h1 := prod_bd h.bq h.b1
  have h2 := prod_bd h.bq h.b2
  split
  · have := ediv_bd (x := -(q.num * v.2)) (den1 q) (B := B60) (by omega) (by omega) (by decide)
    omega
  · have := ediv_bd (x := -(q.num * v.1)) (den1 q) (B := B60) (by omega) (by omega) (by decide)
    omega
theorem rd_ok {θ : Pot} {n u : Int} {k : Nat} {Q : Ret → Pot → Prop} (hu : 0 < u) (bu : bi k u) (hk : k < 8900) (q : Q (.d (.int (n / u))) θ) : Gv (m_rounded_down [.dat (.int n), .dat (.int u)] θ) Q := by
  unfold m_rounded_down r_rounded_down
  have n1 : ¬ u < 0 := by omega
  have nz : ¬ u = 0 := by omega
  have s := bu.small (by omega)
  simp! [n1, s, nz, hu]
  rw [fd_pos hu]
  exact q
theorem ru_ok {θ : Pot} {n u : Int} {k : Nat} {Q : Ret → Pot → Prop} (hu : 0 < u) (bu : bi k u) (hk : k < 8900) (q : Q (.d (.int (-((-n) / u)))) θ) : Gv (m_rounded_up [.dat (.int n), .dat (.int u)] θ) Q := by
  unfold m_rounded_up r_rounded_up
  simp! [Int.zero_sub]
  refine rd_ok hu bu hk ?_
  simp! [Int.zero_sub]
  exact q
theorem checked_ok {θ : Pot} {a b : Int} {Q : Ret → Pot → Prop} (h1 : -1180591620717411303424 ≤ a) (h2 : b ≤ 1180591620717411303424) (q : Q (.d (dv (a, b))) θ) : Gv (m_checked_ends [.dat (.int a), .dat (.int b)] θ) Q := by
  unfold m_checked_ends r_checked_ends
  have n1 : ¬ a < -1180591620717411303424 := by omega
  have n2 : ¬ b > 1180591620717411303424 := by omega
  simp! [Int.zero_sub, n1, n2]
  exact q
theorem scaled_ok {θ : Pot} {q : Rat} {v : I2} {Q : Ret → Pot → Prop} (h : OkS q v) (k : Q (.d (dv (slo q v, shi q v))) θ) : Gv (m_scaled_of [.dat (dv v), .dat (dq q)] θ) Q := by
  unfold m_scaled_of r_scaled_of
  have s1 := h.b1.small (by omega)
  have s2 := h.b2.small (by omega)
  have s3 := h.bq.1.small (by omega)
  have l1 := h.lo
  have l2 := h.hi
  have hB : B60 = 1152921504606846976 := rfl
  have e1 : slo q v = (if v.2 * q.num < v.1 * q.num then v.2 * q.num else v.1 * q.num) / (q.den : Int) := by
    unfold slo
    rw [fl_mul]
    have le := h.le
    by_cases c : 0 ≤ q.num
    · rw [if_pos c]
      have := Int.mul_le_mul_of_nonneg_right le c
      rw [if_neg (by omega), Int.mul_comm]
    · rw [if_neg c]
      have := Int.mul_le_mul_of_nonpos_right le (show q.num ≤ 0 by omega)
      by_cases d : v.2 * q.num < v.1 * q.num
      · rw [if_pos d, Int.mul_comm]
      · rw [if_neg d, show v.1 * q.num = v.2 * q.num by omega, Int.mul_comm]
  have e2 : shi q v = -((-(if v.2 * q.num > v.1 * q.num then v.2 * q.num else v.1 * q.num)) / (q.den : Int)) := by
    unfold shi
    rw [cl_mul]
    have le := h.le
    by_cases c : 0 ≤ q.num
    · rw [if_pos c]
      have := Int.mul_le_mul_of_nonneg_right le c
      by_cases d : v.2 * q.num > v.1 * q.num
      · rw [if_pos d, Int.mul_comm q.num]
      · rw [if_neg d, show v.1 * q.num = v.2 * q.num by omega, Int.mul_comm q.num]
    · rw [if_neg c]
      have := Int.mul_le_mul_of_nonpos_right le (show q.num ≤ 0 by omega)
      rw [if_neg (by omega), Int.mul_comm q.num]
  simp! [dv_t, gv_q0, gv_q1, s1, s2, s3]
  refine rd_ok (den_pos q) h.bq.2 (by omega) ?_
  simp! [gv_q1]
  refine ru_ok (den_pos q) h.bq.2 (by omega) ?_
  simp! [true_and]
  rw [← e1, ← e2]
  refine checked_ok (by omega) (by omega) ?_
  simp! [true_and]
  exact k
theorem plus_ok {θ : Pot} {a b : I2} {Q : Ret → Pot → Prop} (h1 : -1180591620717411303424 ≤ a.1 + b.1) (h2 : a.2 + b.2 ≤ 1180591620717411303424) (k : Q (.d (dv (a.1 + b.1, a.2 + b.2))) θ) : Gv (m_plus_of [.dat (dv a), .dat (dv b)] θ) Q := by
  unfold m_plus_of r_plus_of
  simp! [dv_t]
  refine checked_ok h1 h2 ?_
  simp! [true_and]
  exact k
/-- a middle: not great -/
structure OkA (q : Rat) : Prop where
  b : bz 44 q
  lo : -B60 ≤ fl (q * ((1099511627776 : Int) : Rat))
  hi : cl (q * ((1099511627776 : Int) : Rat)) ≤ B60
theorem around_ok {θ : Pot} {q : Rat} {Q : Ret → Pot → Prop} (h : OkA q) (k : Q (.d (dv (fl (q * ((1099511627776 : Int) : Rat)), cl (q * ((1099511627776 : Int) : Rat))))) θ) : Gv (m_around_of [.dat (dq q)] θ) Q := by
  unfold m_around_of r_around_of
  have s := h.b.1.small (by omega)
  have l1 := h.lo
  have l2 := h.hi
  have hB : B60 = 1152921504606846976 := rfl
  rw [fl_mul, cl_mul] at k
  rw [fl_mul] at l1
  rw [cl_mul] at l2
  simp! [gv_q0, gv_q1, s]
  refine rd_ok (den_pos q) h.b.2 (by omega) ?_
  simp! [gv_q1]
  refine ru_ok (den_pos q) h.b.2 (by omega) ?_
  simp! [true_and]
  refine checked_ok (by omega) (by omega) ?_
  simp! [true_and]
  exact k
/-! ### hulls -/
def hs : List (Rat × I2) → I2
  | [] => (0, 0)
  | p :: ps => (slo p.1 p.2 + (hs ps).1, shi p.1 p.2 + (hs ps).2)
def OkH (r : Rw) (b : Bx) : Prop := ∀ p ∈ r.zip b, OkS p.1 p.2
def hullQ (mid : Rw) (A : Mx) (b : Bx) : Bx := (mid.zip A).map fun p => (fl (p.1 * ((1099511627776 : Int) : Rat)) + (hs (p.2.zip b)).1, cl (p.1 * ((1099511627776 : Int) : Rat)) + (hs (p.2.zip b)).2)
theorem hs_bd : ∀ (l : List (Rat × I2)), (∀ p ∈ l, OkS p.1 p.2) → -(l.length * B60) ≤ (hs l).1 ∧ (hs l).1 ≤ l.length * B60 ∧ -(l.length * B60) ≤ (hs l).2 ∧ (hs l).2 ≤ l.length * B60
  | [], _ => by
    show -(((0 : Nat) : Int) * B60) ≤ 0 ∧ (0 : Int) ≤ ((0 : Nat) : Int) * B60 ∧ -(((0 : Nat) : Int) * B60) ≤ 0 ∧ (0 : Int) ≤ ((0 : Nat) : Int) * B60
    decide
  | p :: l, h => by
    have h1 := (h p List.mem_cons_self).lo
    have h2 := (h p List.mem_cons_self).hi
    have ih := hs_bd l fun q hq => h q (List.mem_cons_of_mem _ hq)
    have e : ((l.length + 1 : Nat) : Int) * B60 = l.length * B60 + B60 := by rw [Int.natCast_add, Int.add_mul]; rfl
    rw [List.length_cons, e]
    show -((l.length : Int) * B60 + B60) ≤ slo p.1 p.2 + (hs l).1 ∧ slo p.1 p.2 + (hs l).1 ≤ (l.length : Int) * B60 + B60 ∧ -((l.length : Int) * B60 + B60) ≤ shi p.1 p.2 + (hs l).2 ∧ shi p.1 p.2 + (hs l).2 ≤ (l.length : Int) * B60 + B60
    generalize (l.length : Int) * B60 = P at *
    omega
theorem row_loop {θ : Pot} {e0 e1 e2 e3 e4 e5 e6 e7 e8 : Option Ent} {Q : Out → Pot → Prop} (S : I2) (q : ∀ x y, Q (.next [e0, e1, e2, e3, e4, e5, e6, e7, e8, some (.dat (dv S)), x, y]) θ) (ps : List (Rat × I2)) : ∀ (n : Nat) (acc : I2) (x y : Option Ent), (∀ p ∈ ps, OkS p.1 p.2) → n + ps.length ≤ 3 → (-(n * B60) ≤ acc.1 ∧ acc.1 ≤ n * B60 ∧ -(n * B60) ≤ acc.2 ∧ acc.2 ≤ n * B60) → acc.1 + (hs ps).1 = S.1 → acc.2 + (hs ps).2 = S.2 →
    Gv (forGo (.t [10, 11]) (mSet 9 (mCallD m_plus_of [] [0, 1] (mECons (mVar 9) (mECons (mCallD m_scaled_of [] [0, 1] (mECons (mVar 11) (mECons (mVar 10) mENil)) mENil) mENil)) mENil)) (ps.map fun p => .tup [dq p.1, dv p.2]) [e0, e1, e2, e3, e4, e5, e6, e7, e8, some (.dat (dv acc)), x, y] θ) Q := by
  induction ps with
  | nil =>
    intro n acc x y _ _ _ s1 s2
    have e : acc = S := Prod.ext (by have : acc.1 + 0 = S.1 := s1; omega) (by have : acc.2 + 0 = S.2 := s2; omega)
    rw [e]
    exact q x y
  | cons p ps ih =>
    intro n acc x y h hn hb s1 s2
    have hp := h p List.mem_cons_self
    have l1 := hp.lo
    have l2 := hp.hi
    have hB : B60 = 1152921504606846976 := rfl
    rw [List.length_cons] at hn
    have n3 : n ≤ 2 := by omega
    have nB : (n : Int) * B60 ≤ 2 * B60 := Int.mul_le_mul_of_nonneg_right (by omega) (by decide)
    have e : ((n + 1 : Nat) : Int) * B60 = n * B60 + B60 := by rw [Int.natCast_add, Int.add_mul]; rfl
    rw [List.map_cons]
    simp! [bindT_2]
    refine scaled_ok hp ?_
    simp! [true_and]
    refine plus_ok (by show -1180591620717411303424 ≤ acc.1 + slo p.1 p.2; omega) (by show acc.2 + shi p.1 p.2 ≤ 1180591620717411303424; omega) ?_
    simp! [true_and]
    refine ih (n + 1) (acc.1 + slo p.1 p.2, acc.2 + shi p.1 p.2) _ _ (fun r hr => h r (List.mem_cons_of_mem _ hr)) (by omega) ?_ ?_ ?_
    · rw [e]
      show -((n : Int) * B60 + B60) ≤ acc.1 + slo p.1 p.2 ∧ acc.1 + slo p.1 p.2 ≤ (n : Int) * B60 + B60 ∧ -((n : Int) * B60 + B60) ≤ acc.2 + shi p.1 p.2 ∧ acc.2 + shi p.1 p.2 ≤ (n : Int) * B60 + B60
      omega
    · show acc.1 + slo p.1 p.2 + (hs ps).1 = S.1
      have s1 : acc.1 + (slo p.1 p.2 + (hs ps).1) = S.1 := s1
      omega
    · show acc.2 + shi p.1 p.2 + (hs ps).2 = S.2
      have s2 : acc.2 + (shi p.1 p.2 + (hs ps).2) = S.2 := s2
      omega
end Tc


namespace Tc
open PySem PySem.Spec Pd
def ds (mid : Rw) (A : Mx) (b : Bx) : Dt := .tup [.str "set", dr mid, dm A, db b]
theorem ds_t (mid : Rw) (A : Mx) (b : Bx) : ds mid A b = .tup [.str "set", dr mid, dm A, db b] := rfl
theorem bindT_4 {ρ : DEnv} (i j k l : Nat) (x y z w : Dt) : bindT (.t [i, j, k, l]) (.tup [x, y, z, w]) ρ = some ((((ρ.set i (some (.dat x))).set j (some (.dat y))).set k (some (.dat z))).set l (some (.dat w))) := rfl
theorem map_snoc {α β : Type} (f : α → β) (l : List α) (x : α) : l.map f ++ [f x] = (l ++ [x]).map f := by rw [List.map_append]; rfl
theorem own1 {a : Option Ent} {L L' : List Dt} {t : DEnv} (h : L = L') : (a :: some (.own L) :: t : DEnv) = a :: some (.own L') :: t := by rw [h]
theorem own5 {a b c d e : Option Ent} {L L' : List Dt} {t : DEnv} (h : L = L') : (a :: b :: c :: d :: e :: some (.own L) :: t : DEnv) = a :: b :: c :: d :: e :: some (.own L') :: t := by rw [h]
structure OkSet (n : Nat) (mid : Rw) (A : Mx) (b : Bx) : Prop where
  n1 : 1 ≤ n
  n3 : n ≤ 3
  lm : mid.length = n
  sA : Shp n n A
  lb : b.length = n
  mA : ∀ q ∈ mid, OkA q
  rS : ∀ r ∈ A, OkH r b
theorem set_hull_of_ok {n : Nat} {mid : Rw} {A : Mx} {b : Bx} {θ : Pot} {Q : Ret → Pot → Prop} (h : OkSet n mid A b) (q : Q (.d (db (hullQ mid A b))) θ) : Gv (m_set_hull_of [.dat (ds mid A b)] θ) Q := by
  unfold m_set_hull_of r_set_hull_of
  have hB : B60 = 1152921504606846976 := rfl
  simp! [ds_t, bindT_4, dr_t, dm_t, pairs_map]
  refine gv_for_inv (fun l ρ θ' => ∃ (ps : List (Rat × Rw)) (acc : Bx) (x6 x7 x8 x9 x10 x11 : Option Ent), l = ps.map (fun p => .tup [dq p.1, dr p.2]) ∧ (∀ p ∈ ps, OkA p.1 ∧ OkH p.2 b ∧ p.2.length = n) ∧ acc.length + ps.length ≤ 3 ∧ acc ++ ps.map (fun p => (fl (p.1 * ((1099511627776 : Int) : Rat)) + (hs (p.2.zip b)).1, cl (p.1 * ((1099511627776 : Int) : Rat)) + (hs (p.2.zip b)).2)) = hullQ mid A b ∧ ρ = [some (.dat (.tup [.str "set", .tup (mid.map dq), .tup (A.map dr), db b])), some (.dat (.str "set")), some (.dat (.tup (mid.map dq))), some (.dat (.tup (A.map dr))), some (.dat (db b)), some (.own (acc.map dv)), x6, x7, x8, x9, x10, x11] ∧ θ' = θ) ?_ ?_ _ _ _ ⟨mid.zip A, [], none, none, none, none, none, none, rfl, fun p hp => ⟨h.mA _ (List.of_mem_zip hp).1, h.rS _ (List.of_mem_zip hp).2, h.sA.w _ (List.of_mem_zip hp).2⟩, ?_, rfl, rfl, rfl⟩
  · rintro ρ θ1 ⟨ps, acc, x6, x7, x8, x9, x10, x11, e, _, _, ea, rfl, rfl⟩
    cases ps with
    | cons _ _ => cases e
    | nil =>
      rw [List.map_nil, List.append_nil] at ea
      rw [← ea] at q
      simp! [true_and]
      exact q
  · rintro d dd ρ θ1 ⟨ps, acc, x6, x7, x8, x9, x10, x11, e, hp, hl, ea, rfl, rfl⟩
    cases ps with
    | nil => cases e
    | cons p ps =>
      rw [List.map_cons] at e
      obtain ⟨rfl, rfl⟩ := List.cons.inj e
      obtain ⟨h1, h2, h3⟩ := hp p List.mem_cons_self
      have hp' : ∀ p ∈ ps, OkA p.1 ∧ OkH p.2 b ∧ p.2.length = n := fun x hx => hp x (List.mem_cons_of_mem _ hx)
      rw [List.length_cons] at hl
      have zl : (p.2.zip b).length ≤ 3 := by
        have := h.n3
        rw [List.length_zip]
        omega
      have hb := hs_bd (p.2.zip b) h2
      have zB : ((p.2.zip b).length : Int) * B60 ≤ 3 * B60 := Int.mul_le_mul_of_nonneg_right (by omega) (by decide)
      have g1 := h1.lo
      have g2 := h1.hi
      refine ⟨_, bindT_2 6 7 _ _, ?_⟩
      simp! [true_and]
      refine around_ok h1 ?_
      have ze : Dt.tup [.int 0, .int 0] = dv (0, 0) := rfl
      simp! [ze, dr_t, db_t, pairs_map]
      refine row_loop (hs (p.2.zip b)) (fun x y => ?_) (p.2.zip b) 0 (0, 0) _ _ h2 (by omega) (by decide) (by show (0 : Int) + _ = _; omega) (by show (0 : Int) + _ = _; omega)
      simp! [true_and]
      refine plus_ok (by show -1180591620717411303424 ≤ fl _ + (hs _).1; omega) (by show cl _ + (hs _).2 ≤ 1180591620717411303424; omega) ?_
      have lb : acc.length < bigL := Nat.lt_of_le_of_lt (show _ ≤ 3 by omega) (by decide)
      simp! [List.length_map, lb]
      refine ⟨ps, acc ++ [(fl (p.1 * ((1099511627776 : Int) : Rat)) + (hs (p.2.zip b)).1, cl (p.1 * ((1099511627776 : Int) : Rat)) + (hs (p.2.zip b)).2)], _, _, _, _, _, _, rfl, hp', by rw [List.length_append]; simp only [List.length_cons, List.length_nil]; omega, by rw [List.append_assoc]; exact ea, own5 (map_snoc dv acc _)⟩
  · have := h.n3
    have := h.lm
    rw [List.length_zip]
    simp only [List.length_nil]
    omega
theorem law_floor_ok {θ : Pot} {q : Rat} {k : Nat} {Q : Ret → Pot → Prop} (h : bz k q) (hk : k < 8900) (c : Q (.d (.int (fl q))) θ) : Gv (m__law_floor [.dat (dq q)] θ) Q := by
  unfold m__law_floor r__law_floor
  have s := h.2.small (by omega)
  have z : ¬ ((q.den : Nat) : Int) = 0 := den_ne q
  simp! [gv_q0, gv_q1, s, z]
  rw [fd_pos (den_pos q)]
  exact c
theorem law_ceiling_ok {θ : Pot} {q : Rat} {k : Nat} {Q : Ret → Pot → Prop} (h : bz k q) (hk : k < 8900) (c : Q (.d (.int (cl q))) θ) : Gv (m__law_ceiling [.dat (dq q)] θ) Q := by
  unfold m__law_ceiling r__law_ceiling
  have s := h.2.small (by omega)
  have z : ¬ ((q.den : Nat) : Int) = 0 := den_ne q
  simp! [gv_q0, gv_q1, s, z, Int.zero_sub]
  rw [fd_pos (den_pos q)]
  exact c
theorem law_one_ok {θ : Pot} {Q : Ret → Pot → Prop} (q : Q (.d (.int 1099511627776)) θ) : Gv (m__law_one [] θ) Q := q
theorem law_row_loop {θ : Pot} {e0 e1 e2 e3 e4 : Option Ent} {Q : Out → Pot → Prop} (S : I2) (q : ∀ x7 x8 x9 x10, Q (.next [e0, e1, e2, e3, e4, some (.dat (.int S.1)), some (.dat (.int S.2)), x7, x8, x9, x10]) θ) (ps : List (Rat × I2)) : ∀ (acc : I2) (x7 x8 x9 x10 : Option Ent), (∀ p ∈ ps, OkS p.1 p.2) → acc.1 + (hs ps).1 = S.1 → acc.2 + (hs ps).2 = S.2 →
    Gv (forGo (.m [.n 7, .t [8, 9]]) (mSeq (mSet 10 (mLst (mCons (mCallD m__law_times [] [0, 1] (mECons (mVar 7) (mECons (mTup (mCons (mVar 8) (mCons (ret (.int 1)) mNil))) mENil)) mENil) (mCons (mCallD m__law_times [] [0, 1] (mECons (mVar 7) (mECons (mTup (mCons (mVar 9) (mCons (ret (.int 1)) mNil))) mENil)) mENil) mNil))))
 (mSeq (mSet 10 (mIte (mBool (mOp gGe (mOp gIx (mVar 7) (ret (.int 0))) (ret (.int 0)))) (mVar 10) (mRev (mVar 10))))
 (mPar [5, 6] (mCons (mOp gAdd2 (mVar 5) (mCallD m__law_floor [] [0] (mECons (mOp gIx (mVar 10) (ret (.int 0))) mENil) mENil)) (mCons (mOp gAdd2 (mVar 6) (mCallD m__law_ceiling [] [0] (mECons (mOp gIx (mVar 10) (ret (.int 1))) mENil) mENil)) mNil))))) (ps.map fun p => .tup [dq p.1, dv p.2]) [e0, e1, e2, e3, e4, some (.dat (.int acc.1)), some (.dat (.int acc.2)), x7, x8, x9, x10] θ) Q := by
  induction ps with
  | nil =>
    intro acc x7 x8 x9 x10 _ s1 s2
    have e1 : acc.1 = S.1 := by have : acc.1 + 0 = S.1 := s1; omega
    have e2 : acc.2 = S.2 := by have : acc.2 + 0 = S.2 := s2; omega
    rw [e1, e2]
    exact q x7 x8 x9 x10
  | cons p ps ih =>
    intro acc x7 x8 x9 x10 h s1 s2
    have hp := h p List.mem_cons_self
    have b1 : bz 60 (p.1 * (p.2.1 : Rat)) := hp.bq.mul (bz_int hp.b1)
    have b2 : bz 60 (p.1 * (p.2.2 : Rat)) := hp.bq.mul (bz_int hp.b2)
    have i0 : ∀ (x y : Dt) (ρ : DEnv) (θ : Pot) (Q : Dt → Pot → Prop), Gv (opt (gIx (.lst [x, y]) (.int 0)) ρ θ) Q = Q x θ := fun x y ρ θ Q => by
      have e : gIx (.lst [x, y]) (.int 0) = some x := L2.atI_nat (j := 0) rfl
      rw [e, gv_opt]
    have i1 : ∀ (x y : Dt) (ρ : DEnv) (θ : Pot) (Q : Dt → Pot → Prop), Gv (opt (gIx (.lst [x, y]) (.int 1)) ρ θ) Q = Q y θ := fun x y ρ θ Q => by
      have e : gIx (.lst [x, y]) (.int 1) = some y := L2.atI_nat (j := 1) rfl
      rw [e, gv_opt]
    have t1 : Dt.tup [.int p.2.1, .int 1] = dq (p.2.1 : Rat) := rfl
    have t2 : Dt.tup [.int p.2.2, .int 1] = dq (p.2.2 : Rat) := rfl
    rw [List.map_cons]
    have bb : ∀ ρ, bindT (.m [.n 7, .t [8, 9]]) (.tup [dq p.1, dv p.2]) ρ = some (((ρ.set 7 (some (.dat (dq p.1)))).set 8 (some (.dat (.int p.2.1)))).set 9 (some (.dat (.int p.2.2)))) := fun ρ => rfl
    simp! [bb, t1, t2]
    refine law_times_ok hp.bq (bz_int hp.b1) (by omega) ?_
    simp! [t2]
    refine law_times_ok hp.bq (bz_int hp.b2) (by omega) ?_
    simp! [gv_q0]
    by_cases c : 0 ≤ p.1.num
    · have c' : p.1.num ≥ 0 := c
      simp! [c', i0, i1]
      refine law_floor_ok b1 (by omega) ?_
      simp! [i0, i1]
      refine law_ceiling_ok b2 (by omega) ?_
      simp! [true_and]
      have e1 : slo p.1 p.2 = fl (p.1 * (p.2.1 : Rat)) := by unfold slo; rw [if_pos c]
      have e2 : shi p.1 p.2 = cl (p.1 * (p.2.2 : Rat)) := by unfold shi; rw [if_pos c]
      rw [← e1, ← e2]
      refine ih (acc.1 + slo p.1 p.2, acc.2 + shi p.1 p.2) _ _ _ _ (fun r hr => h r (List.mem_cons_of_mem _ hr)) ?_ ?_
      · show acc.1 + slo p.1 p.2 + (hs ps).1 = S.1
        have s1 : acc.1 + (slo p.1 p.2 + (hs ps).1) = S.1 := s1
        omega
      · show acc.2 + shi p.1 p.2 + (hs ps).2 = S.2
        have s2 : acc.2 + (shi p.1 p.2 + (hs ps).2) = S.2 := s2
        omega
    · have c' : ¬ p.1.num ≥ 0 := c
      simp! [c', i0, i1]
      refine law_floor_ok b2 (by omega) ?_
      simp! [i0, i1]
      refine law_ceiling_ok b1 (by omega) ?_
      simp! [true_and]
      have e1 : slo p.1 p.2 = fl (p.1 * (p.2.2 : Rat)) := by unfold slo; rw [if_neg c]
      have e2 : shi p.1 p.2 = cl (p.1 * (p.2.1 : Rat)) := by unfold shi; rw [if_neg c]
      rw [← e1, ← e2]
      refine ih (acc.1 + slo p.1 p.2, acc.2 + shi p.1 p.2) _ _ _ _ (fun r hr => h r (List.mem_cons_of_mem _ hr)) ?_ ?_
      · show acc.1 + slo p.1 p.2 + (hs ps).1 = S.1
        have s1 : acc.1 + (slo p.1 p.2 + (hs ps).1) = S.1 := s1
        omega
      · show acc.2 + shi p.1 p.2 + (hs ps).2 = S.2
        have s2 : acc.2 + (shi p.1 p.2 + (hs ps).2) = S.2 := s2
        omega
theorem law_hull_ok {n : Nat} {mid : Rw} {A : Mx} {b : Bx} {θ : Pot} {Q : Ret → Pot → Prop} (h : OkSet n mid A b) (q : Q (.d (db (hullQ mid A b))) θ) : Gv (m__law_hull [.dat (ds mid A b)] θ) Q := by
  unfold m__law_hull r__law_hull
  have g1 : ∀ (ρ : DEnv) (θ : Pot) (Q : Dt → Pot → Prop), Gv (opt (gIx (ds mid A b) (.int 1)) ρ θ) Q = Q (.tup (mid.map dq)) θ := fun ρ θ Q => by rw [ds_t, gv_ix1, dr_t]
  have g2 : ∀ (ρ : DEnv) (θ : Pot) (Q : Dt → Pot → Prop), Gv (opt (gIx (ds mid A b) (.int 2)) ρ θ) Q = Q (.tup (A.map dr)) θ := fun ρ θ Q => by rw [ds_t, gv_ix2, dm_t]
  have g3 : ∀ (ρ : DEnv) (θ : Pot) (Q : Dt → Pot → Prop), Gv (opt (gIx (ds mid A b) (.int 3)) ρ θ) Q = Q (.tup (b.map dv)) θ := fun ρ θ Q => by
    have e : gIx (ds mid A b) (.int 3) = some (db b) := L2.atI_nat (j := 3) rfl
    rw [e, gv_opt, db_t]
  simp! [g1, g2, pairs_map]
  refine gv_for_inv (fun l ρ θ' => ∃ (ps : List (Rat × Rw)) (acc : Bx) (x2 x3 x4 x5 x6 x7 x8 x9 x10 : Option Ent), l = ps.map (fun p => .tup [dq p.1, dr p.2]) ∧ (∀ p ∈ ps, OkA p.1 ∧ OkH p.2 b ∧ p.2.length = n) ∧ acc.length + ps.length ≤ 3 ∧ acc ++ ps.map (fun p => (fl (p.1 * ((1099511627776 : Int) : Rat)) + (hs (p.2.zip b)).1, cl (p.1 * ((1099511627776 : Int) : Rat)) + (hs (p.2.zip b)).2)) = hullQ mid A b ∧ ρ = [some (.dat (ds mid A b)), some (.own (acc.map dv)), x2, x3, x4, x5, x6, x7, x8, x9, x10] ∧ θ' = θ) ?_ ?_ _ _ _ ⟨mid.zip A, [], none, none, none, none, none, none, none, none, none, rfl, fun p hp => ⟨h.mA _ (List.of_mem_zip hp).1, h.rS _ (List.of_mem_zip hp).2, h.sA.w _ (List.of_mem_zip hp).2⟩, ?_, rfl, rfl, rfl⟩
  · rintro ρ θ1 ⟨ps, acc, x2, x3, x4, x5, x6, x7, x8, x9, x10, e, _, _, ea, rfl, rfl⟩
    cases ps with
    | cons _ _ => cases e
    | nil =>
      rw [List.map_nil, List.append_nil] at ea
      rw [← ea] at q
      simp! [true_and]
      exact q
  · rintro d dd ρ θ1 ⟨ps, acc, x2, x3, x4, x5, x6, x7, x8, x9, x10, e, hp, hl, ea, rfl, rfl⟩
    cases ps with
    | nil => cases e
    | cons p ps =>
      rw [List.map_cons] at e
      obtain ⟨rfl, rfl⟩ := List.cons.inj e
      obtain ⟨h1, h2, h3⟩ := hp p List.mem_cons_self
      have hp' : ∀ p ∈ ps, OkA p.1 ∧ OkH p.2 b ∧ p.2.length = n := fun x hx => hp x (List.mem_cons_of_mem _ hx)
      rw [List.length_cons] at hl
      have bo : bz 41 ((1099511627776 : Int) : Rat) := bz_int (by decide)
      have eo : Dt.tup [.int 1099511627776, .int 1] = dq ((1099511627776 : Int) : Rat) := rfl
      have bw : bz 85 (p.1 * ((1099511627776 : Int) : Rat)) := h1.b.mul bo
      refine ⟨_, bindT_2 2 3 _ _, ?_⟩
      simp! [true_and]
      refine law_one_ok ?_
      simp! [eo]
      refine law_times_ok h1.b bo (by omega) ?_
      simp! [true_and]
      refine law_floor_ok bw (by omega) ?_
      simp! [true_and]
      refine law_ceiling_ok bw (by omega) ?_
      simp! [g3, dr_t, pairs_map]
      refine law_row_loop (fl (p.1 * ((1099511627776 : Int) : Rat)) + (hs (p.2.zip b)).1, cl (p.1 * ((1099511627776 : Int) : Rat)) + (hs (p.2.zip b)).2) (fun x7 x8 x9 x10 => ?_) (p.2.zip b) (fl (p.1 * ((1099511627776 : Int) : Rat)), cl (p.1 * ((1099511627776 : Int) : Rat))) _ _ _ _ h2 rfl rfl
      have lb : acc.length < bigL := Nat.lt_of_le_of_lt (show _ ≤ 3 by omega) (by decide)
      simp! [List.length_map, lb]
      refine ⟨ps, acc ++ [(fl (p.1 * ((1099511627776 : Int) : Rat)) + (hs (p.2.zip b)).1, cl (p.1 * ((1099511627776 : Int) : Rat)) + (hs (p.2.zip b)).2)], _, _, _, _, _, _, _, _, _, rfl, hp', by rw [List.length_append]; simp only [List.length_cons, List.length_nil]; omega, by rw [List.append_assoc]; exact ea, own1 (map_snoc dv acc (fl (p.1 * ((1099511627776 : Int) : Rat)) + (hs (p.2.zip b)).1, cl (p.1 * ((1099511627776 : Int) : Rat)) + (hs (p.2.zip b)).2))⟩
  · have := h.n3
    have := h.lm
    rw [List.length_zip]
    simp only [List.length_nil]
    omega
end Tc


namespace Tc
open PySem PySem.Spec Pd
/-! ### points -/
def addR (r s : Rw) : Rw := (r.zip s).map fun p => p.1 + p.2
def subR (r s : Rw) : Rw := (r.zip s).map fun p => p.1 - p.2
def ledR (A : Mx) (r : Rw) : Rw := A.map fun x => dotQ x r
theorem less_point_ok {θ : Pot} {r s : Rw} {a b : Nat} {Q : Ret → Pot → Prop} (hr : rok a r) (hs : rok b s) (hl : r.length ≤ 20) (l : a + b < 8900) (q : Q (.d (dr (subR r s))) θ) : Gv (m_less_point [.dat (dr r), .dat (dr s)] θ) Q := by
  unfold m_less_point r_less_point
  have lz : (r.zip s).length < bigL := Nat.lt_of_le_of_lt (by rw [List.length_zip]; omega) (show 20 < bigL by decide)
  simp! [dr_t, pairs_map, List.length_map, lz]
  refine cmap (g := fun p : Rat × Rat => .tup [dq p.1, dq p.2]) (f := fun p => dq (p.1 - p.2)) (r.zip s) (fun p hp => ?_) ?_
  · simp! [true_and]
    refine sub_ok (hr _ (List.of_mem_zip hp).1) (hs _ (List.of_mem_zip hp).2) (by omega) ?_
    simp! [true_and]
  · simp! [true_and]
    rw [dr_t, subR, mapC] at q
    exact q
theorem addR_bz {r s : Rw} {a b : Nat} (hr : rok a r) (hs : rok b s) : rok (a + b + 1) (addR r s) := fun q hq => by
  obtain ⟨p, hp, rfl⟩ := List.mem_map.mp hq
  exact (hr _ (List.of_mem_zip hp).1).add (hs _ (List.of_mem_zip hp).2)
theorem subR_bz {r s : Rw} {a b : Nat} (hr : rok a r) (hs : rok b s) : rok (a + b + 1) (subR r s) := fun q hq => by
  obtain ⟨p, hp, rfl⟩ := List.mem_map.mp hq
  exact (hr _ (List.of_mem_zip hp).1).sub (hs _ (List.of_mem_zip hp).2)
theorem addR_len {r s : Rw} {n : Nat} (hr : r.length = n) (hs : s.length = n) : (addR r s).length = n := by
  unfold addR
  rw [List.length_map, List.length_zip]
  omega
theorem subR_len {r s : Rw} {n : Nat} (hr : r.length = n) (hs : s.length = n) : (subR r s).length = n := by
  unfold subR
  rw [List.length_map, List.length_zip]
  omega
theorem ledR_len {n w : Nat} {A : Mx} (sA : Shp n w A) (r : Rw) : (ledR A r).length = n := by
  unfold ledR
  rw [List.length_map, sA.h]
theorem ledR_bz {n w a b : Nat} {A : Mx} {r : Rw} (sA : Shp n w A) (ha : mok a A) (hr : rok b r) (hw : w ≤ 3) : rok (3 * (a + b + 1)) (ledR A r) := fun q hq => by
  obtain ⟨x, hx, rfl⟩ := List.mem_map.mp hq
  exact dotQ_bz (ha x hx) hr (by rw [sA.w x hx]; exact hw)
theorem addR_getD {r s : Rw} {n : Nat} (hr : r.length = n) (hs : s.length = n) {i : Nat} (hi : i < n) : (addR r s).getD i 0 = r.getD i 0 + s.getD i 0 := by
  have h1 : i < r.length := by omega
  have h2 : i < s.length := by omega
  unfold addR
  rw [List.getD_eq_getElem?_getD, List.getD_eq_getElem?_getD, List.getD_eq_getElem?_getD, List.getElem?_map, show (r.zip s)[i]? = some (r[i], s[i]) from List.getElem?_zip_eq_some.mpr ⟨List.getElem?_eq_getElem h1, List.getElem?_eq_getElem h2⟩, List.getElem?_eq_getElem h1, List.getElem?_eq_getElem h2]
  rfl
theorem subR_getD {r s : Rw} {n : Nat} (hr : r.length = n) (hs : s.length = n) {i : Nat} (hi : i < n) : (subR r s).getD i 0 = r.getD i 0 - s.getD i 0 := by
  have h1 : i < r.length := by omega
  have h2 : i < s.length := by omega
  unfold subR
  rw [List.getD_eq_getElem?_getD, List.getD_eq_getElem?_getD, List.getD_eq_getElem?_getD, List.getElem?_map, show (r.zip s)[i]? = some (r[i], s[i]) from List.getElem?_zip_eq_some.mpr ⟨List.getElem?_eq_getElem h1, List.getElem?_eq_getElem h2⟩, List.getElem?_eq_getElem h1, List.getElem?_eq_getElem h2]
  rfl
theorem sub_add {r s : Rw} {n : Nat} (hr : r.length = n) (hs : s.length = n) : subR (addR r s) r = s := by
  have l1 := addR_len hr hs
  refine rw_ext (subR_len l1 hr) hs fun i hi => ?_
  rw [subR_getD l1 hr hi, addR_getD hr hs hi]
  grind
theorem led_led {n : Nat} {A B : Mx} {r : Rw} (sA : Shp n n A) (sB : Shp n n B) (lr : r.length = n) : ledR A (ledR B r) = ledR (prodQ A (colsQ n B)) r := (led_assoc sA sB lr).symm
theorem led_unit {n : Nat} {r : Rw} (lr : r.length = n) : ledR (unitQ n) r = r := by
  refine rw_ext (ledR_len (unitQ_shp n) r) lr fun i hi => ?_
  unfold ledR
  rw [led_getD (unitQ_shp n) lr hi, sm_congr n fun k hk => by rw [ent_unit hi hk]]
  exact sm_dlt_l (fun k => r.getD k 0) i n hi
theorem led_add {n : Nat} {A : Mx} {r s : Rw} (sA : Shp n n A) (lr : r.length = n) (ls : s.length = n) : ledR A (addR r s) = addR (ledR A r) (ledR A s) := by
  have l1 := addR_len lr ls
  refine rw_ext (ledR_len sA _) (addR_len (ledR_len sA _) (ledR_len sA _)) fun i hi => ?_
  rw [addR_getD (ledR_len sA _) (ledR_len sA _) hi]
  unfold ledR
  rw [led_getD sA l1 hi, led_getD sA lr hi, led_getD sA ls hi, ← sm_add]
  exact sm_congr n fun k hk => by rw [addR_getD lr ls hk]; grind
/-- the inverse led back -/
theorem led_back {n : Nat} {A : Mx} {r : Rw} (h1 : 1 ≤ n) (h3 : n ≤ 3) (sA : Shp n n A) (nz : detN n (ent A) ≠ 0) (lr : r.length = n) : ledR (mxOf n (invN n (ent A))) (ledR A r) = r := by
  rw [led_led (mxOf_shp _ _) sA lr, inv_prod h1 h3 sA nz, led_unit lr]
/-! ### within a box -/
def oneQ : Rat := ((1099511627776 : Int) : Rat)
def inB (v : I2) (q : Rat) : Bool := decide ((v.1 : Rat) ≤ q * oneQ) && decide (q * oneQ ≤ (v.2 : Rat))
def hasB (b : Bx) (r : Rw) : Bool := (r.zip b).all fun p => inB p.2 p.1
theorem cmp_lo (v : Int) (q : Rat) : (v * (q.den : Int) ≤ q.num * 1099511627776) ↔ ((v : Rat) ≤ q * oneQ) := by
  have e1 : qv (v, 1) = (v : Rat) := by unfold qv; simp only [Rat.intCast_one]; grind
  have e2 : qv (q.num * 1099511627776, (q.den : Int)) = q * oneQ := (mul_qv q 1099511627776).symm
  rw [← e1, ← e2, qv_le (by show (0 : Int) < 1; decide) (den_pos q)]
  show _ ↔ v * (q.den : Int) ≤ q.num * 1099511627776 * 1
  omega
theorem cmp_hi (v : Int) (q : Rat) : (q.num * 1099511627776 ≤ v * (q.den : Int)) ↔ (q * oneQ ≤ (v : Rat)) := by
  have e1 : qv (v, 1) = (v : Rat) := by unfold qv; simp only [Rat.intCast_one]; grind
  have e2 : qv (q.num * 1099511627776, (q.den : Int)) = q * oneQ := (mul_qv q 1099511627776).symm
  rw [← e1, ← e2, qv_le (den_pos q) (by show (0 : Int) < 1; decide)]
  show _ ↔ q.num * 1099511627776 * 1 ≤ v * (q.den : Int)
  omega
theorem all_zip (g : Rat → I2 → Bool) : ∀ (r : Rw) (b : Bx), ((b.zip r).all fun p => g p.2 p.1) = ((r.zip b).all fun p => g p.1 p.2)
  | [], [] => rfl
  | [], _ :: _ => rfl
  | _ :: _, [] => rfl
  | x :: r, v :: b => by
    show (g x v && ((b.zip r).all fun p => g p.2 p.1)) = (g x v && ((r.zip b).all fun p => g p.1 p.2))
    rw [all_zip g r b]
theorem hasB_zip (b : Bx) (r : Rw) : hasB b r = (b.zip r).all fun p => inB p.1 p.2 := (all_zip (fun x v => inB v x) r b).symm
theorem law_has_ok {θ : Pot} {b : Bx} {r : Rw} {k : Nat} {Q : Ret → Pot → Prop} (hr : rok k r) (hk : k < 8000) (hb : ∀ v ∈ b, bi 80 v.1 ∧ bi 80 v.2) (q : Q (.d (.bl (hasB b r))) θ) : Gv (m__law_has [.dat (db b), .dat (dr r)] θ) Q := by
  rw [hasB_zip] at q
  unfold m__law_has r__law_has
  have bb : ∀ (v : I2) (x : Rat) (ρ : DEnv), bindT (.m [.t [2, 3], .t [4, 5]]) (.tup [dv v, dq x]) ρ = some ((((ρ.set 2 (some (.dat (.int v.1)))).set 3 (some (.dat (.int v.2)))).set 4 (some (.dat (.int x.num)))).set 5 (some (.dat (.int (x.den : Nat))))) := fun v x ρ => rfl
  simp! [db_t, dr_t, pairs_map]
  refine gv_for_inv (fun l ρ θ' => ∃ (ps : List (I2 × Rat)) (x2 x3 x4 x5 : Option Ent), l = ps.map (fun p => .tup [dv p.1, dq p.2]) ∧ (∀ p ∈ ps, p ∈ b.zip r) ∧ ((b.zip r).all fun p => inB p.1 p.2) = (ps.all fun p => inB p.1 p.2) ∧ ρ = [some (.dat (.tup (b.map dv))), some (.dat (.tup (r.map dq))), x2, x3, x4, x5] ∧ θ' = θ) ?_ ?_ _ _ _ ⟨b.zip r, none, none, none, none, rfl, fun p hp => hp, rfl, rfl, rfl⟩
  · rintro ρ θ1 ⟨ps, x2, x3, x4, x5, e, _, ea, rfl, rfl⟩
    cases ps with
    | cons _ _ => cases e
    | nil =>
      rw [ea] at q
      simp! [true_and]
      exact q
  · rintro d dd ρ θ1 ⟨ps, x2, x3, x4, x5, e, hp, ea, rfl, rfl⟩
    cases ps with
    | nil => cases e
    | cons p ps =>
      rw [List.map_cons] at e
      obtain ⟨rfl, rfl⟩ := List.cons.inj e
      have hm := hp p List.mem_cons_self
      have bv := hb _ (List.of_mem_zip hm).1
      have bx := hr _ (List.of_mem_zip hm).2
      have s1 := bv.1.small (by omega)
      have s2 := bv.2.small (by omega)
      have s3 := bx.1.small (by omega)
      have s4 := bx.2.small (by omega)
      refine ⟨_, bb _ _ _, ?_⟩
      simp! [s1, s2, s3, s4]
      refine law_one_ok ?_
      simp! [s1, s2, s3, s4]
      have i1 := cmp_lo p.1.1 p.2
      have i2 := cmp_hi p.1.2 p.2
      have hd : ((p :: ps).all fun p => inB p.1 p.2) = (inB p.1 p.2 && ps.all fun p => inB p.1 p.2) := rfl
      rw [hd] at ea
      by_cases c1 : p.1.1 * (p.2.den : Int) ≤ p.2.num * 1099511627776
      · by_cases c2 : p.2.num * 1099511627776 ≤ p.1.2 * (p.2.den : Int)
        · have ib : inB p.1 p.2 = true := by
            unfold inB
            rw [decide_eq_true (i1.mp c1), decide_eq_true (i2.mp c2)]
            rfl
          rw [ib, Bool.true_and] at ea
          simp! [c1, c2, s2, s4]
          exact ⟨ps, _, _, _, _, rfl, fun p hp' => hp p (List.mem_cons_of_mem _ hp'), ea, rfl⟩
        · have ib : inB p.1 p.2 = false := by
            unfold inB
            rw [decide_eq_false (fun z => c2 (i2.mpr z)), Bool.and_false]
          rw [ib, Bool.false_and] at ea
          rw [ea] at q
          simp! [c1, c2, s2, s4]
          exact q
      · have ib : inB p.1 p.2 = false := by
          unfold inB
          rw [decide_eq_false (fun z => c1 (i1.mpr z)), Bool.false_and]
        rw [ib, Bool.false_and] at ea
        rw [ea] at q
        simp! [c1]
        exact q
theorem is_less_ok {θ : Pot} {p q : Rat} {a b : Nat} {Q : Ret → Pot → Prop} (hp : bz a p) (hq : bz b q) (ha : a < 8900) (hb : b < 8900) (k : Q (.d (.bl (decide (p < q)))) θ) : Gv (m_is_less_ratio [.dat (dq p), .dat (dq q)] θ) Q := by
  unfold m_is_less_ratio r_is_less_ratio
  have s1 := hp.1.small (by omega)
  have s2 := hp.2.small (by omega)
  have s3 := hq.1.small (by omega)
  have s4 := hq.2.small (by omega)
  have e : decide (p.num * (q.den : Int) < q.num * (p.den : Int)) = decide (p < q) := by
    have h := qv_le (a := (q.num, (q.den : Int))) (b := (p.num, (p.den : Int))) (den_pos q) (den_pos p)
    rw [qv_q, qv_q] at h
    by_cases c : p < q
    · rw [decide_eq_true c, decide_eq_true]
      have n : ¬ q ≤ p := Rat.not_le.mpr c
      have := mt h.mpr n
      simp only at this
      omega
    · rw [decide_eq_false c, decide_eq_false]
      have := h.mp (Rat.not_lt.mp c)
      simp only at this
      omega
  simp! [gv_q0, gv_q1, s1, s2, s3, s4]
  rw [e]
  exact k
theorem is_from_to_ok {θ : Pot} {p q : Rat} {v : I2} {a b : Nat} {Q : Ret → Pot → Prop} (hp : bz a p) (hq : bz b q) (ha : a < 8000) (hb : b < 8000) (bv : bi 80 v.1 ∧ bi 80 v.2) (k : Q (.d (.bl (decide ((v.1 : Rat) ≤ p * oneQ) && decide (q * oneQ ≤ (v.2 : Rat))))) θ) : Gv (m_is_from_to [.dat (dq p), .dat (dq q), .dat (dv v)] θ) Q := by
  unfold m_is_from_to r_is_from_to
  have bo : bi 80 1099511627776 := by decide
  have b1 : bz 80 ((v.1 : Rat) / ((1099511627776 : Int) : Rat)) := bz_of (w := (v.1, 1099511627776)) (by show (1099511627776 : Int) ≠ 0; decide) rfl bv.1 bo
  have b2 : bz 80 ((v.2 : Rat) / ((1099511627776 : Int) : Rat)) := bz_of (w := (v.2, 1099511627776)) (by show (1099511627776 : Int) ≠ 0; decide) rfl bv.2 bo
  have o0 : (0 : Rat) < oneQ := by unfold oneQ; decide +kernel
  have dc : ∀ x : Rat, x / oneQ * oneQ = x := fun x => by
    have : oneQ ≠ 0 := fun z => by rw [z] at o0; exact absurd o0 (by decide)
    generalize oneQ = o at *
    grind
  have e1 : decide (p < (v.1 : Rat) / ((1099511627776 : Int) : Rat)) = !decide ((v.1 : Rat) ≤ p * oneQ) := by
    show decide (p < (v.1 : Rat) / oneQ) = _
    by_cases c : (v.1 : Rat) ≤ p * oneQ
    · rw [decide_eq_true c, decide_eq_false]
      · rfl
      · intro z
        have : p * oneQ < (v.1 : Rat) / oneQ * oneQ := Rat.mul_lt_mul_of_pos_right z o0
        rw [dc] at this
        exact absurd c (Rat.not_le.mpr this)
    · rw [decide_eq_false c, decide_eq_true]
      · rfl
      · have c2 : p * oneQ < (v.1 : Rat) := Rat.not_le.mp c
        rcases Decidable.em (p < (v.1 : Rat) / oneQ) with z | z
        · exact z
        · have : (v.1 : Rat) / oneQ * oneQ ≤ p * oneQ := Rat.mul_le_mul_of_nonneg_right (Rat.not_lt.mp z) (Rat.le_of_lt o0)
          rw [dc] at this
          exact absurd this c
  have e2 : decide ((v.2 : Rat) / ((1099511627776 : Int) : Rat) < q) = !decide (q * oneQ ≤ (v.2 : Rat)) := by
    show decide ((v.2 : Rat) / oneQ < q) = _
    by_cases c : q * oneQ ≤ (v.2 : Rat)
    · rw [decide_eq_true c, decide_eq_false]
      · rfl
      · intro z
        have : (v.2 : Rat) / oneQ * oneQ < q * oneQ := Rat.mul_lt_mul_of_pos_right z o0
        rw [dc] at this
        exact absurd c (Rat.not_le.mpr this)
    · rw [decide_eq_false c, decide_eq_true]
      · rfl
      · have c2 : (v.2 : Rat) < q * oneQ := Rat.not_le.mp c
        rcases Decidable.em ((v.2 : Rat) / oneQ < q) with z | z
        · exact z
        · have : q * oneQ ≤ (v.2 : Rat) / oneQ * oneQ := Rat.mul_le_mul_of_nonneg_right (Rat.not_lt.mp z) (Rat.le_of_lt o0)
          rw [dc] at this
          exact absurd this c
  simp! [dv_t]
  refine made_ok (by decide) bo (by omega) ?_
  simp! [true_and]
  refine made_ok (by decide) bo (by omega) ?_
  simp! [true_and]
  refine is_less_ok hp b1 (by omega) (by omega) ?_
  rw [e1]
  simp! [true_and]
  by_cases c1 : (v.1 : Rat) ≤ p * oneQ
  · rw [decide_eq_true c1, Bool.true_and] at k
    simp! [c1]
    refine is_less_ok b2 hq (by omega) (by omega) ?_
    rw [e2]
    simp! [Bool.not_not]
    exact k
  · rw [decide_eq_false c1, Bool.false_and] at k
    simp! [c1]
    exact k
end Tc


namespace Tc
open PySem PySem.Spec Pd
/-! ### sets -/
def dS (m a b : Dt) : Dt := .tup [.str "set", m, a, b]
section
variable {ρ : DEnv} {θ : Pot} {Q : Dt → Pot → Prop} (m a b : Dt)
theorem gS_0 : Gv (opt (gIx (dS m a b) (.int 0)) ρ θ) Q = Q (.str "set") θ := by
  have e : gIx (dS m a b) (.int 0) = some (.str "set") := L2.atI_nat (j := 0) rfl
  rw [e, gv_opt]
theorem gS_1 : Gv (opt (gIx (dS m a b) (.int 1)) ρ θ) Q = Q m θ := by
  have e : gIx (dS m a b) (.int 1) = some m := L2.atI_nat (j := 1) rfl
  rw [e, gv_opt]
theorem gS_2 : Gv (opt (gIx (dS m a b) (.int 2)) ρ θ) Q = Q a θ := by
  have e : gIx (dS m a b) (.int 2) = some a := L2.atI_nat (j := 2) rfl
  rw [e, gv_opt]
theorem gS_3 : Gv (opt (gIx (dS m a b) (.int 3)) ρ θ) Q = Q b θ := by
  have e : gIx (dS m a b) (.int 3) = some b := L2.atI_nat (j := 3) rfl
  rw [e, gv_opt]
theorem gS_l : Gv (opt (gLen [dS m a b]) ρ θ) Q = Q (.int 4) θ := rfl
theorem gS_t : Gv (opt ((isiF "tuple") (dS m a b)) ρ θ) Q = Q (.bl true) θ := rfl
end
theorem is_point_ok {θ : Pot} {r : Rw} {Q : Ret → Pot → Prop} (h1 : 1 ≤ r.length) (h2 : r.length ≤ 8) (q : Q (.d (.bl true)) θ) : Gv (m_is_point [.dat (dr r)] θ) Q := by
  unfold m_is_point r_is_point
  have h1' : (1 : Int) ≤ (r.length : Int) := by omega
  have h2' : (r.length : Int) ≤ 8 := by omega
  have hb : r.length < bigL := Nat.lt_of_le_of_lt h2 (by decide)
  have gl : ∀ (ρ : DEnv) (θ : Pot) (Q : Dt → Pot → Prop), Gv (opt (gLen [.tup (r.map dq)]) ρ θ) Q = Q (.int r.length) θ := fun ρ θ Q => gv_lenR r
  simp! [dr_t, gl, h1', h2', List.length_map, hb]
  refine cmap (g := dq) (f := fun _ => .bl true) r (fun x hx => ?_) ?_
  · simp! [true_and]
    refine is_ratio_ok ?_
    simp! [true_and]
  · simp! [true_and]
    rw [gv_allM (fun _ => true), all_tt]
    simp! [true_and]
    exact q
structure Iv (v : I2) : Prop where
  lo : -1180591620717411303424 ≤ v.1
  le : v.1 ≤ v.2
  hi : v.2 ≤ 1180591620717411303424
theorem Iv.b {v : I2} (h : Iv v) : bi 80 v.1 ∧ bi 80 v.2 := by
  have := h.lo
  have := h.le
  have := h.hi
  have e : (2 : Nat) ^ 80 = 1208925819614629174706176 := by decide
  unfold bi
  rw [e]
  constructor <;> omega
theorem is_interval_ok {θ : Pot} {v : I2} {Q : Ret → Pot → Prop} (h : Iv v) (q : Q (.d (.bl true)) θ) : Gv (m_is_interval [.dat (dv v)] θ) Q := by
  unfold m_is_interval r_is_interval
  have h1 := h.lo
  have h2 := h.le
  have h3 := h.hi
  simp! [dv_t, is_integer_eq, Int.zero_sub, h1, h2, h3]
  exact q
theorem gv_lenBx {ρ : DEnv} {θ : Pot} (b : Bx) {Q : Dt → Pot → Prop} : Gv (opt (gLen [db b]) ρ θ) Q = Q (.int b.length) θ := by
  show Q (.int ((b.map dv).length : Nat)) θ = _
  rw [List.length_map]
theorem is_box_ok {θ : Pot} {b : Bx} {Q : Ret → Pot → Prop} (h1 : 1 ≤ b.length) (h2 : b.length ≤ 8) (hb : ∀ v ∈ b, Iv v) (q : Q (.d (.bl true)) θ) : Gv (m_is_box [.dat (db b)] θ) Q := by
  unfold m_is_box r_is_box
  have h1' : (1 : Int) ≤ (b.length : Int) := by omega
  have h2' : (b.length : Int) ≤ 8 := by omega
  have lb : b.length < bigL := Nat.lt_of_le_of_lt h2 (by decide)
  have gl : ∀ (ρ : DEnv) (θ : Pot) (Q : Dt → Pot → Prop), Gv (opt (gLen [.tup (b.map dv)]) ρ θ) Q = Q (.int b.length) θ := fun ρ θ Q => gv_lenBx b
  simp! [db_t, gl, h1', h2', List.length_map, lb]
  refine cmap (g := dv) (f := fun _ => .bl true) b (fun x hx => ?_) ?_
  · simp! [true_and]
    refine is_interval_ok (hb x hx) ?_
    simp! [true_and]
  · simp! [true_and]
    rw [gv_allM (fun _ => true), all_tt]
    simp! [true_and]
    exact q
structure SetG (n k : Nat) (mid : Rw) (A : Mx) (b : Bx) : Prop where
  n1 : 1 ≤ n
  n3 : n ≤ 3
  lm : mid.length = n
  sA : Shp n n A
  lb : b.length = n
  mA : mok k A
  rm : rok 2000 mid
  nz : detN n (ent A) ≠ 0
  iv : ∀ v ∈ b, Iv v
theorem is_matrixD {θ : Pot} {M : Mx} {h w : Nat} {d0 : Dt} {Q : Ret → Pot → Prop} (ed : d0 = dm M) (sh : Shp h w M) (h1 : 1 ≤ h) (h2 : h ≤ 8) (w1 : 1 ≤ w) (w2 : w ≤ 8) (q : Q (.d (.bl true)) θ) : Gv (m_is_matrix [.dat d0] θ) Q := by
  subst ed
  exact is_matrix_ok sh h1 h2 w1 w2 q
theorem is_set_value_ok {θ : Pot} {n k : Nat} {mid : Rw} {A : Mx} {b : Bx} {dA : Dt} {v : Int} {Q : Ret → Pot → Prop} (ev : v = (n : Nat)) (eA : dA = dm A) (h : SetG n k mid A b) (hk : k ≤ 45) (q : Q (.d (.bl true)) θ) : Gv (m_is_set_value [.dat (.int v), .dat (dS (dr mid) dA (db b))] θ) Q := by
  have n1 := h.n1
  have n3 := h.n3
  have g1 : ∀ (ρ : DEnv) (θ : Pot) (Q : Dt → Pot → Prop), Gv (opt (gLen [dr mid]) ρ θ) Q = Q (.int v) θ := fun ρ θ Q => by rw [gv_lenR, h.lm, ev]
  have g2 : ∀ (ρ : DEnv) (θ : Pot) (Q : Dt → Pot → Prop), Gv (opt (gLen [dA]) ρ θ) Q = Q (.int v) θ := fun ρ θ Q => by rw [eA, gv_lenX, h.sA.h, ev]
  have l0 : 0 < A.length := by rw [h.sA.h]; omega
  have g3 : ∀ (ρ : DEnv) (θ : Pot) (Q : Dt → Pot → Prop), Gv (opt (gIx dA (.int 0)) ρ θ) Q = Q (dr (A.getD 0 [])) θ := fun ρ θ Q => by rw [eA]; exact gv_ixX A (i := 0) (v := 0) rfl l0
  have g4 : ∀ (ρ : DEnv) (θ : Pot) (Q : Dt → Pot → Prop), Gv (opt (gLen [dr (A.getD 0 [])]) ρ θ) Q = Q (.int v) θ := fun ρ θ Q => by rw [gv_lenR, h.sA.first (by omega), ev]
  have g5 : ∀ (ρ : DEnv) (θ : Pot) (Q : Dt → Pot → Prop), Gv (opt (gLen [db b]) ρ θ) Q = Q (.int v) θ := fun ρ θ Q => by rw [gv_lenBx, h.lb, ev]
  have ii : ∀ (ρ : DEnv) (θ : Pot) (Q : Dt → Pot → Prop), Gv (opt ((isiF "str") (.str "set")) ρ θ) Q = Q (.bl true) θ := fun ρ θ Q => rfl
  have is : ∀ (M : Mx) (ρ : DEnv) (θ : Pot) (Q : Dt → Pot → Prop), Gv (opt (gIsNot2 (dm M) .non) ρ θ) Q = Q (.bl true) θ := fun M ρ θ Q => by rw [dm_t, isn2_t]
  have ie : invD n A = dm (mxOf n (invN n (ent A))) := if_neg h.nz
  unfold m_is_set_value r_is_set_value
  simp! [gS_0, gS_1, gS_2, gS_3, gS_l, gS_t, ii, gv_neS, decide_true]
  refine is_point_ok (by rw [h.lm]; omega) (by rw [h.lm]; omega) ?_
  simp! [gS_0, gS_1, gS_2, gS_3]
  refine is_matrixD eA h.sA n1 (by omega) n1 (by omega) ?_
  simp! [gS_0, gS_1, gS_2, gS_3]
  refine is_box_ok (by rw [h.lb]; omega) (by rw [h.lb]; omega) h.iv ?_
  simp! [gS_0, gS_1, gS_2, gS_3, g1, g2, g3, g4, g5, decide_true]
  refine inverse_of_ok eA h.sA n1 n3 h.mA hk ?_
  rw [ie]
  simp! [is]
  exact q
theorem is_set_ok {θ : Pot} {n k : Nat} {mid : Rw} {A : Mx} {b : Bx} {dA : Dt} {Q : Ret → Pot → Prop} (eA : dA = dm A) (h : SetG n k mid A b) (hk : k ≤ 45) (q : Q (.d (.bl true)) θ) : Gv (m_is_set [.dat (dS (dr mid) dA (db b))] θ) Q := by
  have n1 := h.n1
  have n3 := h.n3
  obtain ⟨v, ev⟩ : ∃ v : Int, v = (n : Nat) := ⟨_, rfl⟩
  have g1 : ∀ (ρ : DEnv) (θ : Pot) (Q : Dt → Pot → Prop), Gv (opt (gLen [dr mid]) ρ θ) Q = Q (.int v) θ := fun ρ θ Q => by rw [gv_lenR, h.lm, ev]
  unfold m_is_set r_is_set
  simp! [gS_1, gS_l, gS_t]
  refine is_point_ok (by rw [h.lm]; omega) (by rw [h.lm]; omega) ?_
  simp! [gS_1, g1]
  refine is_set_value_ok ev eA h hk ?_
  simp! [true_and]
  exact q
theorem want_set_ok {θ : Pot} {n k : Nat} {mid : Rw} {A : Mx} {b : Bx} {dA : Dt} {Q : Ret → Pot → Prop} (eA : dA = dm A) (h : SetG n k mid A b) (hk : k ≤ 45) (q : Q (.d .non) θ) : Gv (m_want_set [.dat (dS (dr mid) dA (db b))] θ) Q := by
  unfold m_want_set r_want_set
  simp! [true_and]
  refine is_set_ok eA h hk ?_
  simp! [true_and]
  exact q
theorem led_byD {θ : Pot} {A : Mx} {dA : Dt} {s : Rw} {n a b : Nat} {Q : Ret → Pot → Prop} (eA : dA = dm A) (sA : Shp n n A) (h1 : n ≤ 4) (ha : mok a A) (hb : rok b s) (l : 4 * (a + b + 1) + (a + b) < 8900) (q : Q (.d (dr (ledR A s))) θ) : Gv (m_led_by [.dat dA, .dat (dr s)] θ) Q := by
  subst eA
  exact led_by_ok sA h1 h1 ha hb l q
theorem law_ledD {θ : Pot} {A : Mx} {dA : Dt} {s : Rw} {n a b : Nat} {Q : Ret → Pot → Prop} (eA : dA = dm A) (sA : Shp n n A) (h1 : n ≤ 4) (ha : mok a A) (hb : rok b s) (l : 4 * (a + b + 1) + (a + b) < 8900) (q : Q (.d (dr (ledR A s))) θ) : Gv (m__law_led [.dat dA, .dat (dr s)] θ) Q := by
  subst eA
  exact law_led_ok sA h1 h1 ha hb l q
/-! ### the law's own -/
theorem law_point_ok {θ : Pot} {n k c : Nat} {mid row : Rw} {A : Mx} {b : Bx} {dA : Dt} {Q : Ret → Pot → Prop} (eA : dA = dm A) (h : SetG n k mid A b) (rm : rok 50 mid) (br : rok c row) (hc : 5 * (k + c) + 60 < 8900) (q : Q (.d (dr (addR mid (ledR A row)))) θ) : Gv (m__law_point [.dat (dS (dr mid) dA (db b)), .dat (dr row)] θ) Q := by
  have n3 := h.n3
  have bl := ledR_bz h.sA h.mA br n3
  unfold m__law_point r__law_point
  simp! [gS_1, gS_2]
  refine law_ledD eA h.sA (by omega) h.mA br (by omega) ?_
  unfold addR at q
  have lz : (mid.zip (ledR A row)).length < bigL := Nat.lt_of_le_of_lt (by rw [List.length_zip, h.lm]; omega) (show 3 < bigL by decide)
  generalize ledR A row = s at *
  simp! [gS_1, dr_t, pairs_map, List.length_map, lz]
  refine cmap (g := fun p : Rat × Rat => .tup [dq p.1, dq p.2]) (f := fun p => dq (p.1 + p.2)) (mid.zip s) (fun p hp => ?_) ?_
  · simp! [true_and]
    refine law_sum_ok (rm _ (List.of_mem_zip hp).1) (bl _ (List.of_mem_zip hp).2) (by omega) ?_
    simp! [true_and]
  · simp! [true_and]
    rw [dr_t, mapC] at q
    exact q
end Tc


namespace Tc
open PySem PySem.Spec Pd
theorem end_spec {θ : Pot} (h : PotOk θ) : Gv (m__law_end [.pot] θ) fun r θ' => ∃ i, r = .d (.int i) ∧ bi 42 i ∧ PotOk θ' := by
  unfold m__law_end r__law_end
  have p1 : ∀ (ρ : DEnv) (θ : Pot) (Q : Dt → Pot → Prop), Gv (opt (gPow (.int 2) (.int 39)) ρ θ) Q = Q (.int 549755813888) θ := fun ρ θ Q => rfl
  have p2 : ∀ (ρ : DEnv) (θ : Pot) (Q : Dt → Pot → Prop), Gv (opt (gPow (.int 2) (.int 40)) ρ θ) Q = Q (.int 1099511627776) θ := fun ρ θ Q => rfl
  have p3 : ∀ (ρ : DEnv) (θ : Pot) (Q : Dt → Pot → Prop), Gv (opt (gPow (.int 2) (.int 41)) ρ θ) Q = Q (.int 2199023255552) θ := fun ρ θ Q => rfl
  simp! [p1, p2, p3]
  refine pick_mem h (by show 0 < 10; omega) (by show 10 ≤ 100; omega) fun d hd θ' hp => ?_
  simp! [true_and]
  simp only [List.mem_cons, List.not_mem_nil, or_false] at hd
  rcases hd with rfl | rfl | rfl | rfl | rfl | rfl | rfl | rfl | rfl | rfl <;> exact ⟨_, rfl, by decide, hp⟩
structure OkB (n : Nat) (b : Bx) : Prop where
  l : b.length = n
  v : ∀ v ∈ b, v.1 ≤ v.2 ∧ bi 42 v.1 ∧ bi 42 v.2
theorem box_spec {θ : Pot} {n : Nat} {v : Int} (ev : v = (n : Nat)) (hn : n ≤ 4) (h : PotOk θ) : Gv (m__law_box [.pot, .dat (.int v)] θ) fun r θ' => ∃ b, r = .d (db b) ∧ OkB n b ∧ PotOk θ' := by
  have bm : bnd62 v = true := bnd_of (by omega) (by omega)
  have tv : v.toNat = n := by omega
  unfold m__law_box r__law_box
  simp! [bm]
  rw [tv, rng0]
  refine for_rangeR (fun k : Nat => Dt.int (0 + k)) n (fun i ρ θ' => ∃ (x : Bx) (x3 x4 x5 : Option Ent), ρ = [some .pot, some (.dat (.int v)), some (.own (x.map dv)), x3, x4, x5] ∧ OkB i x ∧ PotOk θ') ?_ ?_ _ _ ⟨[], none, none, none, rfl, ⟨rfl, fun q hq => (List.not_mem_nil hq).elim⟩, h⟩
  · rintro ρ θ1 ⟨x, x3, x4, x5, rfl, ox, h1⟩
    simp! [true_and]
    exact ⟨x, rfl, ox, h1⟩
  · rintro i ρ θ1 hi ⟨x, x3, x4, x5, rfl, ox, h1⟩
    refine ⟨_, bindT_n 3 _, ?_⟩
    simp! [true_and]
    refine (end_spec h1).imp ?_
    rintro _ θ2 ⟨a, rfl, ba, h2⟩
    simp! [true_and]
    refine (end_spec h2).imp ?_
    rintro _ θ3 ⟨c, rfl, bc, h3⟩
    have lb : x.length < bigL := Nat.lt_of_le_of_lt (show x.length ≤ 4 by rw [ox.l]; omega) (by decide)
    simp! [List.length_map, lb]
    refine Or.inl ⟨_, rfl, x ++ [(if c < a then c else a, if c > a then c else a)], _, _, _, by rw [List.map_append]; rfl, ⟨by rw [List.length_append, ox.l]; rfl, fun z hz => ?_⟩, h3⟩
    rcases List.mem_append.mp hz with w | w
    · exact ox.v z w
    · rw [List.mem_singleton.mp w]
      refine ⟨?_, ?_, ?_⟩
      · show (if c < a then c else a) ≤ (if c > a then c else a)
        split <;> split <;> omega
      · show bi 42 (if c < a then c else a)
        split <;> assumption
      · show bi 42 (if c > a then c else a)
        split <;> assumption
theorem strong_spec {θ : Pot} {n : Nat} {v : Int} (ev : v = (n : Nat)) (h1 : 1 ≤ n) (h3 : n ≤ 3) (h : PotOk θ) : Gv (m__law_strong [.pot, .dat (.int v)] θ) fun r θ' => ∃ A, r = .d (dm A) ∧ Shp n n A ∧ mok 2 A ∧ detN n (ent A) ≠ 0 ∧ PotOk θ' := by
  unfold m__law_strong r__law_strong
  simp! [true_and]
  refine (matrix_spec ev ev (by omega) (by omega) h).imp ?_
  rintro _ θ1 ⟨M, rfl, sM, bM, hp⟩
  obtain ⟨d0, ed⟩ : ∃ d, d = dm M := ⟨_, rfl⟩
  simp! [← ed]
  refine law_detD ed sM h1 h3 bM (by omega) ?_
  simp! [gv_q0]
  refine ⟨fun z => ?_, fun z => ?_⟩
  · refine law_unit_ok ev (by omega) ?_
    simp! [true_and]
    exact ⟨unitQ n, rfl, unitQ_shp n, unit_mok n 2, by rw [unit_det h1 h3]; decide, hp⟩
  · exact ⟨M, by rw [ed], sM, bM, fun e => z (by rw [e]; rfl), hp⟩
theorem OkA_of {q : Rat} (h : bz 18 q) : OkA q := by
  have p := h.1.mul (show bi 40 1099511627776 by decide)
  have hp : (q.num * 1099511627776).natAbs ≤ 2 ^ 58 := p
  have e : (2 : Nat) ^ 58 = 288230376151711744 := by decide
  rw [e] at hp
  have hB : B60 = 1152921504606846976 := rfl
  refine ⟨h.mono (by omega), ?_, ?_⟩
  · rw [fl_mul]
    exact (ediv_bd (den1 q) (by omega) (by omega) (by decide)).1
  · rw [cl_mul]
    have := (ediv_bd (x := -(q.num * 1099511627776)) (B := B60) (den1 q) (by omega) (by omega) (by decide)).1
    omega
theorem Iv_of {v : I2} (h : v.1 ≤ v.2 ∧ bi 42 v.1 ∧ bi 42 v.2) : Iv v := by
  obtain ⟨h1, h2, h3⟩ := h
  have e : (2 : Nat) ^ 42 = 4398046511104 := by decide
  unfold bi at h2 h3
  rw [e] at h2 h3
  exact ⟨by omega, h1, by omega⟩
/-- a set as it is drawn -/
structure Drawn (n : Nat) (mid : Rw) (A : Mx) (b : Bx) : Prop where
  n1 : 1 ≤ n
  n3 : n ≤ 3
  lm : mid.length = n
  rm : rok 2 mid
  sA : Shp n n A
  mA : mok 2 A
  nz : detN n (ent A) ≠ 0
  ob : OkB n b
theorem Drawn.g {n : Nat} {mid : Rw} {A : Mx} {b : Bx} (h : Drawn n mid A b) : SetG n 2 mid A b := ⟨h.n1, h.n3, h.lm, h.sA, h.ob.l, h.mA, fun q hq => (h.rm q hq).mono (by omega), h.nz, fun v hv => Iv_of (h.ob.v v hv)⟩
theorem Drawn.s {n : Nat} {mid : Rw} {A : Mx} {b : Bx} (h : Drawn n mid A b) : OkSet n mid A b := ⟨h.n1, h.n3, h.lm, h.sA, h.ob.l, fun q hq => OkA_of ((h.rm q hq).mono (by omega)), fun r hr p hp => by
  have hv := h.ob.v _ (List.of_mem_zip hp).2
  exact ⟨hv.1, hv.2.1.mono (by omega), hv.2.2.mono (by omega), (h.mA r hr _ (List.of_mem_zip hp).1).mono (by omega)⟩⟩
theorem set_spec {θ : Pot} {n : Nat} {v : Int} (ev : v = (n : Nat)) (h1 : 1 ≤ n) (h3 : n ≤ 3) (h : PotOk θ) : Gv (m__law_set [.pot, .dat (.int v)] θ) fun r θ' => ∃ mid A b, r = .d (ds mid A b) ∧ Drawn n mid A b ∧ PotOk θ' := by
  unfold m__law_set r__law_set
  simp! [true_and]
  refine (row_spec ev (by omega) h).imp ?_
  rintro _ θ1 ⟨mid, rfl, lm, rm, hp1⟩
  simp! [true_and]
  refine (strong_spec ev h1 h3 hp1).imp ?_
  rintro _ θ2 ⟨A, rfl, sA, mA, nz, hp2⟩
  simp! [true_and]
  refine (box_spec ev (by omega) hp2).imp ?_
  rintro _ θ3 ⟨b, rfl, ob, hp3⟩
  simp! [true_and]
  exact ⟨mid, A, b, rfl, ⟨h1, h3, lm, rm, sA, mA, nz, ob⟩, hp3⟩
end Tc


namespace Tc
open PySem PySem.Spec Pd
theorem fl_le (q : Rat) : ((fl q : Int) : Rat) ≤ q := by
  have e1 : qv (fl q, 1) = ((fl q : Int) : Rat) := by unfold qv; simp only [Rat.intCast_one]; grind
  have h := (qv_le (a := (fl q, 1)) (b := (q.num, (q.den : Int))) (by show (0 : Int) < 1; decide) (den_pos q)).mpr (by
    show fl q * (q.den : Int) ≤ q.num * 1
    unfold fl
    have := Int.ediv_mul_le q.num (Int.ne_of_gt (den_pos q))
    omega)
  rw [e1, qv_q] at h
  exact h
theorem le_cl (q : Rat) : q ≤ ((cl q : Int) : Rat) := by
  have e : cl q = - fl (-q) := rfl
  have := fl_le (-q)
  rw [e, Rat.intCast_neg]
  grind
theorem slo_le {a x : Rat} {v : I2} (h1 : (v.1 : Rat) ≤ x) (h2 : x ≤ (v.2 : Rat)) : ((slo a v : Int) : Rat) ≤ a * x ∧ a * x ≤ ((shi a v : Int) : Rat) := by
  have l := fl_le (a * ((if 0 ≤ a.num then v.1 else v.2 : Int) : Rat))
  have u := le_cl (a * ((if 0 ≤ a.num then v.2 else v.1 : Int) : Rat))
  have l : ((slo a v : Int) : Rat) ≤ a * ((if 0 ≤ a.num then v.1 else v.2 : Int) : Rat) := l
  have u : a * ((if 0 ≤ a.num then v.2 else v.1 : Int) : Rat) ≤ ((shi a v : Int) : Rat) := u
  by_cases c : 0 ≤ a.num
  · rw [if_pos c] at l u
    have a0 : 0 ≤ a := Rat.num_nonneg.mp c
    have k1 := Rat.mul_le_mul_of_nonneg_left h1 a0
    have k2 := Rat.mul_le_mul_of_nonneg_left h2 a0
    exact ⟨Rat.le_trans l k1, Rat.le_trans k2 u⟩
  · rw [if_neg c] at l u
    have a0 : 0 ≤ -a := by
      have : a < 0 := (num_neg_iff a).mp (by omega)
      grind
    have k1 := Rat.mul_le_mul_of_nonneg_left h1 a0
    have k2 := Rat.mul_le_mul_of_nonneg_left h2 a0
    constructor
    · refine Rat.le_trans l ?_
      grind
    · refine Rat.le_trans ?_ u
      grind
theorem hs_le : ∀ (r row : Rw) (b : Bx), r.length = b.length → row.length = b.length → hasB b row = true → (((hs (r.zip b)).1 : Int) : Rat) ≤ dotP (r.zip row) * oneQ ∧ dotP (r.zip row) * oneQ ≤ (((hs (r.zip b)).2 : Int) : Rat)
  | [], _ :: _, [], _, h, _ => absurd h (by simp)
  | _ :: _, _, [], h, _, _ => absurd h (by simp)
  | [], _, _ :: _, h, _, _ => absurd h (by simp)
  | _ :: _, [], _ :: _, _, h, _ => absurd h (by simp)
  | [], [], [], _, _, _ => by
    show ((0 : Int) : Rat) ≤ 0 * oneQ ∧ 0 * oneQ ≤ ((0 : Int) : Rat)
    rw [Rat.zero_mul]
    exact ⟨Rat.le_refl, Rat.le_refl⟩
  | a :: r, x :: row, v :: b, h1, h2, h => by
    have hd : hasB (v :: b) (x :: row) = (inB v x && hasB b row) := rfl
    rw [hd, Bool.and_eq_true] at h
    unfold inB at h
    rw [Bool.and_eq_true] at h
    obtain ⟨⟨i1, i2⟩, h⟩ := h
    have ih := hs_le r row b (by simpa using h1) (by simpa using h2) h
    have s := slo_le (a := a) (of_decide_eq_true i1) (of_decide_eq_true i2)
    show ((slo a v + (hs (r.zip b)).1 : Int) : Rat) ≤ (a * x + dotP (r.zip row)) * oneQ ∧ (a * x + dotP (r.zip row)) * oneQ ≤ ((shi a v + (hs (r.zip b)).2 : Int) : Rat)
    rw [Rat.intCast_add, Rat.intCast_add]
    generalize oneQ = o at *
    grind
theorem zip_mapR {α β γ : Type} (f : β → γ) : ∀ (l : List α) (m : List β), l.zip (m.map f) = (l.zip m).map fun p => (p.1, f p.2)
  | [], _ => rfl
  | _ :: _, [] => rfl
  | a :: l, b :: m => by
    rw [List.map_cons, List.zip_cons_cons, List.zip_cons_cons, List.map_cons, zip_mapR f l m]
theorem zip_both {α β γ : Type} (f : α → β) (g : α → γ) : ∀ (l : List α), (l.map f).zip (l.map g) = l.map fun a => (f a, g a)
  | [] => rfl
  | a :: l => by
    rw [List.map_cons, List.map_cons, List.zip_cons_cons, zip_both f g l, List.map_cons]
theorem hull_has {n : Nat} {mid row : Rw} {A : Mx} {b : Bx} (sA : Shp n n A) (lb : b.length = n) (lr : row.length = n) (h : hasB b row = true) : hasB (hullQ mid A b) (addR mid (ledR A row)) = true := by
  unfold hasB hullQ addR ledR
  have e1 : mid.zip (A.map fun x => dotQ x row) = (mid.zip A).map fun p => (p.1, dotQ p.2 row) := zip_mapR _ mid A
  rw [e1, List.map_map, zip_both, List.all_map, List.all_eq_true]
  intro p hp
  have hA := (List.of_mem_zip hp).2
  have k := hs_le p.2 row b (by rw [sA.w _ hA, lb]) (by rw [lr, lb]) h
  have f1 : ((fl (p.1 * ((1099511627776 : Int) : Rat)) : Int) : Rat) ≤ p.1 * oneQ := fl_le (p.1 * ((1099511627776 : Int) : Rat))
  have f2 : p.1 * oneQ ≤ ((cl (p.1 * ((1099511627776 : Int) : Rat)) : Int) : Rat) := le_cl (p.1 * ((1099511627776 : Int) : Rat))
  show inB (fl (p.1 * ((1099511627776 : Int) : Rat)) + (hs (p.2.zip b)).1, cl (p.1 * ((1099511627776 : Int) : Rat)) + (hs (p.2.zip b)).2) (p.1 + dotQ p.2 row) = true
  unfold inB dotQ
  rw [Bool.and_eq_true, decide_eq_true_iff, decide_eq_true_iff]
  simp only [Rat.intCast_add]
  generalize ((fl (p.1 * ((1099511627776 : Int) : Rat)) : Int) : Rat) = x1 at *
  generalize ((cl (p.1 * ((1099511627776 : Int) : Rat)) : Int) : Rat) = x2 at *
  generalize (((hs (p.2.zip b)).1 : Int) : Rat) = x3 at *
  generalize (((hs (p.2.zip b)).2 : Int) : Rat) = x4 at *
  generalize oneQ = o at *
  generalize dotP (p.2.zip row) = dd at *
  grind
theorem repr_bb (x y : Bool) : ∃ s, ∀ (ρ : DEnv) (θ : Pot) (Q : Dt → Pot → Prop), Gv (opt (gRepr [.lst [.bl x, .bl y]]) ρ θ) Q = Q (.str s) θ := repr_ok (d := .lst [.bl x, .bl y]) (by simp only [okD, oks]; exact ⟨trivial, trivial, trivial⟩) (by simp only [depD, deps]; omega) (by simp only [costD, costs]; omega)
theorem set_hull_ok {n k : Nat} {mid : Rw} {A : Mx} {b : Bx} {dA : Dt} {θ : Pot} {Q : Ret → Pot → Prop} (eA : dA = dm A) (g : SetG n k mid A b) (hk : k ≤ 45) (h : OkSet n mid A b) (q : Q (.d (db (hullQ mid A b))) θ) : Gv (m_set_hull [.dat (dS (dr mid) dA (db b))] θ) Q := by
  unfold m_set_hull r_set_hull
  simp! [true_and]
  refine want_set_ok eA g hk ?_
  have e : dS (dr mid) dA (db b) = ds mid A b := by rw [eA]; rfl
  simp! [e]
  refine set_hull_of_ok h ?_
  simp! [true_and]
  exact q
end Tc


namespace Tc
open PySem PySem.Spec Pd
theorem okD_db {b : Bx} (h : ∀ v ∈ b, bi 80 v.1 ∧ bi 80 v.2) : okD (db b) := by
  unfold db
  simp only [okD]
  refine oks_map fun v hv => ?_
  unfold dv
  simp only [okD, oks]
  exact ⟨bi_log (h v hv).1 (by omega), bi_log (h v hv).2 (by omega), trivial⟩
theorem depD_db (b : Bx) : depD (db b) ≤ 2 := by
  unfold db
  simp only [depD]
  have := deps_map (f := dv) (n := 1) (l := b) fun v _ => Nat.le_of_eq rfl
  omega
theorem okD_dS {mid : Rw} {A : Mx} {b : Bx} {k : Nat} (hm : rok k mid) (hA : mok k A) (hk : k < 1920) (hb : ∀ v ∈ b, bi 80 v.1 ∧ bi 80 v.2) : okD (dS (dr mid) (dm A) (db b)) := by
  unfold dS
  simp only [okD, oks]
  exact ⟨by decide +kernel, okD_dr hm hk, okD_dm hA hk, okD_db hb, trivial⟩
theorem depD_dS (mid : Rw) (A : Mx) (b : Bx) : depD (dS (dr mid) (dm A) (db b)) ≤ 5 := by
  unfold dS
  simp only [depD, deps]
  have := depD_dr mid
  have := depD_dm A
  have := depD_db b
  omega
theorem product_ofD {θ : Pot} {A B : Mx} {dA dB : Dt} {n a b : Nat} {Q : Ret → Pot → Prop} (eA : dA = dm A) (eB : dB = dm B) (sA : Shp n n A) (sB : Shp n n B) (h1 : 1 ≤ n) (h3 : n ≤ 3) (ha : mok a A) (hb : mok b B) (l : 4 * (a + b + 1) + (a + b) < 8900) (q : Q (.d (dm (prodQ A (colsQ n B)))) θ) : Gv (m_product_of [.dat dA, .dat dB] θ) Q := by
  subst eA eB
  exact product_of_ok sA sB (by omega) (by omega) (by omega) (by omega) ha hb l q
theorem law_ledE {θ : Pot} {A : Mx} {dA dx : Dt} {s : Rw} {n a b : Nat} {Q : Ret → Pot → Prop} (eA : dA = dm A) (ex : dx = dr s) (sA : Shp n n A) (h1 : n ≤ 4) (ha : mok a A) (hb : rok b s) (l : 4 * (a + b + 1) + (a + b) < 8900) (q : Q (.d (dr (ledR A s))) θ) : Gv (m__law_led [.dat dA, .dat dx] θ) Q := by
  subst ex
  exact law_ledD eA sA h1 ha hb l q
end Tc


namespace Tc
open PySem PySem.Spec Pd
/-! ### the set of a box -/
def midI (v : I2) : Int := (v.1 + v.2) / 2
def midq (v : I2) : Rat := ((midI v : Int) : Rat) / ((1099511627776 : Int) : Rat)
def leftv (v : I2) : I2 := (v.1 - midI v, v.2 - midI v)
theorem div_one (x : Rat) : x / oneQ * oneQ = x := by
  have o0 : (0 : Rat) < oneQ := by unfold oneQ; decide +kernel
  have : oneQ ≠ 0 := fun z => by rw [z] at o0; exact absurd o0 (by decide)
  generalize oneQ = o at *
  grind
theorem zip_self {α : Type} : ∀ (l : List α), l.zip l = l.map fun a => (a, a)
  | [] => rfl
  | a :: l => by rw [List.zip_cons_cons, List.map_cons, zip_self l]
theorem in_left (v : I2) (q : Rat) : inB (leftv v) (q - midq v) = inB v q := by
  have e : (q - midq v) * oneQ = q * oneQ - ((midI v : Int) : Rat) := by
    have := div_one ((midI v : Int) : Rat)
    have m : midq v = ((midI v : Int) : Rat) / oneQ := rfl
    rw [m]
    generalize ((midI v : Int) : Rat) / oneQ = z at *
    generalize oneQ = o at *
    grind
  unfold inB
  rw [e]
  show (decide (((v.1 - midI v : Int) : Rat) ≤ _) && decide (_ ≤ ((v.2 - midI v : Int) : Rat))) = _
  rw [Rat.intCast_sub, Rat.intCast_sub]
  generalize oneQ = o at *
  generalize ((midI v : Int) : Rat) = m at *
  congr 1
  · by_cases c : (v.1 : Rat) ≤ q * o
    · rw [decide_eq_true c, decide_eq_true (by grind)]
    · rw [decide_eq_false c, decide_eq_false (by grind)]
  · by_cases c : q * o ≤ (v.2 : Rat)
    · rw [decide_eq_true c, decide_eq_true (by grind)]
    · rw [decide_eq_false c, decide_eq_false (by grind)]
theorem has_left : ∀ (row : Rw) (b : Bx), hasB (b.map leftv) (subR row (b.map midq)) = hasB b row
  | [], [] => rfl
  | [], _ :: _ => rfl
  | _ :: _, [] => rfl
  | q :: row, v :: b => by
    show (inB (leftv v) (q - midq v) && hasB (b.map leftv) (subR row (b.map midq))) = (inB v q && hasB b row)
    rw [in_left, has_left row b]
theorem want_box_ok {θ : Pot} {b : Bx} {Q : Ret → Pot → Prop} (h1 : 1 ≤ b.length) (h2 : b.length ≤ 8) (hb : ∀ v ∈ b, Iv v) (q : Q (.d (db b)) θ) : Gv (m_want_box [.dat (db b)] θ) Q := by
  unfold m_want_box r_want_box
  simp! [true_and]
  refine is_box_ok h1 h2 hb ?_
  simp! [true_and]
  exact q
theorem fd2x (x : Int) : x.fdiv 2 = x / 2 := fd_pos (by decide)
theorem mid_list (b : Bx) : b.map (fun v => dq (midq v)) = (b.map midq).map dq := by
  rw [List.map_map]
  rfl
theorem left_list (b : Bx) : (b.zip b).map (fun p : I2 × I2 => dv (p.1.1 - midI p.2, p.1.2 - midI p.2)) = (b.map leftv).map dv := by
  rw [zip_self, List.map_map, List.map_map]
  rfl
theorem set_of_box_ok {θ : Pot} {n : Nat} {b : Bx} {v : Int} {dB : Dt} {Q : Ret → Pot → Prop} (ev : v = (n : Nat)) (eB : dB = db b) (h1 : 1 ≤ n) (h8 : n ≤ 8) (l : b.length = n) (hb : ∀ v ∈ b, Iv v) (q : Q (.d (dS (dr (b.map midq)) (dm (unitQ n)) (db (b.map leftv)))) θ) : Gv (m_set_of_box [.dat dB] θ) Q := by
  have gl : ∀ (ρ : DEnv) (θ : Pot) (Q : Dt → Pot → Prop), Gv (opt (gLen [dB]) ρ θ) Q = Q (.int v) θ := fun ρ θ Q => by rw [eB, gv_lenBx, l, ev]
  have sq : ∀ (ρ : DEnv) (θ : Pot) (Q : List Dt → Pot → Prop), Gv (opt (seqOf dB) ρ θ) Q = Q (b.map dv) θ := fun ρ θ Q => by rw [eB]; rfl
  have zq : ∀ (ρ : DEnv) (θ : Pot) (Q : List Dt → Pot → Prop), Gv (opt (zipB [dB, .lst (b.map fun v => .int (midI v))]) ρ θ) Q = Q ((b.zip b).map fun p => .tup [dv p.1, .int (midI p.2)]) θ := fun ρ θ Q => by
    rw [eB, db_t]
    show Q (pairs _ _) θ = _
    rw [pairs_map]
  have lb : b.length < bigL := Nat.lt_of_le_of_lt (by rw [l]; exact h8) (show 8 < bigL by decide)
  have lz : (b.zip b).length < bigL := Nat.lt_of_le_of_lt (by rw [List.length_zip, l]; omega) (show 8 < bigL by decide)
  have wb : ∀ {R : Ret → Pot → Prop}, R (.d dB) θ → Gv (m_want_box [.dat dB] θ) R := fun r => by
    subst eB
    exact want_box_ok (by omega) (by omega) hb r
  unfold m_set_of_box r_set_of_box
  simp! [true_and]
  refine wb ?_
  simp! [true_and]
  unfold m_box_as_set r_box_as_set
  simp! [sq, List.length_map, lb]
  refine cmap (g := dv) (f := fun v => .int (midI v)) b (fun x hx => ?_) ?_
  · have s2 : small 2 = true := by decide
    simp! [dv_t, bindT_2, s2, fd2x]
    rfl
  simp! [zq, List.length_map, lz]
  refine cmap (g := fun p : I2 × I2 => .tup [dv p.1, .int (midI p.2)]) (f := fun p => dv (p.1.1 - midI p.2, p.1.2 - midI p.2)) (b.zip b) (fun p hp => ?_) ?_
  · have bb : ∀ ρ, bindT (.m [.t [2, 3], .n 5]) (.tup [dv p.1, .int (midI p.2)]) ρ = some (((ρ.set 2 (some (.dat (.int p.1.1)))).set 3 (some (.dat (.int p.1.2)))).set 5 (some (.dat (.int (midI p.2))))) := fun ρ => rfl
    simp! [bb]
    rfl
  simp! [left_list, List.length_map, lb]
  refine cmap (g := fun v => .int (midI v)) (f := fun v => dq (midq v)) b (fun x hx => ?_) ?_
  · simp! [true_and]
    refine made_ok (by decide) (show bi 41 1099511627776 by decide) (by omega) ?_
    simp! [true_and]
    rfl
  simp! [mid_list, gl]
  refine unit_of_ok ev (by omega) ?_
  simp! [true_and]
  exact q
end Tc


namespace Tc
open PySem PySem.Spec Pd
/-! ### the set of a box, asked -/
theorem set_of_boxE {θ : Pot} {n : Nat} {b : Bx} {v : Int} {dB dM dU dL : Dt} {Q : Ret → Pot → Prop} (ev : v = (n : Nat)) (eB : dB = db b) (eM : dM = dr (b.map midq)) (eU : dU = dm (unitQ n)) (eL : dL = db (b.map leftv)) (h1 : 1 ≤ n) (h8 : n ≤ 8) (l : b.length = n) (hb : ∀ v ∈ b, Iv v) (q : Q (.d (dS dM dU dL)) θ) : Gv (m_set_of_box [.dat dB] θ) Q := by
  subst eM eU eL
  exact set_of_box_ok ev eB h1 h8 l hb q
theorem set_hullE {n k : Nat} {mid : Rw} {A : Mx} {b : Bx} {d0 : Dt} {θ : Pot} {Q : Ret → Pot → Prop} (e0 : d0 = dS (dr mid) (dm A) (db b)) (g : SetG n k mid A b) (hk : k ≤ 45) (h : OkSet n mid A b) (q : Q (.d (db (hullQ mid A b))) θ) : Gv (m_set_hull [.dat d0] θ) Q := by
  subst e0
  exact set_hull_ok rfl g hk h q
theorem law_hasE {θ : Pot} {b : Bx} {r : Rw} {k : Nat} {dB dx : Dt} {Q : Ret → Pot → Prop} (eB : dB = db b) (ex : dx = dr r) (hr : rok k r) (hk : k < 8000) (hb : ∀ v ∈ b, bi 80 v.1 ∧ bi 80 v.2) (q : Q (.d (.bl (hasB b r))) θ) : Gv (m__law_has [.dat dB, .dat dx] θ) Q := by
  subst eB ex
  exact law_has_ok hr hk hb q
end Tc


namespace Tc
open PySem PySem.Spec Pd
/-! ### looks at any value -/
def ivB : Dt → Bool
  | .tup [.int a, .int b] => decide (-1180591620717411303424 ≤ a) && (decide (a ≤ b) && decide (b ≤ 1180591620717411303424))
  | _ => false
def boxB (d : Dt) : Bool := okR d && (itemsD d).all ivB
end Tc


namespace Tc
open PySem PySem.Spec Pd
/-! ### what is no set -/
def lenD (d : Dt) : Nat := (itemsD d).length
def wordB : Dt → Bool
  | .str s => decide (s = "set")
  | _ => false
def preB : Dt → Bool
  | .tup [w, m, a, b] => rowB m && (wordB w && (matB a && (boxB b && (decide (lenD m = lenD a) && (decide (lenD a = lenD (firstD (itemsD a))) && (decide (lenD (firstD (itemsD a)) = lenD b) && decide (lenD b = lenD m)))))))
  | _ => false
section
variable {ρ : DEnv} {θ : Pot} {Q : Dt → Pot → Prop} (w m a b : Dt)
end
end Tc


namespace Tc
open PySem PySem.Spec Pd
/-! ### a set by its inverse -/
structure SetM (n : Nat) (mid : Rw) (A : Mx) (b : Bx) : Prop where
  n1 : 1 ≤ n
  n8 : n ≤ 8
  lm : mid.length = n
  sA : Shp n n A
  lb : b.length = n
  iv : ∀ v ∈ b, Iv v
def b8 : Bx := List.replicate 8 (0, 1)
end Tc


namespace Tc
open PySem PySem.Spec Pd
/-! ### odd values -/
def NotSet (d : Dt) : Prop := ∀ (θ : Pot) (R : Ret → Pot → Prop), R (.d (.bl false)) θ → Gv (m_is_set [.dat d] θ) R
/-- a plain value of so many parts -/
def PS (k : Nat) (d : Dt) : Prop := Pl d ∧ siz d ≤ k
def PSs (k : Nat) (l : List Dt) : Prop := ∀ d ∈ l, PS k d
theorem PS.mono {k m : Nat} {d : Dt} (h : PS k d) (l : k ≤ m) : PS m d := ⟨h.1, Nat.le_trans h.2 l⟩
theorem ps_set {k : Nat} (h : 1 ≤ k) : PS k (.str "set") := ⟨by simp only [Pl]; exact ⟨by decide +kernel, by decide +kernel⟩, by simp only [siz]; omega⟩
section
variable {w m a b : Dt}
end
theorem pss_one {k : Nat} {d : Dt} (h : PS k d) : PSs k [d] := fun x hx => by rw [List.mem_singleton.mp hx]; exact h
/-! matrices of determinant 0 -/
theorem rep_flat (n : Nat) (x : Dt) : (List.replicate n [x]).flatten = List.replicate n x := by
  induction n with
  | zero => rfl
  | succ n ih => rw [List.replicate_succ, List.flatten_cons, ih, List.replicate_succ]; rfl
theorem map_rep {α : Type} (f : α → Dt) (n : Nat) (a : α) : (List.replicate n a).map f = List.replicate n (f a) := by rw [List.map_replicate]
/-! none is kept -/
end Tc


namespace Tc
open PySem PySem.Spec Pd
def oddL (n : Nat) (lM lA lB : List Dt) (dU : Dt) : List Dt := [.non, .int 0, .tup [], .lst [], .str "set", .tup [.tup lM, .tup lA, .tup lB], .tup [.str "set", .tup lM, .tup lA, .tup lB, .int 0], .lst [.str "set", .tup lM, .tup lA, .tup lB], .tup [.non, .tup lM, .tup lA, .tup lB],
  .tup [.str "set", .tup lM, .tup (List.replicate n (.tup (List.replicate n (.tup [.int 0, .int 1])))), .tup lB], .tup [.str "set", .tup (lM ++ [.tup [.int 0, .int 1]]), .tup lA, .tup lB], .tup [.str "set", .tup lM, .tup lA, .tup (List.drop 1 lB)], .tup [.str "set", .lst lM, .tup lA, .tup lB],
  .tup [.str "set", .tup lM, .tup lA, .tup (List.replicate n (.tup [.int 1, .int 0]))], .tup [.str "set", .tup (List.replicate n (.tup [.int 2, .int 2])), .tup lA, .tup lB], .tup [.str "set", .tup lM, .lst lA, .tup lB], .tup [.str "set", .tup lM, .tup lA, .tup (List.replicate n (.tup [.bl true, .int 1]))],
  .tup [.str "set", .tup lM, dU, .tup lB], .tup [.str "set", .tup lM, .tup (lA ++ [firstD lA]), .tup lB], .tup [.str "set", .tup lM, .tup (lA.map fun r => .tup (itemsD r ++ [.tup [.int 0, .int 1]])), .tup lB], .tup [.str "set", .non, .tup lA, .tup lB], .tup [.str "set", .tup lM, .non, .tup lB], .tup [.str "set", .tup lM, .tup lA, .non], .tup [.str "set", .tup lM, .tup (List.replicate n .non), .tup lB]]
end Tc


namespace Tc
open PySem PySem.Spec Pd
theorem law_hullE {n : Nat} {mid : Rw} {A : Mx} {b : Bx} {d0 : Dt} {θ : Pot} {Q : Ret → Pot → Prop} (e0 : d0 = dS (dr mid) (dm A) (db b)) (h : OkSet n mid A b) (q : Q (.d (db (hullQ mid A b))) θ) : Gv (m__law_hull [.dat d0] θ) Q := by
  subst e0
  exact law_hull_ok h q
theorem law_pointE {θ : Pot} {n k c : Nat} {mid row : Rw} {A : Mx} {b : Bx} {d0 dx : Dt} {Q : Ret → Pot → Prop} (e0 : d0 = dS (dr mid) (dm A) (db b)) (ex : dx = dr row) (h : SetG n k mid A b) (rm : rok 50 mid) (br : rok c row) (hc : 5 * (k + c) + 60 < 8900) (q : Q (.d (dr (addR mid (ledR A row)))) θ) : Gv (m__law_point [.dat d0, .dat dx] θ) Q := by
  subst e0 ex
  exact law_point_ok rfl h rm br hc q
theorem fl_cl (q : Rat) : fl q ≤ cl q := by
  have a := fl_le q
  have b := le_cl q
  have : ((fl q : Int) : Rat) ≤ ((cl q : Int) : Rat) := Rat.le_trans a b
  exact Rat.intCast_le_intCast.mp this
end Tc


namespace Tc
open PySem PySem.Spec Pd
/-! ### corners -/
def lq (v : I2) : Rat := ((v.1 : Int) : Rat) / oneQ
def hq (v : I2) : Rat := ((v.2 : Int) : Rat) / oneQ
def Ch : Bx → Rw → Prop
  | [], [] => True
  | v :: b, q :: e => (q = lq v ∨ q = hq v) ∧ Ch b e
  | _, _ => False
def two (v : I2) (acc : List Rw) : List Rw := acc.flatMap fun r => [r ++ [lq v], r ++ [hq v]]
def corn : List Rw → Bx → List Rw
  | acc, [] => acc
  | acc, v :: b => corn (two v acc) b
theorem corn_mem : ∀ (b : Bx) (acc : List Rw) (x : Rw), x ∈ corn acc b ↔ ∃ r ∈ acc, ∃ e, Ch b e ∧ x = r ++ e
  | [], acc, x => by
    show x ∈ acc ↔ _
    constructor
    · intro h
      exact ⟨x, h, [], trivial, (List.append_nil x).symm⟩
    · rintro ⟨r, hr, e, he, rfl⟩
      cases e with
      | nil => rw [List.append_nil]; exact hr
      | cons q e => exact he.elim
  | v :: b, acc, x => by
    show x ∈ corn (two v acc) b ↔ _
    rw [corn_mem b]
    constructor
    · rintro ⟨r, hr, e, he, rfl⟩
      obtain ⟨s, hs, hr⟩ := List.mem_flatMap.mp hr
      simp only [List.mem_cons, List.not_mem_nil, or_false] at hr
      rcases hr with rfl | rfl
      · exact ⟨s, hs, lq v :: e, ⟨Or.inl rfl, he⟩, by rw [List.append_assoc]; rfl⟩
      · exact ⟨s, hs, hq v :: e, ⟨Or.inr rfl, he⟩, by rw [List.append_assoc]; rfl⟩
    · rintro ⟨r, hr, e, he, rfl⟩
      cases e with
      | nil => exact he.elim
      | cons q e =>
        obtain ⟨z, he⟩ := he
        refine ⟨r ++ [q], List.mem_flatMap.mpr ⟨r, hr, ?_⟩, e, he, by rw [List.append_assoc]; rfl⟩
        rcases z with rfl | rfl
        · exact List.mem_cons_self
        · exact List.mem_cons_of_mem _ List.mem_cons_self
theorem corn_iff (b : Bx) (x : Rw) : x ∈ corn [[]] b ↔ Ch b x := by
  rw [corn_mem]
  constructor
  · rintro ⟨r, hr, e, he, rfl⟩
    rw [List.mem_singleton.mp hr]
    exact he
  · intro h
    exact ⟨[], List.mem_cons_self, x, h, rfl⟩
theorem Ch_len : ∀ {b : Bx} {e : Rw}, Ch b e → e.length = b.length
  | [], [], _ => rfl
  | v :: b, q :: e, h => by rw [List.length_cons, List.length_cons, Ch_len h.2]
  | [], _ :: _, h => h.elim
  | _ :: _, [], h => h.elim
theorem lq_bz {v : I2} {k : Nat} (h : bi k v.1) (hk : 41 ≤ k) : bz k (lq v) := bz_of (w := (v.1, 1099511627776)) (by show (1099511627776 : Int) ≠ 0; decide) rfl h (show bi k 1099511627776 from (show bi 41 1099511627776 by decide).mono hk)
theorem hq_bz {v : I2} {k : Nat} (h : bi k v.2) (hk : 41 ≤ k) : bz k (hq v) := bz_of (w := (v.2, 1099511627776)) (by show (1099511627776 : Int) ≠ 0; decide) rfl h (show bi k 1099511627776 from (show bi 41 1099511627776 by decide).mono hk)
theorem Ch_bz {k : Nat} (hk : 41 ≤ k) : ∀ {b : Bx} {e : Rw}, Ch b e → (∀ v ∈ b, bi k v.1 ∧ bi k v.2) → rok k e
  | [], [], _, _ => fun q hq => (List.not_mem_nil hq).elim
  | v :: b, q :: e, h, hb => fun x hx => by
    have hv := hb v List.mem_cons_self
    rcases List.mem_cons.mp hx with z | z
    · rw [z]
      rcases h.1 with y | y
      · rw [y]; exact lq_bz hv.1 hk
      · rw [y]; exact hq_bz hv.2 hk
    · exact Ch_bz hk h.2 (fun w hw => hb w (List.mem_cons_of_mem _ hw)) x z
  | [], _ :: _, h, _ => h.elim
  | _ :: _, [], h, _ => h.elim
theorem one_pos : (0 : Rat) < oneQ := by unfold oneQ; decide +kernel
theorem lq_le {v : I2} (h : v.1 ≤ v.2) : lq v ≤ hq v := by
  have h2 : ((v.1 : Int) : Rat) ≤ ((v.2 : Int) : Rat) := Rat.intCast_le_intCast.mpr h
  have a := div_one ((v.1 : Int) : Rat)
  have b := div_one ((v.2 : Int) : Rat)
  have o := one_pos
  show ((v.1 : Int) : Rat) / oneQ ≤ ((v.2 : Int) : Rat) / oneQ
  generalize ((v.1 : Int) : Rat) / oneQ = x at *
  generalize ((v.2 : Int) : Rat) / oneQ = y at *
  have : x * oneQ ≤ y * oneQ := by rw [a, b]; exact h2
  exact Rat.le_of_mul_le_mul_right this o
theorem inB_iff (v : I2) (q : Rat) : inB v q = true ↔ lq v ≤ q ∧ q ≤ hq v := by
  have a := div_one ((v.1 : Int) : Rat)
  have b := div_one ((v.2 : Int) : Rat)
  have o := one_pos
  unfold inB
  rw [Bool.and_eq_true, decide_eq_true_iff, decide_eq_true_iff]
  show _ ↔ ((v.1 : Int) : Rat) / oneQ ≤ q ∧ q ≤ ((v.2 : Int) : Rat) / oneQ
  generalize ((v.1 : Int) : Rat) / oneQ = x at *
  generalize ((v.2 : Int) : Rat) / oneQ = y at *
  rw [← a, ← b]
  constructor
  · rintro ⟨h1, h2⟩
    exact ⟨Rat.le_of_mul_le_mul_right h1 o, Rat.le_of_mul_le_mul_right h2 o⟩
  · rintro ⟨h1, h2⟩
    exact ⟨Rat.mul_le_mul_of_nonneg_right h1 (Rat.le_of_lt o), Rat.mul_le_mul_of_nonneg_right h2 (Rat.le_of_lt o)⟩
/-! least and greatest sums -/
def lowP : List (Rat × I2) → Rat
  | [] => 0
  | p :: ps => p.1 * (if p.1.num ≥ 0 then lq p.2 else hq p.2) + lowP ps
def highP : List (Rat × I2) → Rat
  | [] => 0
  | p :: ps => p.1 * (if p.1.num ≥ 0 then hq p.2 else lq p.2) + highP ps
theorem step_ends {a q : Rat} {v : I2} (h : v.1 ≤ v.2) (hq' : q = lq v ∨ q = hq v) : a * (if a.num ≥ 0 then lq v else hq v) ≤ a * q ∧ a * q ≤ a * (if a.num ≥ 0 then hq v else lq v) := by
  have l := lq_le h
  by_cases c : a.num ≥ 0
  · have ca : 0 ≤ a := Rat.num_nonneg.mp c
    rw [if_pos c, if_pos c]
    rcases hq' with rfl | rfl
    · exact ⟨Rat.le_refl, Rat.mul_le_mul_of_nonneg_left l ca⟩
    · exact ⟨Rat.mul_le_mul_of_nonneg_left l ca, Rat.le_refl⟩
  · have ca : a ≤ 0 := by
      have : ¬ 0 ≤ a := fun z => c (Rat.num_nonneg.mpr z)
      exact Rat.le_of_lt (Rat.not_le.mp this)
    rw [if_neg c, if_neg c]
    have m : a * hq v ≤ a * lq v := by
      generalize lq v = x at *
      generalize hq v = y at *
      have := Rat.mul_le_mul_of_nonneg_left l (show 0 ≤ -a by grind)
      grind
    rcases hq' with rfl | rfl
    · exact ⟨m, Rat.le_refl⟩
    · exact ⟨Rat.le_refl, m⟩
theorem low_le : ∀ (r : Rw) (b : Bx) (e : Rw), r.length = b.length → (∀ v ∈ b, v.1 ≤ v.2) → Ch b e → lowP (r.zip b) ≤ dotP (r.zip e) ∧ dotP (r.zip e) ≤ highP (r.zip b)
  | [], [], [], _, _, _ => ⟨Rat.le_refl, Rat.le_refl⟩
  | a :: r, v :: b, q :: e, hl, hv, h => by
    have ih := low_le r b e (by simpa using hl) (fun w hw => hv w (List.mem_cons_of_mem _ hw)) h.2
    have s := step_ends (a := a) (hv v List.mem_cons_self) h.1
    show a * (if a.num ≥ 0 then lq v else hq v) + lowP (r.zip b) ≤ a * q + dotP (r.zip e) ∧ a * q + dotP (r.zip e) ≤ a * (if a.num ≥ 0 then hq v else lq v) + highP (r.zip b)
    generalize a * (if a.num ≥ 0 then lq v else hq v) = x1 at *
    generalize a * (if a.num ≥ 0 then hq v else lq v) = x2 at *
    generalize a * q = x3 at *
    grind
  | [], [], _ :: _, _, _, h => h.elim
  | _ :: _, _ :: _, [], _, _, h => h.elim
theorem low_at : ∀ (r : Rw) (b : Bx), r.length = b.length → ∃ e, Ch b e ∧ dotP (r.zip e) = lowP (r.zip b)
  | [], [], _ => ⟨[], trivial, rfl⟩
  | a :: r, v :: b, hl => by
    obtain ⟨e, he, h⟩ := low_at r b (by simpa using hl)
    refine ⟨(if a.num ≥ 0 then lq v else hq v) :: e, ⟨?_, he⟩, ?_⟩
    · by_cases c : a.num ≥ 0
      · rw [if_pos c]; exact Or.inl rfl
      · rw [if_neg c]; exact Or.inr rfl
    · show a * _ + dotP (r.zip e) = a * _ + lowP (r.zip b)
      rw [h]
theorem high_at : ∀ (r : Rw) (b : Bx), r.length = b.length → ∃ e, Ch b e ∧ dotP (r.zip e) = highP (r.zip b)
  | [], [], _ => ⟨[], trivial, rfl⟩
  | a :: r, v :: b, hl => by
    obtain ⟨e, he, h⟩ := high_at r b (by simpa using hl)
    refine ⟨(if a.num ≥ 0 then hq v else lq v) :: e, ⟨?_, he⟩, ?_⟩
    · by_cases c : a.num ≥ 0
      · rw [if_pos c]; exact Or.inr rfl
      · rw [if_neg c]; exact Or.inl rfl
    · show a * _ + dotP (r.zip e) = a * _ + highP (r.zip b)
      rw [h]
end Tc


namespace Tc
open PySem PySem.Spec Pd
/-! ### one set within another -/
def backQ (n : Nat) (A : Mx) : Mx := mxOf n (invN n (ent A))
def withinB (n : Nat) (m1 : Rw) (A1 : Mx) (b1 : Bx) (m2 : Rw) (A2 : Mx) (b2 : Bx) : Bool := (corn [[]] b1).all fun c => hasB b2 (ledR (backQ n A2) (subR (addR m1 (ledR A1 c)) m2))
def rowIn (b1 : Bx) (p : Rw × Rat × I2) : Bool := decide (((p.2.2.1 : Int) : Rat) ≤ (p.2.1 + lowP (p.1.zip b1)) * oneQ) && decide ((p.2.1 + highP (p.1.zip b1)) * oneQ ≤ ((p.2.2.2 : Int) : Rat))
def rowsIn (b1 : Bx) (R : Mx) (s : Rw) (b2 : Bx) : Bool := (R.zip (s.zip b2)).all (rowIn b1)
def progB (n : Nat) (m1 : Rw) (A1 : Mx) (b1 : Bx) (m2 : Rw) (A2 : Mx) (b2 : Bx) : Bool := rowsIn b1 (prodQ (backQ n A2) (colsQ n A1)) (ledR (backQ n A2) (subR m1 m2)) b2
theorem has_rows (c : Rw) : ∀ (R : Mx) (s : Rw) (b : Bx), hasB b (addR s (ledR R c)) = (R.zip (s.zip b)).all fun p => inB p.2.2 (p.2.1 + dotQ p.1 c)
  | [], [], b => rfl
  | [], _ :: _, b => rfl
  | _ :: _, [], b => rfl
  | _ :: _, _ :: _, [] => rfl
  | r :: R, x :: s, v :: b => by
    show (inB v (x + dotQ r c) && hasB b (addR s (ledR R c))) = (inB v (x + dotQ r c) && (R.zip (s.zip b)).all fun p => inB p.2.2 (p.2.1 + dotQ p.1 c))
    rw [has_rows c R s b]
theorem led_shift {n : Nat} {m1 m2 c : Rw} {A1 B : Mx} (s1 : Shp n n A1) (sB : Shp n n B) (l1 : m1.length = n) (l2 : m2.length = n) (lc : c.length = n) : ledR B (subR (addR m1 (ledR A1 c)) m2) = addR (ledR B (subR m1 m2)) (ledR (prodQ B (colsQ n A1)) c) := by
  have la := ledR_len s1 c
  have e : subR (addR m1 (ledR A1 c)) m2 = addR (subR m1 m2) (ledR A1 c) := by
    refine rw_ext (subR_len (addR_len l1 la) l2) (addR_len (subR_len l1 l2) la) fun i hi => ?_
    rw [subR_getD (addR_len l1 la) l2 hi, addR_getD l1 la hi, addR_getD (subR_len l1 l2) la hi, subR_getD l1 l2 hi]
    grind
  rw [e, led_add sB (subR_len l1 l2) la, led_led sB s1 lc]
theorem within_eq {n : Nat} {m1 m2 : Rw} {A1 A2 : Mx} {b1 b2 : Bx} (s1 : Shp n n A1) (l1 : m1.length = n) (l2 : m2.length = n) (lb : b1.length = n) (hv : ∀ v ∈ b1, v.1 ≤ v.2) : progB n m1 A1 b1 m2 A2 b2 = withinB n m1 A1 b1 m2 A2 b2 := by
  have sB : Shp n n (backQ n A2) := mxOf_shp _ _
  have sR := prod_shp sB (cols_shp s1)
  unfold progB withinB rowsIn
  rw [Bool.eq_iff_iff, List.all_eq_true, List.all_eq_true]
  generalize hS : ledR (backQ n A2) (subR m1 m2) = s
  have hr : ∀ p ∈ (prodQ (backQ n A2) (colsQ n A1)).zip (s.zip b2), p.1.length = b1.length := fun p hp => by rw [sR.w _ (List.of_mem_zip hp).1, lb]
  have ro : ∀ (p : Rw × Rat × I2), rowIn b1 p = true ↔ lq p.2.2 ≤ p.2.1 + lowP (p.1.zip b1) ∧ p.2.1 + highP (p.1.zip b1) ≤ hq p.2.2 := fun p => by
    have i1 := inB_iff p.2.2 (p.2.1 + lowP (p.1.zip b1))
    have i2 := inB_iff p.2.2 (p.2.1 + highP (p.1.zip b1))
    unfold inB at i1 i2
    unfold rowIn
    rw [Bool.and_eq_true, decide_eq_true_iff, decide_eq_true_iff] at i1 i2 ⊢
    have a := div_one ((p.2.2.1 : Int) : Rat)
    have b := div_one ((p.2.2.2 : Int) : Rat)
    have o := one_pos
    show _ ↔ ((p.2.2.1 : Int) : Rat) / oneQ ≤ _ ∧ _ ≤ ((p.2.2.2 : Int) : Rat) / oneQ
    generalize ((p.2.2.1 : Int) : Rat) / oneQ = x at *
    generalize ((p.2.2.2 : Int) : Rat) / oneQ = y at *
    rw [← a, ← b]
    constructor
    · rintro ⟨h1, h2⟩
      exact ⟨Rat.le_of_mul_le_mul_right h1 o, Rat.le_of_mul_le_mul_right h2 o⟩
    · rintro ⟨h1, h2⟩
      exact ⟨Rat.mul_le_mul_of_nonneg_right h1 (Rat.le_of_lt o), Rat.mul_le_mul_of_nonneg_right h2 (Rat.le_of_lt o)⟩
  have hc : ∀ c, Ch b1 c → (hasB b2 (ledR (backQ n A2) (subR (addR m1 (ledR A1 c)) m2)) = true ↔ ∀ p ∈ (prodQ (backQ n A2) (colsQ n A1)).zip (s.zip b2), lq p.2.2 ≤ p.2.1 + dotQ p.1 c ∧ p.2.1 + dotQ p.1 c ≤ hq p.2.2) := fun c h => by
    rw [led_shift s1 sB l1 l2 (by rw [Ch_len h, lb]), hS, has_rows, List.all_eq_true]
    constructor
    · intro z p hp
      exact (inB_iff _ _).mp (z p hp)
    · intro z p hp
      exact (inB_iff _ _).mpr (z p hp)
  constructor
  · intro h c hcm
    have ch := (corn_iff b1 c).mp hcm
    rw [hc c ch]
    intro p hp
    have z := (ro p).mp (h p hp)
    have y := low_le p.1 b1 c (hr p hp) hv ch
    unfold dotQ
    generalize lowP (p.1.zip b1) = x1 at *
    generalize highP (p.1.zip b1) = x2 at *
    generalize dotP (p.1.zip c) = x3 at *
    grind
  · intro h p hp
    rw [ro]
    obtain ⟨e1, c1, z1⟩ := low_at p.1 b1 (hr p hp)
    obtain ⟨e2, c2, z2⟩ := high_at p.1 b1 (hr p hp)
    have y1 := (hc e1 c1).mp (h e1 ((corn_iff b1 e1).mpr c1)) p hp
    have y2 := (hc e2 c2).mp (h e2 ((corn_iff b1 e2).mpr c2)) p hp
    unfold dotQ at y1 y2
    rw [z1] at y1
    rw [z2] at y2
    exact ⟨y1.1, y2.2⟩
theorem Ch_has : ∀ {b : Bx} {c : Rw}, (∀ v ∈ b, v.1 ≤ v.2) → Ch b c → hasB b c = true
  | [], [], _, _ => rfl
  | v :: b, q :: c, hv, h => by
    show (inB v q && hasB b c) = true
    rw [Ch_has (fun w hw => hv w (List.mem_cons_of_mem _ hw)) h.2, Bool.and_true, inB_iff]
    have l := lq_le (hv v List.mem_cons_self)
    rcases h.1 with rfl | rfl
    · exact ⟨Rat.le_refl, l⟩
    · exact ⟨l, Rat.le_refl⟩
  | [], _ :: _, _, h => h.elim
  | _ :: _, [], _, h => h.elim
theorem within_self {n : Nat} {mid : Rw} {A : Mx} {b : Bx} (h1 : 1 ≤ n) (h3 : n ≤ 3) (sA : Shp n n A) (lm : mid.length = n) (lb : b.length = n) (nz : detN n (ent A) ≠ 0) (hv : ∀ v ∈ b, v.1 ≤ v.2) : withinB n mid A b mid A b = true := by
  unfold withinB
  rw [List.all_eq_true]
  intro c hc
  have ch := (corn_iff b c).mp hc
  have lc : c.length = n := by rw [Ch_len ch, lb]
  unfold backQ
  rw [sub_add lm (ledR_len sA c), led_back h1 h3 sA nz lc]
  exact Ch_has hv ch
theorem within_hull {n : Nat} {mid : Rw} {A : Mx} {b : Bx} (h1 : 1 ≤ n) (h3 : n ≤ 3) (sA : Shp n n A) (lm : mid.length = n) (lb : b.length = n) (hv : ∀ v ∈ b, v.1 ≤ v.2) : withinB n mid A b ((hullQ mid A b).map midq) (unitQ n) ((hullQ mid A b).map leftv) = true := by
  unfold withinB
  rw [List.all_eq_true]
  intro c hc
  have ch := (corn_iff b c).mp hc
  have lc : c.length = n := by rw [Ch_len ch, lb]
  have la := ledR_len sA c
  have lp := addR_len lm la
  have lh : ((hullQ mid A b).map midq).length = n := by
    unfold hullQ
    rw [List.length_map, List.length_map, List.length_zip, lm, sA.h, Nat.min_self]
  have ls := subR_len lp lh
  have uz : detN n (ent (unitQ n)) ≠ 0 := by rw [unit_det h1 h3]; decide
  have lk := led_back h1 h3 (unitQ_shp n) uz ls
  rw [led_unit ls] at lk
  unfold backQ
  rw [lk, has_left]
  exact hull_has sA lb lc (Ch_has hv ch)
/-! scaled matrices -/
def scaleM (c : Rat) (A : Mx) : Mx := A.map fun r => r.map fun q => c * q
theorem scale_shp {n w : Nat} {A : Mx} (c : Rat) (sA : Shp n w A) : Shp n w (scaleM c A) := ⟨by unfold scaleM; rw [List.length_map, sA.h], fun r hr => by
  obtain ⟨s, hs, rfl⟩ := List.mem_map.mp hr
  rw [List.length_map, sA.w s hs]⟩
theorem ent_scale {n w i j : Nat} {A : Mx} {c : Rat} (sA : Shp n w A) (hi : i < n) (hj : j < w) : ent (scaleM c A) i j = c * ent A i j := by
  have li : i < A.length := by rw [sA.h]; exact hi
  have lj : j < A[i].length := by rw [sA.w _ (List.getElem_mem li)]; exact hj
  unfold ent scaleM
  simp [List.getD_eq_getElem?_getD, li, lj]
theorem det_scale {n : Nat} {A : Mx} {c : Rat} (h1 : 1 ≤ n) (h3 : n ≤ 3) (sA : Shp n n A) (hc : c ≠ 0) (nz : detN n (ent A) ≠ 0) : detN n (ent (scaleM c A)) ≠ 0 := by
  have e : detN n (ent (scaleM c A)) = detN n fun i j => c * ent A i j := detN_congr h3 fun i hi j hj => ent_scale sA hi hj
  rw [e]
  generalize ent A = m at *
  match n, h1, h3 with
  | 1, _, _ =>
    simp only [detN] at *
    grind
  | 2, _, _ =>
    simp only [detN] at *
    intro z
    apply nz
    have : c * c * (m 0 0 * m 1 1 - m 0 1 * m 1 0) = 0 := by grind
    grind
  | 3, _, _ =>
    simp only [detN] at *
    intro z
    apply nz
    generalize hd : m 0 0 * (m 1 1 * m 2 2 - m 1 2 * m 2 1) - m 0 1 * (m 1 0 * m 2 2 - m 1 2 * m 2 0) + m 0 2 * (m 1 0 * m 2 1 - m 1 1 * m 2 0) = d
    have : c * (c * (c * d)) = 0 := by rw [← hd]; grind
    grind
theorem inv_scale {n : Nat} {A : Mx} {c : Rat} (h1 : 1 ≤ n) (h3 : n ≤ 3) (sA : Shp n n A) (hc : c ≠ 0) (nz : detN n (ent A) ≠ 0) : ∀ i, i < n → ∀ j, j < n → invN n (ent (scaleM c A)) i j = (1 / c) * invN n (ent A) i j := by
  intro i hi j hj
  refine (inv_one (x := fun i j => (1 / c) * invN n (ent A) i j) h1 h3 (det_scale h1 h3 sA hc nz) (fun i hi j hj => ?_) i hi j hj).symm
  rw [← inv_left h1 h3 nz i hi j hj]
  refine sm_congr n fun k hk => ?_
  rw [ent_scale sA hk hj]
  generalize invN n (ent A) i k = x
  generalize ent A k j = y
  have : c * (1 / c) = 1 := by grind
  generalize 1 / c = u at *
  grind
theorem back_scale {n j : Nat} {A : Mx} {c : Rat} {d : Nat} (h1 : 1 ≤ n) (h3 : n ≤ 3) (sA : Shp n n A) (hc : c ≠ 0) (nz : detN n (ent A) ≠ 0) (m : mok j (backQ n A)) (bc : bz d (1 / c)) : mok (j + d) (backQ n (scaleM c A)) := by
  refine mok_of_ent (mxOf_shp n _) fun i hi k hk => ?_
  unfold backQ
  rw [ent_mxOf _ hi hk, inv_scale h1 h3 sA hc nz i hi k hk]
  have : bz j (invN n (ent A) i k) := by
    have := mok_ent (mxOf_shp n (invN n (ent A))) m hi hk
    rwa [ent_mxOf _ hi hk] at this
  exact (bz.mul bc this).mono (by omega)
end Tc


namespace Tc
open PySem PySem.Spec Pd
/-! ### corners and ends, walked -/
theorem two_cons (v : I2) (r : Rw) (rows : List Rw) : two v (r :: rows) = [r ++ [lq v], r ++ [hq v]] ++ two v rows := rfl
theorem two_len (v : I2) : ∀ rows : List Rw, (two v rows).length = 2 * rows.length
  | [] => rfl
  | r :: rows => by
    simp only [two_cons, List.length_append, two_len v rows, List.length_cons, List.length_nil]
    omega
theorem corn_rows {θ : Pot} {v : I2} {e0 e1 : Option Ent} {Q : Out → Pot → Prop} (hv : bi 80 v.1 ∧ bi 80 v.2) (rows : List Rw) : ∀ (L : List Rw) (x5 x6 : Option Ent), (∀ r ∈ rows, r.length ≤ 3) → L.length + 2 * rows.length ≤ 50 → (∀ x5 x6, Q (.next [e0, e1, some (.dat (.int v.1)), some (.dat (.int v.2)), some (.own ((L ++ two v rows).map dr)), x5, x6]) θ) →
    Gv (forGo (.n 5) (mFor (.n 6) (mSeqI (mLst (mCons (mVar 2) (mCons (mVar 3) mNil)))) (mApp 4 (mOp gAdd2 (mVar 5) (mTup (mCons (mCallD m__law_made [] [0, 1] (mECons (mVar 6) (mECons (mCallD m__law_one [] [] mENil mENil) mENil)) mENil) mNil))))) (rows.map dr) [e0, e1, some (.dat (.int v.1)), some (.dat (.int v.2)), some (.own (L.map dr)), x5, x6] θ) Q := by
  induction rows with
  | nil =>
    intro L x5 x6 _ _ q
    have : L ++ two v [] = L := List.append_nil L
    rw [this] at q
    exact q x5 x6
  | cons r rows ih =>
    intro L x5 x6 hr hl q
    have lr := hr r List.mem_cons_self
    rw [List.length_cons] at hl
    have ad : ∀ (q : Rat) (ρ : DEnv) (θ : Pot) (Q : Dt → Pot → Prop), Gv (opt (gAdd2 (dr r) (.tup [dq q])) ρ θ) Q = Q (dr (r ++ [q])) θ := fun q ρ θ Q => by
      rw [dr_t, add2_t, dr_t, List.map_append]
      exact propext ⟨fun z => z.2, fun z => ⟨Nat.lt_of_le_of_lt (show (r.map dq).length + 1 ≤ 100 by rw [List.length_map]; omega) (by decide), z⟩⟩
    have b1 : (L.map dr).length < bigL := Nat.lt_of_le_of_lt (show (L.map dr).length ≤ 100 by rw [List.length_map]; omega) (by decide)
    have b2 : (L.map dr).length + 1 < bigL := Nat.lt_of_le_of_lt (show (L.map dr).length + 1 ≤ 100 by rw [List.length_map]; omega) (by decide)
    rw [List.map_cons]
    simp! [bindT_n]
    refine law_one_ok ?_
    simp! [true_and]
    refine law_made_ok (by decide) (show bi 41 1099511627776 by decide) (by omega) ?_
    simp! [ad, b1, bindT_n]
    refine law_one_ok ?_
    simp! [true_and]
    refine law_made_ok (by decide) (show bi 41 1099511627776 by decide) (by omega) ?_
    simp! [ad, b2, List.length_append]
    have e : (L.map dr ++ [dr (r ++ [((v.1 : Int) : Rat) / ((1099511627776 : Int) : Rat)])]) ++ [dr (r ++ [((v.2 : Int) : Rat) / ((1099511627776 : Int) : Rat)])] = (L ++ [r ++ [lq v], r ++ [hq v]]).map dr := by
      rw [List.map_append, List.append_assoc]
      rfl
    rw [e]
    refine ih _ _ _ (fun s hs => hr s (List.mem_cons_of_mem _ hs)) (by rw [List.length_append]; show L.length + 2 + _ ≤ 50; omega) fun x5 x6 => ?_
    have := q x5 x6
    rw [two_cons, ← List.append_assoc] at this
    exact this
theorem corn_loop {θ : Pot} {e0 : Option Ent} {Q : Out → Pot → Prop} (b : Bx) : ∀ (acc : List Rw) (x2 x3 x4 x5 x6 : Option Ent), (∀ v ∈ b, bi 80 v.1 ∧ bi 80 v.2) → (∀ r ∈ acc, r.length + b.length ≤ 3) → acc.length * 2 ^ b.length ≤ 8 → (∀ x2 x3 x4 x5 x6, Q (.next [e0, some (.dat (.lst ((corn acc b).map dr))), x2, x3, x4, x5, x6]) θ) →
    Gv (forGo (.t [2, 3]) (mSeq (mSetO 4 mNil) (mSeq (mFor (.n 5) (mSeqI (mVar 1)) (mFor (.n 6) (mSeqI (mLst (mCons (mVar 2) (mCons (mVar 3) mNil)))) (mApp 4 (mOp gAdd2 (mVar 5) (mTup (mCons (mCallD m__law_made [] [0, 1] (mECons (mVar 6) (mECons (mCallD m__law_one [] [] mENil mENil) mENil)) mENil) mNil)))))) (mFrz 4 (mSet 1 (mVar 4))))) (b.map dv) [e0, some (.dat (.lst (acc.map dr))), x2, x3, x4, x5, x6] θ) Q := by
  induction b with
  | nil =>
    intro acc x2 x3 x4 x5 x6 _ _ _ q
    exact q x2 x3 x4 x5 x6
  | cons v b ih =>
    intro acc x2 x3 x4 x5 x6 hb hr hl q
    have hv := hb v List.mem_cons_self
    rw [List.length_cons, Nat.pow_succ] at hl
    have la : acc.length ≤ 8 := by
      have : 1 ≤ 2 ^ b.length := Nat.one_le_two_pow
      have : acc.length * 1 ≤ acc.length * (2 ^ b.length * 2) := Nat.mul_le_mul_left _ (by omega)
      omega
    have lb : (acc.map dr).length < bigL := Nat.lt_of_le_of_lt (show (acc.map dr).length ≤ 100 by rw [List.length_map]; omega) (by decide)
    rw [List.map_cons]
    simp! [dv_t, bindT_2, lb]
    refine corn_rows hv acc [] _ _ (fun r z => by have := hr r z; rw [List.length_cons] at this; omega) (by show 0 + _ ≤ 50; omega) fun x5 x6 => ?_
    simp! [true_and]
    refine ih (two v acc) _ _ _ _ _ (fun w hw => hb w (List.mem_cons_of_mem _ hw)) (fun r hrm => ?_) (by rw [two_len]; calc 2 * acc.length * 2 ^ b.length = acc.length * (2 ^ b.length * 2) := by rw [Nat.mul_comm 2, Nat.mul_assoc, Nat.mul_comm 2]
        _ ≤ 8 := hl) q
    obtain ⟨s, hs, hrm⟩ := List.mem_flatMap.mp hrm
    have ls := hr s hs
    rw [List.length_cons] at ls
    simp only [List.mem_cons, List.not_mem_nil, or_false] at hrm
    rcases hrm with rfl | rfl <;> (rw [List.length_append]; show s.length + 1 + b.length ≤ 3; omega)
theorem law_corners_ok {θ : Pot} {b : Bx} {dB : Dt} {Q : Ret → Pot → Prop} (eB : dB = db b) (hb : ∀ v ∈ b, bi 80 v.1 ∧ bi 80 v.2) (lb : b.length ≤ 3) (q : Q (.d (.lst ((corn [[]] b).map dr))) θ) : Gv (m__law_corners [.dat dB] θ) Q := by
  have sq : ∀ (ρ : DEnv) (θ : Pot) (Q : List Dt → Pot → Prop), Gv (opt (seqOf dB) ρ θ) Q = Q (b.map dv) θ := fun ρ θ Q => by rw [eB]; rfl
  have l1 : (b.map dv).length < bigL := Nat.lt_of_le_of_lt (show (b.map dv).length ≤ 3 by rw [List.length_map]; exact lb) (by decide)
  unfold m__law_corners r__law_corners
  simp! [sq, l1]
  refine corn_loop b [[]] none none none none none hb (fun r hr => by rw [List.mem_singleton.mp hr]; show 0 + _ ≤ 3; omega) (by show 1 * 2 ^ b.length ≤ 8; have := Nat.pow_le_pow_right (show 0 < 2 by omega) lb; omega) fun x2 x3 x4 x5 x6 => ?_
  simp! [true_and]
  exact q
end Tc


namespace Tc
open PySem PySem.Spec Pd
structure SetW (n : Nat) (mid : Rw) (A : Mx) (b : Bx) : Prop where
  g : SetG n 23 mid A b
  ib : mok 100 (backQ n A)
  rm : rok 100 mid
theorem SetW.v {n : Nat} {mid : Rw} {A : Mx} {b : Bx} (h : SetW n mid A b) : ∀ v ∈ b, v.1 ≤ v.2 := fun v hv => (h.g.iv v hv).le
theorem SetW.b80 {n : Nat} {mid : Rw} {A : Mx} {b : Bx} (h : SetW n mid A b) : ∀ v ∈ b, bi 80 v.1 ∧ bi 80 v.2 := fun v hv => (h.g.iv v hv).b
theorem ends_loop {θ : Pot} {e0 e1 : Option Ent} {a : Nat} (ha : a ≤ 2000) {Q : Out → Pot → Prop} (L H : Rat) (q : ∀ x4 x5 x6 x7 x8, Q (.next [e0, e1, some (.dat (dq L)), some (.dat (dq H)), x4, x5, x6, x7, x8]) θ) (ps : List (Rat × I2)) : ∀ (m : Nat) (l h : Rat) (x4 x5 x6 x7 x8 : Option Ent), (∀ p ∈ ps, bz a p.1 ∧ bi 80 p.2.1 ∧ bi 80 p.2.2) → m + ps.length ≤ 3 → bz (m * (a + 82)) l → bz (m * (a + 82)) h → l + lowP ps = L → h + highP ps = H →
    Gv (forGo (.m [.n 4, .t [5, 6]]) (mSeq (mAsg (.t [7, 8]) (mIte (mBool (mOp gGe (mOp gIx (mVar 4) (ret (.int 0))) (ret (.int 0)))) (mTup (mCons (mVar 5) (mCons (mVar 6) mNil))) (mTup (mCons (mVar 6) (mCons (mVar 5) mNil))))) (mSeq (mSet 2 (mCallD m_add_ratios [] [0, 1] (mECons (mVar 2) (mECons (mCallD m_mul_ratios [] [0, 1] (mECons (mVar 4) (mECons (mCallD m_made_ratio [] [0, 1] (mECons (mVar 7) (mECons (ret (.int (1099511627776))) mENil)) mENil) mENil)) mENil) mENil)) mENil)) (mSet 3 (mCallD m_add_ratios [] [0, 1] (mECons (mVar 3) (mECons (mCallD m_mul_ratios [] [0, 1] (mECons (mVar 4) (mECons (mCallD m_made_ratio [] [0, 1] (mECons (mVar 8) (mECons (ret (.int (1099511627776))) mENil)) mENil) mENil)) mENil) mENil)) mENil)))) (ps.map fun p => .tup [dq p.1, dv p.2]) [e0, e1, some (.dat (dq l)), some (.dat (dq h)), x4, x5, x6, x7, x8] θ) Q := by
  induction ps with
  | nil =>
    intro m l h x4 x5 x6 x7 x8 _ _ _ _ e1 e2
    have z1 : l = L := by have : l + 0 = L := e1; grind
    have z2 : h = H := by have : h + 0 = H := e2; grind
    rw [z1, z2]
    exact q x4 x5 x6 x7 x8
  | cons p ps ih =>
    intro m l h x4 x5 x6 x7 x8 hp hm bl bh e1 e2
    obtain ⟨bp, b1, b2⟩ := hp p List.mem_cons_self
    rw [List.length_cons] at hm
    have bb : ∀ ρ, bindT (.m [.n 4, .t [5, 6]]) (.tup [dq p.1, dv p.2]) ρ = some (((ρ.set 4 (some (.dat (dq p.1)))).set 5 (some (.dat (.int p.2.1)))).set 6 (some (.dat (.int p.2.2)))) := fun ρ => rfl
    have m3 : m * (a + 82) ≤ 2 * (a + 82) := Nat.mul_le_mul_right _ (by omega)
    have ms : (m + 1) * (a + 82) = m * (a + 82) + (a + 82) := Nat.succ_mul _ _
    have zl := lq_bz (v := p.2) b1 (by omega)
    have zh := hq_bz (v := p.2) b2 (by omega)
    rw [List.map_cons]
    by_cases c : p.1.num ≥ 0
    · have c' : 0 ≤ p.1.num := c
      simp! [bb, gv_q0, c, c', bindT_2]
      refine made_ok (by decide) (show bi 41 1099511627776 by decide) (by omega) ?_
      simp! [true_and]
      refine mul_ok bp zl (by omega) ?_
      simp! [true_and]
      refine add_ok bl (bp.mul zl) (by omega) ?_
      simp! [true_and]
      refine made_ok (by decide) (show bi 41 1099511627776 by decide) (by omega) ?_
      simp! [true_and]
      refine mul_ok bp zh (by omega) ?_
      simp! [true_and]
      refine add_ok bh (bp.mul zh) (by omega) ?_
      simp! [true_and]
      refine ih (m + 1) (l + p.1 * lq p.2) (h + p.1 * hq p.2) _ _ _ _ _ (fun r hr => hp r (List.mem_cons_of_mem _ hr)) (by omega) ((bl.add (bp.mul zl)).mono (by omega)) ((bh.add (bp.mul zh)).mono (by omega)) ?_ ?_
      · have e1 : l + (p.1 * (if p.1.num ≥ 0 then lq p.2 else hq p.2) + lowP ps) = L := e1
        rw [if_pos c] at e1
        rw [← e1]
        generalize p.1 * lq p.2 = y
        grind
      · have e2 : h + (p.1 * (if p.1.num ≥ 0 then hq p.2 else lq p.2) + highP ps) = H := e2
        rw [if_pos c] at e2
        rw [← e2]
        generalize p.1 * hq p.2 = y
        grind
    · have c' : ¬ 0 ≤ p.1.num := c
      simp! [bb, gv_q0, c, c', bindT_2]
      refine made_ok (by decide) (show bi 41 1099511627776 by decide) (by omega) ?_
      simp! [true_and]
      refine mul_ok bp zh (by omega) ?_
      simp! [true_and]
      refine add_ok bl (bp.mul zh) (by omega) ?_
      simp! [true_and]
      refine made_ok (by decide) (show bi 41 1099511627776 by decide) (by omega) ?_
      simp! [true_and]
      refine mul_ok bp zl (by omega) ?_
      simp! [true_and]
      refine add_ok bh (bp.mul zl) (by omega) ?_
      simp! [true_and]
      refine ih (m + 1) (l + p.1 * hq p.2) (h + p.1 * lq p.2) _ _ _ _ _ (fun r hr => hp r (List.mem_cons_of_mem _ hr)) (by omega) ((bl.add (bp.mul zh)).mono (by omega)) ((bh.add (bp.mul zl)).mono (by omega)) ?_ ?_
      · have e1 : l + (p.1 * (if p.1.num ≥ 0 then lq p.2 else hq p.2) + lowP ps) = L := e1
        rw [if_neg c] at e1
        rw [← e1]
        generalize p.1 * hq p.2 = y
        grind
      · have e2 : h + (p.1 * (if p.1.num ≥ 0 then hq p.2 else lq p.2) + highP ps) = H := e2
        rw [if_neg c] at e2
        rw [← e2]
        generalize p.1 * lq p.2 = y
        grind
theorem low_bz {a : Nat} : ∀ (ps : List (Rat × I2)), (∀ p ∈ ps, bz a p.1 ∧ bi 80 p.2.1 ∧ bi 80 p.2.2) → bz (ps.length * (a + 82)) (lowP ps) ∧ bz (ps.length * (a + 82)) (highP ps)
  | [], _ => ⟨bz.zero, bz.zero⟩
  | p :: ps, h => by
    obtain ⟨bp, b1, b2⟩ := h p List.mem_cons_self
    obtain ⟨i1, i2⟩ := low_bz ps fun r hr => h r (List.mem_cons_of_mem _ hr)
    have zl := lq_bz (v := p.2) b1 (by omega)
    have zh := hq_bz (v := p.2) b2 (by omega)
    have ms : (ps.length + 1) * (a + 82) = ps.length * (a + 82) + (a + 82) := Nat.succ_mul _ _
    rw [List.length_cons, ms]
    have w1 : bz 80 (if p.1.num ≥ 0 then lq p.2 else hq p.2) := by split <;> assumption
    have w2 : bz 80 (if p.1.num ≥ 0 then hq p.2 else lq p.2) := by split <;> assumption
    exact ⟨((bp.mul w1).add i1).mono (by omega), ((bp.mul w2).add i2).mono (by omega)⟩
theorem ends_led_ok {θ : Pot} {r : Rw} {b : Bx} {a : Nat} {dr0 dB : Dt} {Q : Ret → Pot → Prop} (er : dr0 = dr r) (eB : dB = db b) (hr : rok a r) (ha : a ≤ 2000) (hb : ∀ v ∈ b, bi 80 v.1 ∧ bi 80 v.2) (l : r.length ≤ 3) (q : Q (.d (.tup [dq (lowP (r.zip b)), dq (highP (r.zip b))])) θ) : Gv (m_ends_led [.dat dr0, .dat dB] θ) Q := by
  have zz : ∀ (ρ : DEnv) (θ : Pot) (Q : List Dt → Pot → Prop), Gv (opt (zipB [dr0, dB]) ρ θ) Q = Q ((r.zip b).map fun p => .tup [dq p.1, dv p.2]) θ := fun ρ θ Q => by
    rw [er, eB, dr_t, db_t]
    show Q (pairs _ _) θ = _
    rw [pairs_map]
  have lz : (r.zip b).length ≤ 3 := by rw [List.length_zip]; omega
  have l1 : (r.zip b).length < bigL := Nat.lt_of_le_of_lt lz (by decide)
  have d0 : Dt.tup [.int 0, .int 1] = dq 0 := rfl
  unfold m_ends_led r_ends_led
  simp! [zz, d0, List.length_map, l1]
  refine ends_loop ha (lowP (r.zip b)) (highP (r.zip b)) (fun x4 x5 x6 x7 x8 => ?_) (r.zip b) 0 0 0 _ _ _ _ _ (fun p hp => ⟨hr _ (List.of_mem_zip hp).1, hb _ (List.of_mem_zip hp).2⟩) (by omega) bz.zero bz.zero (by grind) (by grind)
  simp! [true_and]
  exact q
end Tc


namespace Tc
open PySem PySem.Spec Pd
theorem within_loop {θ : Pot} {d0 dB1 : Dt} {b1 : Bx} {a c : Nat} {e1 e2 e3 e4 : Option Ent} {Q : Ret → Pot → Prop} (g3 : ∀ (ρ : DEnv) (θ : Pot) (Q : Dt → Pot → Prop), Gv (opt (gIx d0 (.int 3)) ρ θ) Q = Q dB1 θ) (eB : dB1 = db b1) (hb : ∀ v ∈ b1, bi 80 v.1 ∧ bi 80 v.2) (ha : a ≤ 1500) (hc : c ≤ 1500) (ps : List (Rw × Rat × I2)) : ∀ (x5 x6 x7 x8 x9 : Option Ent), (∀ p ∈ ps, rok a p.1 ∧ p.1.length ≤ 3 ∧ bz c p.2.1 ∧ bi 80 p.2.2.1 ∧ bi 80 p.2.2.2) → Q (.d (.bl (ps.all (rowIn b1)))) θ →
    Gv (forGo (.t [5, 6, 7]) (mSeq (mAsg (.t [8, 9]) (mCallD m_ends_led [] [0, 1] (mECons (mVar 5) (mECons (mOp gIx (mVar 0) (ret (.int 3))) mENil)) mENil)) (mIf (mNot (mBool (mCallD m_is_from_to [] [0, 1, 2] (mECons (mCallD m_add_ratios [] [0, 1] (mECons (mVar 6) (mECons (mVar 8) mENil)) mENil) (mECons (mCallD m_add_ratios [] [0, 1] (mECons (mVar 6) (mECons (mVar 9) mENil)) mENil) (mECons (mVar 7) mENil))) mENil))) (mRet (ret (.bl false))) mNext)) (ps.map fun p => .tup [dr p.1, dq p.2.1, dv p.2.2]) [some (.dat d0), e1, e2, e3, e4, x5, x6, x7, x8, x9] θ) (sqK (mRet (ret (.bl true))) (fnK Q)) := by
  induction ps with
  | nil =>
    intro x5 x6 x7 x8 x9 _ q
    have q' : Q (.d (.bl true)) θ := q
    simp only [List.map_nil, gv_var, varK_d, potK_p, gv_op, opK1_a, opK2_a, gv_I, gv_eqI, gv_neI, gv_neg, negK_a, gv_bool, boolK_a, gv_not, notK_a, brK_t, brK_f, brK_d, brK_n, runP_a, ansP_a, gv_and, gv_or, gv_andV, gv_orV, blK_a, gv_notV, gv_ite, gv_if, gv_nil, gv_cons, consK1_a, consK2_a, mapK_a, gv_tup, gv_lst, optK_a, gv_B, gv_chn, chnK_a, gv_last, gv_link, linkK_a, gv_isi, isi_ii, isi_bi, isi_tt, isi_ll, isi_ss, isi_ti, isi_li, isi_si, isi_tl, isi_lt, isi_it, isi_il, isi_is, isi_bs, isi_ib, isi_bb, isi_st, isi_sl, gv_seq, sqK_n, sqK_r, sqK_b, sqK_c, gv_next, gv_brk, gv_cnt, gv_retN, gv_set, setK_a, gv_par, parK_2, parK_3, gv_asg, asgK_a, asgR_s, bindT_n, bindT_2, bindT_3, gv_retS, retK_a, gv_retO, retOK_a, gv_fn, fnK_n, fnK_r, gv_enil, gv_econs, ecK1_a, ecK2_a, gv_epot, epK_a, rdK_d, rdK_o, roK_o, gv_call, cK1_a, cK2_a, gv_callO, coK1_a, coK2_a, gv_potI, potI_0, potI_1, gv_potS, potSK_a, gv_potD, potDK_a, gv_rng, gv_seqI, seqOf_l, seqOf_t, gv_for, forK_a, gv_comp, compK_a, gv_comp0, cmpR_s, cmpK2_a, cmpK1_a, gv_comp1, gv_tt1, hide_nil, hide_0, hide_d, hide_p, hide_o, wipeD_nil, wipeD_cons, gv_ok, gv_bad, gv_ret, gv_opt, gv_max2, gv_min2, gv_int, gv_ix0, gv_ix1, gv_ix2, gv_abs, pick_nil, pick_0, pick_1, pick_2, pick_3, pick_4, pick_5, gv_lenT0, gv_lenT1, gv_lenT2, gv_lenT3, gv_lenT4, gv_lenL0, gv_lenL1, gv_lenL2, gv_lenL3, gv_lenL4, gv_neS, gv_eqS, gv_rng1, gv_rng2, bnd62_of, rngL_len, big_of, gv_all2, gv_maxL2, gv_minL2, gv_goS, gv_go0, goK_n, goK_c, goK_b, goK_r, goR_s, gv_maxL4, gv_minL4, gv_tupOf, tupOf_l, tupOf_t, gv_listOf, listOf_l, listOf_t, gv_zip, zipOf_l, zipOf_t, gv_zip3, gv_zipB, zipB_ll, zipB_tt, zipB_lt, zipB_tl, gv_enum, enumOf_l, add2_i, add2_t, gv_sl, slK0_a, slK1_a, slK2_a, gSl_t, gSl_l, gv_enum2, enumOf2_l, enumOf2_t, gv_lend, lendK_n, lendK_b, lendK_i, lendK_s, frzAll_nil, frzAll_cons, frzE1_o, frzE1_d, frzE1_p, frzE1_n, gv_itO, itOK_a, gv_setI, siK_a, gv_setI2, si2K_a, si2L_n, mul2_i, mul2_t, gv_noP, gv_pt, ptK_a, gv_setO, setOK_a, ownK_o, gv_app, appK1_a, appK2_a, gv_ext, extK1_a, extK2_a, gv_parE, gv_bor, borK_a, gv_frz, frzE_o, gv_expr, exprK_a, is2_b, isn2_b, is2_n, isn2_n, is2_i, isn2_i, is2_t, isn2_t, List.map_cons, List.map_nil, List.length_cons, List.length_nil, List.replicate, List.cons_append, List.nil_append, List.append_nil, List.getElem?_cons_zero, List.getElem?_cons_succ, List.set_cons_zero, List.set_cons_succ, Nat.reduceSub, Nat.reduceAdd, Nat.reduceMul, Nat.zero_add, Nat.add_zero, true_and, and_true, Int.reducePow, Int.reduceToNat, Int.reduceMul, Int.reduceAdd, Int.reduceSub, Int.reduceMod, Int.reduceNeg, Int.reduceLE, Int.reduceLT, Int.reduceEq, Nat.reduceLT, Nat.reduceLeDiff, Nat.reducePow, Int.reduceAbs, ne_eq, not_false_eq_true, not_true_eq_false, small_of, decide_true, decide_false, Bool.and_self, Bool.true_and, Bool.and_true, Bool.not_false, Bool.not_true, brK_t, brK_f, gv_parOD, odK1_a, odK2_a, gv_parDO, doK1_a, doK2_a, add3_i, add3_l, add3_t, gv_rev, rev_2, mul3_i, gv_repO, repK1_a, repK_a, true_implies, false_implies, forall_const, implies_true, not_false_iff]
    exact q'
  | cons p ps ih =>
    intro x5 x6 x7 x8 x9 hp q
    obtain ⟨hr, lr, bs, v1, v2⟩ := hp p List.mem_cons_self
    have lz : (p.1.zip b1).length ≤ 3 := by rw [List.length_zip]; omega
    have bl := low_bz (a := a) (p.1.zip b1) fun x hx => ⟨hr _ (List.of_mem_zip hx).1, hb _ (List.of_mem_zip hx).2⟩
    have m3 : (p.1.zip b1).length * (a + 82) ≤ 3 * (a + 82) := Nat.mul_le_mul_right _ lz
    obtain ⟨dr0, er⟩ : ∃ d, d = dr p.1 := ⟨_, rfl⟩
    obtain ⟨dv0, ev⟩ : ∃ d, d = dv p.2.2 := ⟨_, rfl⟩
    have bb : ∀ ρ, bindT (.t [5, 6, 7]) (.tup [dr0, dq p.2.1, dv0]) ρ = some (((ρ.set 5 (some (.dat dr0))).set 6 (some (.dat (dq p.2.1)))).set 7 (some (.dat dv0))) := fun ρ => rfl
    rw [List.map_cons]
    have q' : Q (.d (.bl (rowIn b1 p && ps.all (rowIn b1)))) θ := q
    simp! [← er, ← ev, bb, g3]
    refine ends_led_ok er eB hr (by omega) hb lr ?_
    simp! [bindT_2]
    refine add_ok bs bl.1 (by omega) ?_
    simp! [true_and]
    refine add_ok bs bl.2 (by omega) ?_
    simp! [true_and]
    rw [ev]
    refine is_from_to_ok (bs.add bl.1) (bs.add bl.2) (by omega) (by omega) ⟨v1, v2⟩ ?_
    have er2 : (decide (((p.2.2.1 : Int) : Rat) ≤ (p.2.1 + lowP (p.1.zip b1)) * oneQ) && decide ((p.2.1 + highP (p.1.zip b1)) * oneQ ≤ ((p.2.2.2 : Int) : Rat))) = rowIn b1 p := rfl
    rw [er2]
    cases hc2 : rowIn b1 p with
    | false =>
      rw [hc2, Bool.false_and] at q'
      simp! [true_and]
      exact q'
    | true =>
      rw [hc2, Bool.true_and] at q'
      simp! [true_and]
      exact ih _ _ _ _ _ (fun r hr => hp r (List.mem_cons_of_mem _ hr)) q'
theorem less_pointE {θ : Pot} {r s : Rw} {a b : Nat} {dr0 ds0 : Dt} {Q : Ret → Pot → Prop} (er : dr0 = dr r) (es : ds0 = dr s) (hr : rok a r) (hs : rok b s) (hl : r.length ≤ 20) (l : a + b < 8900) (q : Q (.d (dr (subR r s))) θ) : Gv (m_less_point [.dat dr0, .dat ds0] θ) Q := by
  subst er es
  exact less_point_ok hr hs hl l q
theorem led_byE {θ : Pot} {A : Mx} {dA ds0 : Dt} {s : Rw} {n a b : Nat} {Q : Ret → Pot → Prop} (eA : dA = dm A) (es : ds0 = dr s) (sA : Shp n n A) (h1 : n ≤ 4) (ha : mok a A) (hb : rok b s) (l : 4 * (a + b + 1) + (a + b) < 8900) (q : Q (.d (dr (ledR A s))) θ) : Gv (m_led_by [.dat dA, .dat ds0] θ) Q := by
  subst es
  exact led_byD eA sA h1 ha hb l q
theorem is_within_set_ok {n : Nat} {m1 m2 : Rw} {A1 A2 : Mx} {b1 b2 : Bx} {d1 d2 : Dt} {θ : Pot} {Q : Ret → Pot → Prop} (e1 : d1 = dS (dr m1) (dm A1) (db b1)) (e2 : d2 = dS (dr m2) (dm A2) (db b2)) (W1 : SetW n m1 A1 b1) (W2 : SetW n m2 A2 b2) (q : Q (.d (.bl (progB n m1 A1 b1 m2 A2 b2))) θ) : Gv (m_is_within_set [.dat d1, .dat d2] θ) Q := by
  have n1 := W1.g.n1
  have n3 := W1.g.n3
  obtain ⟨dM1, eM1⟩ : ∃ d, d = dr m1 := ⟨_, rfl⟩
  obtain ⟨dA1, eA1⟩ : ∃ d, d = dm A1 := ⟨_, rfl⟩
  obtain ⟨dB1, eB1⟩ : ∃ d, d = db b1 := ⟨_, rfl⟩
  obtain ⟨dM2, eM2⟩ : ∃ d, d = dr m2 := ⟨_, rfl⟩
  obtain ⟨dA2, eA2⟩ : ∃ d, d = dm A2 := ⟨_, rfl⟩
  obtain ⟨dB2, eB2⟩ : ∃ d, d = db b2 := ⟨_, rfl⟩
  have f1 : ∀ (ρ : DEnv) (θ : Pot) (Q : Dt → Pot → Prop), Gv (opt (gIx d1 (.int 1)) ρ θ) Q = Q dM1 θ := fun ρ θ Q => by rw [e1, gS_1, eM1]
  have f2 : ∀ (ρ : DEnv) (θ : Pot) (Q : Dt → Pot → Prop), Gv (opt (gIx d1 (.int 2)) ρ θ) Q = Q dA1 θ := fun ρ θ Q => by rw [e1, gS_2, eA1]
  have f3 : ∀ (ρ : DEnv) (θ : Pot) (Q : Dt → Pot → Prop), Gv (opt (gIx d1 (.int 3)) ρ θ) Q = Q dB1 θ := fun ρ θ Q => by rw [e1, gS_3, eB1]
  have h1 : ∀ (ρ : DEnv) (θ : Pot) (Q : Dt → Pot → Prop), Gv (opt (gIx d2 (.int 1)) ρ θ) Q = Q dM2 θ := fun ρ θ Q => by rw [e2, gS_1, eM2]
  have h2 : ∀ (ρ : DEnv) (θ : Pot) (Q : Dt → Pot → Prop), Gv (opt (gIx d2 (.int 2)) ρ θ) Q = Q dA2 θ := fun ρ θ Q => by rw [e2, gS_2, eA2]
  have h3 : ∀ (ρ : DEnv) (θ : Pot) (Q : Dt → Pot → Prop), Gv (opt (gIx d2 (.int 3)) ρ θ) Q = Q dB2 θ := fun ρ θ Q => by rw [e2, gS_3, eB2]
  have ie : invD n A2 = dm (backQ n A2) := if_neg W2.g.nz
  have sB : Shp n n (backQ n A2) := mxOf_shp _ _
  obtain ⟨dK, eK⟩ : ∃ d, d = dm (backQ n A2) := ⟨_, rfl⟩
  have sR := prod_shp sB (cols_shp W1.g.sA)
  have mR : mok 372 (prodQ (backQ n A2) (colsQ n A1)) := fun r hr q hq => (prod_mok sB W1.g.sA W2.ib W1.g.mA r hr q hq).mono (by have : n * (100 + 23 + 1) ≤ 3 * 124 := Nat.mul_le_mul_right _ n3; omega)
  have bS : rok 201 (subR m1 m2) := fun q hq => (subR_bz W1.rm W2.rm q hq).mono (by omega)
  have bL : rok 906 (ledR (backQ n A2) (subR m1 m2)) := fun q hq => (ledR_bz sB W2.ib bS n3 q hq).mono (by omega)
  have lL := ledR_len sB (subR m1 m2)
  obtain ⟨dR, eR⟩ : ∃ d, d = dm (prodQ (backQ n A2) (colsQ n A1)) := ⟨_, rfl⟩
  obtain ⟨dSh, eSh⟩ : ∃ d, d = dr (ledR (backQ n A2) (subR m1 m2)) := ⟨_, rfl⟩
  obtain ⟨dSb, eSb⟩ : ∃ d, d = dr (subR m1 m2) := ⟨_, rfl⟩
  have zz : ∀ (ρ : DEnv) (θ : Pot) (Q : List Dt → Pot → Prop), Gv (opt (zip3 [dR, dSh, dB2]) ρ θ) Q = Q (((prodQ (backQ n A2) (colsQ n A1)).zip ((ledR (backQ n A2) (subR m1 m2)).zip b2)).map fun p => .tup [dr p.1, dq p.2.1, dv p.2.2]) θ := fun ρ θ Q => by
    rw [eR, eSh, eB2, dm_t, dr_t, db_t]
    show Q (trips _ _ _) θ = _
    rw [trips_map]
  unfold m_is_within_set r_is_within_set
  simp! [h2]
  refine inverse_of_ok eA2 W2.g.sA n1 n3 W2.g.mA (by omega) ?_
  rw [ie, ← eK]
  simp! [f2]
  refine product_ofD eK eA1 sB W1.g.sA n1 n3 W2.ib W1.g.mA (by omega) ?_
  simp! [f1, h1, ← eR]
  refine less_pointE eM1 eM2 W1.rm W2.rm (by rw [W1.g.lm]; omega) (by omega) ?_
  simp! [← eSb]
  refine led_byE eK eSb sB (by omega) W2.ib bS (by omega) ?_
  simp! [← eSh, h3, zz]
  refine within_loop (a := 372) (c := 906) f3 eB1 W1.b80 (by omega) (by omega) _ _ _ _ _ _ (fun p hp => ?_) q
  have p1 := (List.of_mem_zip hp).1
  have p2 := (List.of_mem_zip (List.of_mem_zip hp).2)
  exact ⟨mR _ p1, by rw [sR.w _ p1]; omega, bL _ p2.1, (W2.b80 _ p2.2).1, (W2.b80 _ p2.2).2⟩
theorem want_setE {θ : Pot} {n k : Nat} {mid : Rw} {A : Mx} {b : Bx} {d0 : Dt} {Q : Ret → Pot → Prop} (e0 : d0 = dS (dr mid) (dm A) (db b)) (h : SetG n k mid A b) (hk : k ≤ 45) (q : Q (.d .non) θ) : Gv (m_want_set [.dat d0] θ) Q := by
  subst e0
  exact want_set_ok rfl h hk q
theorem set_within_ok {n : Nat} {m1 m2 : Rw} {A1 A2 : Mx} {b1 b2 : Bx} {d1 d2 : Dt} {θ : Pot} {Q : Ret → Pot → Prop} (e1 : d1 = dS (dr m1) (dm A1) (db b1)) (e2 : d2 = dS (dr m2) (dm A2) (db b2)) (W1 : SetW n m1 A1 b1) (W2 : SetW n m2 A2 b2) (q : Q (.d (.bl (withinB n m1 A1 b1 m2 A2 b2))) θ) : Gv (m_set_within [.dat d1, .dat d2] θ) Q := by
  obtain ⟨v, ev⟩ : ∃ v : Int, v = (n : Nat) := ⟨_, rfl⟩
  obtain ⟨dM1, eM1⟩ : ∃ d, d = dr m1 := ⟨_, rfl⟩
  obtain ⟨dM2, eM2⟩ : ∃ d, d = dr m2 := ⟨_, rfl⟩
  have f1 : ∀ (ρ : DEnv) (θ : Pot) (Q : Dt → Pot → Prop), Gv (opt (gIx d1 (.int 1)) ρ θ) Q = Q dM1 θ := fun ρ θ Q => by rw [e1, gS_1, eM1]
  have h1 : ∀ (ρ : DEnv) (θ : Pot) (Q : Dt → Pot → Prop), Gv (opt (gIx d2 (.int 1)) ρ θ) Q = Q dM2 θ := fun ρ θ Q => by rw [e2, gS_1, eM2]
  have l1 : ∀ (ρ : DEnv) (θ : Pot) (Q : Dt → Pot → Prop), Gv (opt (gLen [dM1]) ρ θ) Q = Q (.int v) θ := fun ρ θ Q => by rw [eM1, gv_lenR, W1.g.lm, ev]
  have l2 : ∀ (ρ : DEnv) (θ : Pot) (Q : Dt → Pot → Prop), Gv (opt (gLen [dM2]) ρ θ) Q = Q (.int v) θ := fun ρ θ Q => by rw [eM2, gv_lenR, W2.g.lm, ev]
  rw [← within_eq W1.g.sA W1.g.lm W2.g.lm W1.g.lb W1.v] at q
  unfold m_set_within r_set_within
  simp! [true_and]
  refine want_setE e1 W1.g (by omega) ?_
  simp! [true_and]
  refine want_setE e2 W2.g (by omega) ?_
  simp! [f1, h1, l1, l2]
  refine is_within_set_ok e1 e2 W1 W2 ?_
  simp! [true_and]
  exact q
/-! ### the law's own -/
theorem lawin_loop {n : Nat} {m1 m2 : Rw} {A1 A2 : Mx} {b1 b2 : Bx} {d1 d2 dK dM2 dB2 : Dt} {θ : Pot} {Q : Ret → Pot → Prop} (e1 : d1 = dS (dr m1) (dm A1) (db b1)) (W1 : SetW n m1 A1 b1) (W2 : SetW n m2 A2 b2) (r1 : rok 50 m1) (eK : dK = dm (backQ n A2)) (eM2 : dM2 = dr m2) (eB2 : dB2 = db b2)
    (h1 : ∀ (ρ : DEnv) (θ : Pot) (Q : Dt → Pot → Prop), Gv (opt (gIx d2 (.int 1)) ρ θ) Q = Q dM2 θ) (h3 : ∀ (ρ : DEnv) (θ : Pot) (Q : Dt → Pot → Prop), Gv (opt (gIx d2 (.int 3)) ρ θ) Q = Q dB2 θ) (cs : List Rw) : ∀ (x3 x4 x5 x6 x7 : Option Ent), (∀ c ∈ cs, Ch b1 c) → Q (.d (.bl (cs.all fun c => hasB b2 (ledR (backQ n A2) (subR (addR m1 (ledR A1 c)) m2))))) θ →
    Gv (forGo (.n 3) (mSeq (mSet 4 (mCallD m__law_point [] [0, 1] (mECons (mVar 0) (mECons (mVar 3) mENil)) mENil)) (mSeq (mSet 5 (mTupOf (mCons (mLst (mComp (.t [6, 7]) [6, 7] (mZipB (mCons (mVar 4) (mCons (mOp gIx (mVar 1) (ret (.int 1))) mNil))) tt1 (mCallD m__law_less [] [0, 1] (mECons (mVar 6) (mECons (mVar 7) mENil)) mENil))) mNil))) (mIf (mNot (mBool (mCallD m__law_has [] [0, 1] (mECons (mOp gIx (mVar 1) (ret (.int 3))) (mECons (mCallD m__law_led [] [0, 1] (mECons (mVar 2) (mECons (mVar 5) mENil)) mENil) mENil)) mENil))) (mRet (ret (.bl false))) mNext))) (cs.map dr) [some (.dat d1), some (.dat d2), some (.dat dK), x3, x4, x5, x6, x7] θ) (sqK (mRet (ret (.bl true))) (fnK Q)) := by
  have n1 := W1.g.n1
  have n3 := W1.g.n3
  have sB : Shp n n (backQ n A2) := mxOf_shp _ _
  induction cs with
  | nil =>
    intro x3 x4 x5 x6 x7 _ q
    have q' : Q (.d (.bl true)) θ := q
    simp only [List.map_nil, gv_var, varK_d, potK_p, gv_op, opK1_a, opK2_a, gv_I, gv_eqI, gv_neI, gv_neg, negK_a, gv_bool, boolK_a, gv_not, notK_a, brK_t, brK_f, brK_d, brK_n, runP_a, ansP_a, gv_and, gv_or, gv_andV, gv_orV, blK_a, gv_notV, gv_ite, gv_if, gv_nil, gv_cons, consK1_a, consK2_a, mapK_a, gv_tup, gv_lst, optK_a, gv_B, gv_chn, chnK_a, gv_last, gv_link, linkK_a, gv_isi, isi_ii, isi_bi, isi_tt, isi_ll, isi_ss, isi_ti, isi_li, isi_si, isi_tl, isi_lt, isi_it, isi_il, isi_is, isi_bs, isi_ib, isi_bb, isi_st, isi_sl, gv_seq, sqK_n, sqK_r, sqK_b, sqK_c, gv_next, gv_brk, gv_cnt, gv_retN, gv_set, setK_a, gv_par, parK_2, parK_3, gv_asg, asgK_a, asgR_s, bindT_n, bindT_2, bindT_3, gv_retS, retK_a, gv_retO, retOK_a, gv_fn, fnK_n, fnK_r, gv_enil, gv_econs, ecK1_a, ecK2_a, gv_epot, epK_a, rdK_d, rdK_o, roK_o, gv_call, cK1_a, cK2_a, gv_callO, coK1_a, coK2_a, gv_potI, potI_0, potI_1, gv_potS, potSK_a, gv_potD, potDK_a, gv_rng, gv_seqI, seqOf_l, seqOf_t, gv_for, forK_a, gv_comp, compK_a, gv_comp0, cmpR_s, cmpK2_a, cmpK1_a, gv_comp1, gv_tt1, hide_nil, hide_0, hide_d, hide_p, hide_o, wipeD_nil, wipeD_cons, gv_ok, gv_bad, gv_ret, gv_opt, gv_max2, gv_min2, gv_int, gv_ix0, gv_ix1, gv_ix2, gv_abs, pick_nil, pick_0, pick_1, pick_2, pick_3, pick_4, pick_5, gv_lenT0, gv_lenT1, gv_lenT2, gv_lenT3, gv_lenT4, gv_lenL0, gv_lenL1, gv_lenL2, gv_lenL3, gv_lenL4, gv_neS, gv_eqS, gv_rng1, gv_rng2, bnd62_of, rngL_len, big_of, gv_all2, gv_maxL2, gv_minL2, gv_goS, gv_go0, goK_n, goK_c, goK_b, goK_r, goR_s, gv_maxL4, gv_minL4, gv_tupOf, tupOf_l, tupOf_t, gv_listOf, listOf_l, listOf_t, gv_zip, zipOf_l, zipOf_t, gv_zip3, gv_zipB, zipB_ll, zipB_tt, zipB_lt, zipB_tl, gv_enum, enumOf_l, add2_i, add2_t, gv_sl, slK0_a, slK1_a, slK2_a, gSl_t, gSl_l, gv_enum2, enumOf2_l, enumOf2_t, gv_lend, lendK_n, lendK_b, lendK_i, lendK_s, frzAll_nil, frzAll_cons, frzE1_o, frzE1_d, frzE1_p, frzE1_n, gv_itO, itOK_a, gv_setI, siK_a, gv_setI2, si2K_a, si2L_n, mul2_i, mul2_t, gv_noP, gv_pt, ptK_a, gv_setO, setOK_a, ownK_o, gv_app, appK1_a, appK2_a, gv_ext, extK1_a, extK2_a, gv_parE, gv_bor, borK_a, gv_frz, frzE_o, gv_expr, exprK_a, is2_b, isn2_b, is2_n, isn2_n, is2_i, isn2_i, is2_t, isn2_t, List.map_cons, List.map_nil, List.length_cons, List.length_nil, List.replicate, List.cons_append, List.nil_append, List.append_nil, List.getElem?_cons_zero, List.getElem?_cons_succ, List.set_cons_zero, List.set_cons_succ, Nat.reduceSub, Nat.reduceAdd, Nat.reduceMul, Nat.zero_add, Nat.add_zero, true_and, and_true, Int.reducePow, Int.reduceToNat, Int.reduceMul, Int.reduceAdd, Int.reduceSub, Int.reduceMod, Int.reduceNeg, Int.reduceLE, Int.reduceLT, Int.reduceEq, Nat.reduceLT, Nat.reduceLeDiff, Nat.reducePow, Int.reduceAbs, ne_eq, not_false_eq_true, not_true_eq_false, small_of, decide_true, decide_false, Bool.and_self, Bool.true_and, Bool.and_true, Bool.not_false, Bool.not_true, brK_t, brK_f, gv_parOD, odK1_a, odK2_a, gv_parDO, doK1_a, doK2_a, add3_i, add3_l, add3_t, gv_rev, rev_2, mul3_i, gv_repO, repK1_a, repK_a, true_implies, false_implies, forall_const, implies_true, not_false_iff]
    exact q'
  | cons c cs ih =>
    intro x3 x4 x5 x6 x7 hp q
    have ch := hp c List.mem_cons_self
    have lc : c.length = n := by rw [Ch_len ch, W1.g.lb]
    have bc : rok 80 c := Ch_bz (by omega) ch W1.b80
    have la := ledR_len W1.g.sA c
    have lp := addR_len W1.g.lm la
    have bp : rok 400 (addR m1 (ledR A1 c)) := fun q hq => (addR_bz r1 (ledR_bz W1.g.sA W1.g.mA bc n3) q hq).mono (by omega)
    have bs : rok 501 (subR (addR m1 (ledR A1 c)) m2) := fun q hq => (subR_bz bp W2.rm q hq).mono (by omega)
    have bl : rok 1806 (ledR (backQ n A2) (subR (addR m1 (ledR A1 c)) m2)) := fun q hq => (ledR_bz sB W2.ib bs n3 q hq).mono (by omega)
    obtain ⟨dc, ec⟩ : ∃ d, d = dr c := ⟨_, rfl⟩
    obtain ⟨dp, ep⟩ : ∃ d, d = dr (addR m1 (ledR A1 c)) := ⟨_, rfl⟩
    obtain ⟨dt, et⟩ : ∃ d, d = dr (subR (addR m1 (ledR A1 c)) m2) := ⟨_, rfl⟩
    have lz : ((addR m1 (ledR A1 c)).zip m2).length < bigL := Nat.lt_of_le_of_lt (by rw [List.length_zip, lp]; omega) (show 3 < bigL by decide)
    have zz : ∀ (ρ : DEnv) (θ : Pot) (Q : List Dt → Pot → Prop), Gv (opt (zipB [dp, dM2]) ρ θ) Q = Q (((addR m1 (ledR A1 c)).zip m2).map fun p => .tup [dq p.1, dq p.2]) θ := fun ρ θ Q => by
      rw [ep, eM2, dr_t, dr_t]
      show Q (pairs _ _) θ = _
      rw [pairs_map]
    have et2 : Dt.tup (((addR m1 (ledR A1 c)).zip m2).map fun p => dq (p.1 - p.2)) = dt := by
      rw [et, dr_t]
      unfold subR
      rw [mapC]
    rw [List.map_cons]
    have q' : Q (.d (.bl (hasB b2 (ledR (backQ n A2) (subR (addR m1 (ledR A1 c)) m2)) && cs.all fun c => hasB b2 (ledR (backQ n A2) (subR (addR m1 (ledR A1 c)) m2))))) θ := q
    simp! [← ec, bindT_n]
    refine law_pointE e1 ec W1.g r1 bc (by omega) ?_
    simp! [← ep, h1, zz, List.length_map, lz]
    refine cmap (g := fun p : Rat × Rat => .tup [dq p.1, dq p.2]) (f := fun p => dq (p.1 - p.2)) ((addR m1 (ledR A1 c)).zip m2) (fun p hp => ?_) ?_
    · simp! [true_and]
      refine law_less_ok (bp _ (List.of_mem_zip hp).1) (W2.rm _ (List.of_mem_zip hp).2) (by omega) ?_
      simp! [true_and]
    simp! [et2, h3]
    refine law_ledE eK et sB (by omega) W2.ib bs (by omega) ?_
    obtain ⟨df, ef⟩ : ∃ d, d = dr (ledR (backQ n A2) (subR (addR m1 (ledR A1 c)) m2)) := ⟨_, rfl⟩
    simp! [← ef]
    refine law_hasE eB2 ef bl (by omega) W2.b80 ?_
    cases hc2 : hasB b2 (ledR (backQ n A2) (subR (addR m1 (ledR A1 c)) m2)) with
    | false =>
      rw [hc2, Bool.false_and] at q'
      simp! [true_and]
      exact q'
    | true =>
      rw [hc2, Bool.true_and] at q'
      simp! [true_and]
      exact ih _ _ _ _ _ (fun r hr => hp r (List.mem_cons_of_mem _ hr)) q'
theorem law_within_ok {n : Nat} {m1 m2 : Rw} {A1 A2 : Mx} {b1 b2 : Bx} {d1 d2 : Dt} {θ : Pot} {Q : Ret → Pot → Prop} (e1 : d1 = dS (dr m1) (dm A1) (db b1)) (e2 : d2 = dS (dr m2) (dm A2) (db b2)) (W1 : SetW n m1 A1 b1) (W2 : SetW n m2 A2 b2) (r1 : rok 50 m1) (q : Q (.d (.bl (withinB n m1 A1 b1 m2 A2 b2))) θ) : Gv (m__law_within [.dat d1, .dat d2] θ) Q := by
  have n1 := W1.g.n1
  have n3 := W1.g.n3
  obtain ⟨dB1, eB1⟩ : ∃ d, d = db b1 := ⟨_, rfl⟩
  obtain ⟨dM2, eM2⟩ : ∃ d, d = dr m2 := ⟨_, rfl⟩
  obtain ⟨dA2, eA2⟩ : ∃ d, d = dm A2 := ⟨_, rfl⟩
  obtain ⟨dB2, eB2⟩ : ∃ d, d = db b2 := ⟨_, rfl⟩
  have f3 : ∀ (ρ : DEnv) (θ : Pot) (Q : Dt → Pot → Prop), Gv (opt (gIx d1 (.int 3)) ρ θ) Q = Q dB1 θ := fun ρ θ Q => by rw [e1, gS_3, eB1]
  have h1 : ∀ (ρ : DEnv) (θ : Pot) (Q : Dt → Pot → Prop), Gv (opt (gIx d2 (.int 1)) ρ θ) Q = Q dM2 θ := fun ρ θ Q => by rw [e2, gS_1, eM2]
  have h2 : ∀ (ρ : DEnv) (θ : Pot) (Q : Dt → Pot → Prop), Gv (opt (gIx d2 (.int 2)) ρ θ) Q = Q dA2 θ := fun ρ θ Q => by rw [e2, gS_2, eA2]
  have h3 : ∀ (ρ : DEnv) (θ : Pot) (Q : Dt → Pot → Prop), Gv (opt (gIx d2 (.int 3)) ρ θ) Q = Q dB2 θ := fun ρ θ Q => by rw [e2, gS_3, eB2]
  have ie : invD n A2 = dm (backQ n A2) := if_neg W2.g.nz
  obtain ⟨dK, eK⟩ : ∃ d, d = dm (backQ n A2) := ⟨_, rfl⟩
  unfold m__law_within r__law_within
  simp! [h2]
  refine law_inverse_ok (n := n) (v := (n : Nat)) rfl eA2 W2.g.sA n1 n3 W2.g.mA (by omega) ?_
  rw [ie, ← eK]
  simp! [f3]
  refine law_corners_ok eB1 W1.b80 (by rw [W1.g.lb]; exact n3) ?_
  simp! [true_and]
  exact lawin_loop e1 W1 W2 r1 eK eM2 eB2 h1 h3 (corn [[]] b1) _ _ _ _ _ (fun c hc => (corn_iff b1 c).mp hc) q
end Tc


namespace Tc
open PySem PySem.Spec Pd
/-! ### another set near a set -/
theorem pick_near {θ : Pot} (h : PotOk θ) : Gv (m__law_pick [.pot, .dat (.lst [.int 0, .int 0, .int 1, .int (-1)])] θ) fun r θ' => ∃ i, r = .d (.int i) ∧ -1 ≤ i ∧ i ≤ 1 ∧ PotOk θ' := by
  refine pick_mem h (by show 0 < 4; omega) (by show 4 ≤ 100; omega) fun d hd θ' hp => ?_
  simp only [List.mem_cons, List.not_mem_nil, or_false] at hd
  rcases hd with rfl | rfl | rfl | rfl
  · exact ⟨0, rfl, by omega, by omega, hp⟩
  · exact ⟨0, rfl, by omega, by omega, hp⟩
  · exact ⟨1, rfl, by omega, by omega, hp⟩
  · exact ⟨-1, rfl, by omega, by omega, hp⟩
def NB (m : Int) (v : I2) : Prop := v.1 ≤ v.2 ∧ -m ≤ v.1 ∧ v.2 ≤ m
theorem NB_iv {m : Int} {v : I2} (h : NB m v) (hm : m ≤ 1180591620717411303424) : Iv v := by
  obtain ⟨h1, h2, h3⟩ := h
  exact ⟨by omega, h1, by omega⟩
theorem NB_min {m : Int} (x y : Int) (hx : -m ≤ x ∧ x ≤ m) (hy : -m ≤ y ∧ y ≤ m) : NB m (if y < x then y else x, if y > x then y else x) := by
  refine ⟨?_, ?_, ?_⟩
  · show (if y < x then y else x) ≤ (if y > x then y else x)
    split <;> split <;> omega
  · show -m ≤ (if y < x then y else x)
    split <;> omega
  · show (if y > x then y else x) ≤ m
    split <;> omega
theorem near_loop1 {e1 e8 e9 e10 e11 e12 : Option Ent} {Q : Out → Pot → Prop} (bs : Bx) : ∀ (acc : Bx) (x3 x4 x5 x6 x7 : Option Dt) (θ : Pot), (∀ v ∈ bs, NB 4398046511104 v) → acc.length + bs.length ≤ 3 → (∀ v ∈ acc, NB 4398046511105 v) → PotOk θ → (∀ (b' : Bx) (x3 x4 x5 x6 x7 : Option Dt) (θ' : Pot), b'.length = acc.length + bs.length → (∀ v ∈ b', NB 4398046511105 v) → PotOk θ' → Q (.next [some .pot, e1, some (.own (b'.map dv)), x3.map Ent.dat, x4.map Ent.dat, x5.map Ent.dat, x6.map Ent.dat, x7.map Ent.dat, e8, e9, e10, e11, e12]) θ') →
    Gv (forGo (.t [3, 4]) (mSeq (mPar [5, 6] (mCons (mCallD m__law_pick [] [0, 1] (mEPot 0 (mECons (mLst (mCons (ret (.int 0)) (mCons (ret (.int 0)) (mCons (ret (.int 1)) (mCons (mNeg (ret (.int 1))) mNil))))) mENil)) mENil) (mCons (mCallD m__law_pick [] [0, 1] (mEPot 0 (mECons (mLst (mCons (ret (.int 0)) (mCons (ret (.int 0)) (mCons (ret (.int 1)) (mCons (mNeg (ret (.int 1))) mNil))))) mENil)) mENil) mNil))) (mSeq (mSet 7 (mLst (mCons (mOp gSub (mVar 3) (mVar 5)) (mCons (mOp gAdd2 (mVar 4) (mVar 6)) mNil)))) (mApp 2 (mTup (mCons (mB gMin (mCons (mVar 7) mNil)) (mCons (mB gMax (mCons (mVar 7) mNil)) mNil)))))) (bs.map dv) [some .pot, e1, some (.own (acc.map dv)), x3.map Ent.dat, x4.map Ent.dat, x5.map Ent.dat, x6.map Ent.dat, x7.map Ent.dat, e8, e9, e10, e11, e12] θ) Q := by
  induction bs with
  | nil =>
    intro acc x3 x4 x5 x6 x7 θ _ _ ha hp q
    exact q acc x3 x4 x5 x6 x7 θ rfl ha hp
  | cons v bs ih =>
    intro acc x3 x4 x5 x6 x7 θ hb hl ha hp q
    have hv := hb v List.mem_cons_self
    rw [List.length_cons] at hl
    have lb : (acc.map dv).length < bigL := Nat.lt_of_le_of_lt (show (acc.map dv).length ≤ 3 by rw [List.length_map]; omega) (by decide)
    rw [List.map_cons]
    simp! [dv_t, bindT_2]
    refine (pick_near hp).imp ?_
    rintro _ θ1 ⟨i, rfl, i0, i1, hp1⟩
    simp! [true_and]
    refine (pick_near hp1).imp ?_
    rintro _ θ2 ⟨j, rfl, j0, j1, hp2⟩
    simp! [lb]
    obtain ⟨h1, h2, h3⟩ := hv
    have nb : NB 4398046511105 (if v.2 + j < v.1 - i then v.2 + j else v.1 - i, if v.2 + j > v.1 - i then v.2 + j else v.1 - i) := NB_min _ _ (by omega) (by omega)
    have e : acc.map dv ++ [Dt.tup [.int (if v.2 + j < v.1 - i then v.2 + j else v.1 - i), .int (if v.2 + j > v.1 - i then v.2 + j else v.1 - i)]] = (acc ++ [(if v.2 + j < v.1 - i then v.2 + j else v.1 - i, if v.2 + j > v.1 - i then v.2 + j else v.1 - i)]).map dv := by
      rw [List.map_append]
      rfl
    rw [e]
    refine ih _ (some (.int v.1)) (some (.int v.2)) (some (.int i)) (some (.int j)) (some (.lst [.int (v.1 - i), .int (v.2 + j)])) _ (fun w hw => hb w (List.mem_cons_of_mem _ hw)) (by rw [List.length_append]; show acc.length + 1 + _ ≤ 3; omega) (fun w hw => ?_) hp2 (fun b' x3 x4 x5 x6 x7 θ' lb' hb' hp' => q b' x3 x4 x5 x6 x7 θ' (by rw [lb', List.length_append]; simp only [List.length_cons, List.length_nil]; omega) hb' hp')
    rcases List.mem_append.mp hw with z | z
    · exact ha w z
    · rw [List.mem_singleton.mp z]; exact nb
theorem near_loop2 {e1 e2 e8 e10 e11 e12 : Option Ent} {Q : Out → Pot → Prop} (bs : Bx) : ∀ (acc : Bx) (x3 x4 x5 x6 x7 : Option Ent) (θ : Pot), (∀ v ∈ bs, NB 4398046511104 v) → acc.length + bs.length ≤ 3 → (∀ v ∈ acc, NB 4398046511104000001 v) → PotOk θ → (∀ (b' : Bx) (x3 x4 x5 x6 x7 : Option Ent) (θ' : Pot), b'.length = acc.length + bs.length → (∀ v ∈ b', NB 4398046511104000001 v) → PotOk θ' → Q (.next [some .pot, e1, e2, x3, x4, x5, x6, x7, e8, some (.own (b'.map dv)), e10, e11, e12]) θ') →
    Gv (forGo (.t [3, 4]) (mSeq (mPar [5, 6] (mCons (mCallD m__law_pick [] [0, 1] (mEPot 0 (mECons (mLst (mCons (ret (.int 0)) (mCons (ret (.int 0)) (mCons (ret (.int 1)) (mCons (mNeg (ret (.int 1))) mNil))))) mENil)) mENil) (mCons (mCallD m__law_pick [] [0, 1] (mEPot 0 (mECons (mLst (mCons (ret (.int 0)) (mCons (ret (.int 0)) (mCons (ret (.int 1)) (mCons (mNeg (ret (.int 1))) mNil))))) mENil)) mENil) mNil))) (mSeq (mSet 7 (mLst (mCons (mOp gSub (mOp gMul (mVar 3) (ret (.int 1000000))) (mVar 5)) (mCons (mOp gAdd2 (mOp gMul (mVar 4) (ret (.int 1000000))) (mVar 6)) mNil)))) (mApp 9 (mTup (mCons (mB gMin (mCons (mVar 7) mNil)) (mCons (mB gMax (mCons (mVar 7) mNil)) mNil)))))) (bs.map dv) [some .pot, e1, e2, x3, x4, x5, x6, x7, e8, some (.own (acc.map dv)), e10, e11, e12] θ) Q := by
  induction bs with
  | nil =>
    intro acc x3 x4 x5 x6 x7 θ _ _ ha hp q
    exact q acc x3 x4 x5 x6 x7 θ rfl ha hp
  | cons v bs ih =>
    intro acc x3 x4 x5 x6 x7 θ hb hl ha hp q
    have hv := hb v List.mem_cons_self
    rw [List.length_cons] at hl
    have lb : (acc.map dv).length < bigL := Nat.lt_of_le_of_lt (show (acc.map dv).length ≤ 3 by rw [List.length_map]; omega) (by decide)
    obtain ⟨h1, h2, h3⟩ := hv
    have s6 : small 1000000 = true := by decide
    have sv1 : small v.1 = true := small_of (by omega) (by omega)
    have sv2 : small v.2 = true := small_of (by omega) (by omega)
    rw [List.map_cons]
    simp! [dv_t, bindT_2]
    refine (pick_near hp).imp ?_
    rintro _ θ1 ⟨i, rfl, i0, i1, hp1⟩
    simp! [true_and]
    refine (pick_near hp1).imp ?_
    rintro _ θ2 ⟨j, rfl, j0, j1, hp2⟩
    simp! [lb, s6, sv1, sv2]
    have nb : NB 4398046511104000001 (if v.2 * 1000000 + j < v.1 * 1000000 - i then v.2 * 1000000 + j else v.1 * 1000000 - i, if v.2 * 1000000 + j > v.1 * 1000000 - i then v.2 * 1000000 + j else v.1 * 1000000 - i) := NB_min _ _ (by omega) (by omega)
    have e : acc.map dv ++ [Dt.tup [.int (if v.2 * 1000000 + j < v.1 * 1000000 - i then v.2 * 1000000 + j else v.1 * 1000000 - i), .int (if v.2 * 1000000 + j > v.1 * 1000000 - i then v.2 * 1000000 + j else v.1 * 1000000 - i)]] = (acc ++ [(if v.2 * 1000000 + j < v.1 * 1000000 - i then v.2 * 1000000 + j else v.1 * 1000000 - i, if v.2 * 1000000 + j > v.1 * 1000000 - i then v.2 * 1000000 + j else v.1 * 1000000 - i)]).map dv := by
      rw [List.map_append]
      rfl
    rw [e]
    refine ih _ _ _ _ _ _ _ (fun w hw => hb w (List.mem_cons_of_mem _ hw)) (by rw [List.length_append]; show acc.length + 1 + _ ≤ 3; omega) (fun w hw => ?_) hp2 (fun b' x3 x4 x5 x6 x7 θ' lb' hb' hp' => q b' x3 x4 x5 x6 x7 θ' (by rw [lb', List.length_append]; simp only [List.length_cons, List.length_nil]; omega) hb' hp')
    rcases List.mem_append.mp hw with z | z
    · exact ha w z
    · rw [List.mem_singleton.mp z]; exact nb
theorem less_loop {θ : Pot} {e0 e1 e2 e3 e4 e5 e6 e7 e9 e11 e12 : Option Ent} {Q : Out → Pot → Prop} (M : Mx) : ∀ (acc : Mx) (x10 : Option Ent), mok 2 M → (∀ r ∈ M, r.length ≤ 3) → acc.length + M.length ≤ 3 → (∀ x10, Q (.next [e0, e1, e2, e3, e4, e5, e6, e7, some (.own ((acc ++ scaleM (1 / 1000000) M).map dr)), e9, x10, e11, e12]) θ) →
    Gv (forGo (.n 10) (mApp 8 (mTupOf (mCons (mLst (mComp (.n 11) [11] (mSeqI (mVar 10)) tt1 (mCallD m__law_times [] [0, 1] (mECons (mTup (mCons (ret (.int 1)) (mCons (ret (.int 1000000)) mNil))) (mECons (mVar 11) mENil)) mENil))) mNil))) (M.map dr) [e0, e1, e2, e3, e4, e5, e6, e7, some (.own (acc.map dr)), e9, x10, e11, e12] θ) Q := by
  induction M with
  | nil =>
    intro acc x10 _ _ _ q
    have : acc ++ scaleM (1 / 1000000) [] = acc := List.append_nil acc
    rw [this] at q
    exact q x10
  | cons r M ih =>
    intro acc x10 hm hr hl q
    rw [List.length_cons] at hl
    have lr := hr r List.mem_cons_self
    have lb : (acc.map dr).length < bigL := Nat.lt_of_le_of_lt (show (acc.map dr).length ≤ 3 by rw [List.length_map]; omega) (by decide)
    have lb2 : (r.map dq).length < bigL := Nat.lt_of_le_of_lt (show (r.map dq).length ≤ 3 by rw [List.length_map]; omega) (by decide)
    have d6 : Dt.tup [.int 1, .int 1000000] = dq (1 / 1000000) := by
      have z : ((1 : Rat) / 1000000).num = 1 ∧ ((1 : Rat) / 1000000).den = 1000000 := by decide +kernel
      unfold dq
      rw [z.1, z.2]
      rfl
    have b6 : bz 20 (1 / 1000000 : Rat) := by
      have z : ((1 : Rat) / 1000000).num = 1 ∧ ((1 : Rat) / 1000000).den = 1000000 := by decide +kernel
      unfold bz
      rw [z.1, z.2]
      decide
    rw [List.map_cons]
    simp! [bindT_n, dr_t, d6, lb2]
    refine cmap (g := dq) (f := fun q => dq (1 / 1000000 * q)) r (fun x hx => ?_) ?_
    · simp! [d6]
      refine law_times_ok b6 (hm r List.mem_cons_self x hx) (by omega) ?_
      simp! [true_and]
    simp! [lb]
    have e : acc.map dr ++ [Dt.tup (r.map fun q => dq (1 / 1000000 * q))] = (acc ++ [r.map fun q => 1 / 1000000 * q]).map dr := by
      rw [List.map_append, List.map_cons, List.map_nil, dr_t, List.map_map]
      rfl
    rw [e]
    refine ih _ _ (fun s hs => hm s (List.mem_cons_of_mem _ hs)) (fun s hs => hr s (List.mem_cons_of_mem _ hs)) (by rw [List.length_append]; show acc.length + 1 + _ ≤ 3; omega) fun x10 => ?_
    have := q x10
    have e2 : acc ++ [r.map fun q => 1 / 1000000 * q] ++ scaleM (1 / 1000000) M = acc ++ scaleM (1 / 1000000) (r :: M) := by
      rw [List.append_assoc]
      rfl
    rw [e2]
    exact this
end Tc


namespace Tc
open PySem PySem.Spec Pd
theorem Drawn.w {n : Nat} {mid : Rw} {A : Mx} {b : Bx} (D : Drawn n mid A b) : SetW n mid A b := by
  have g := D.g
  refine ⟨⟨g.n1, g.n3, g.lm, g.sA, g.lb, fun r hr q hq => (D.mA r hr q hq).mono (by omega), g.rm, g.nz, g.iv⟩, fun r hr q hq => ?_, fun q hq => (D.rm q hq).mono (by omega)⟩
  have b2 : bitD 2 = 39 := rfl
  exact (inv_mok D.n1 D.n3 D.sA D.mA D.nz r hr q hq).mono (by omega)
/-- with other box, same matrix -/
theorem Drawn.w1 {n : Nat} {mid : Rw} {A : Mx} {b b2 : Bx} (D : Drawn n mid A b) (l : b2.length = n) (h : ∀ v ∈ b2, Iv v) : SetW n mid A b2 := by
  have w := D.w
  have g := w.g
  exact ⟨⟨g.n1, g.n3, g.lm, g.sA, l, g.mA, g.rm, g.nz, h⟩, w.ib, w.rm⟩
theorem scale_mok {c : Rat} {a k : Nat} {A : Mx} (bc : bz a c) (m : mok k A) : mok (a + k) (scaleM c A) := fun r hr q hq => by
  obtain ⟨s, hs, rfl⟩ := List.mem_map.mp hr
  obtain ⟨x, hx, rfl⟩ := List.mem_map.mp hq
  exact bc.mul (m s hs x hx)
theorem Drawn.ws {n a d : Nat} {mid : Rw} {A : Mx} {b b2 : Bx} {c : Rat} (D : Drawn n mid A b) (hc : c ≠ 0) (bc : bz a c) (bd : bz d (1 / c)) (ha : a ≤ 20) (hd : d ≤ 20) (l : b2.length = n) (h : ∀ v ∈ b2, Iv v) : SetW n mid (scaleM c A) b2 := by
  have w := D.w
  have g := w.g
  have b2 : bitD 2 = 39 := rfl
  have m78 : mok 78 (backQ n A) := fun r hr q hq => (inv_mok D.n1 D.n3 D.sA D.mA D.nz r hr q hq).mono (by omega)
  exact ⟨⟨g.n1, g.n3, g.lm, scale_shp c g.sA, l, fun r hr q hq => (scale_mok bc D.mA r hr q hq).mono (by omega), g.rm, det_scale g.n1 g.n3 g.sA hc g.nz, h⟩, fun r hr q hq => (back_scale g.n1 g.n3 g.sA hc g.nz m78 bd r hr q hq).mono (by omega), w.rm⟩
theorem bz6 : bz 20 (1 / 1000000 : Rat) ∧ bz 20 (1 / (1 / 1000000) : Rat) := by
  have z : ((1 : Rat) / 1000000).num = 1 ∧ ((1 : Rat) / 1000000).den = 1000000 ∧ ((1 : Rat) / (1 / 1000000)).num = 1000000 ∧ ((1 : Rat) / (1 / 1000000)).den = 1 := by decide +kernel
  unfold bz
  rw [z.1, z.2.1, z.2.2.1, z.2.2.2]
  decide
theorem bz2 : bz 20 (2 : Rat) ∧ bz 20 (1 / 2 : Rat) := by
  have z : (2 : Rat).num = 2 ∧ (2 : Rat).den = 1 ∧ ((1 : Rat) / 2).num = 1 ∧ ((1 : Rat) / 2).den = 2 := by decide +kernel
  unfold bz
  rw [z.1, z.2.1, z.2.2.1, z.2.2.2]
  decide
theorem NB_of {n : Nat} {b : Bx} (ob : OkB n b) : ∀ v ∈ b, NB 4398046511104 v := fun v hv => by
  obtain ⟨h1, h2, h3⟩ := ob.v v hv
  have e : (2 : Nat) ^ 42 = 4398046511104 := by decide
  unfold bi at h2 h3
  rw [e] at h2 h3
  exact ⟨h1, by omega, by omega⟩
theorem near_spec {n : Nat} {mid : Rw} {A : Mx} {b : Bx} {d0 dM : Dt} {θ : Pot} (e0 : d0 = dS dM (dm A) (db b)) (eM : dM = dr mid) (D : Drawn n mid A b) (h : PotOk θ) : Gv (m__law_near [.pot, .dat d0] θ) fun r θ' => ∃ A2 b2, r = .d (dS dM (dm A2) (db b2)) ∧ SetW n mid A2 b2 ∧ PotOk θ' := by
  generalize hmm : m__law_near = mm
  have n1 := D.n1
  have n3 := D.n3
  have nb := NB_of D.ob
  obtain ⟨dA, eA⟩ : ∃ d, d = dm A := ⟨_, rfl⟩
  obtain ⟨dB, eB⟩ : ∃ d, d = db b := ⟨_, rfl⟩
  have f1 : ∀ (ρ : DEnv) (θ : Pot) (Q : Dt → Pot → Prop), Gv (opt (gIx d0 (.int 1)) ρ θ) Q = Q dM θ := fun ρ θ Q => by rw [e0, gS_1]
  have f2 : ∀ (ρ : DEnv) (θ : Pot) (Q : Dt → Pot → Prop), Gv (opt (gIx d0 (.int 2)) ρ θ) Q = Q dA θ := fun ρ θ Q => by rw [e0, gS_2, eA]
  have f3 : ∀ (ρ : DEnv) (θ : Pot) (Q : Dt → Pot → Prop), Gv (opt (gIx d0 (.int 3)) ρ θ) Q = Q dB θ := fun ρ θ Q => by rw [e0, gS_3, eB]
  have sl : ∀ (ρ : DEnv) (θ : Pot) (Q : Dt → Pot → Prop), Gv (opt (gSl d0 none (some 3)) ρ θ) Q = Q (.tup [.str "set", dM, dA]) θ := fun ρ θ Q => by
    rw [e0, ← eA]
    rfl
  have ad : ∀ (x : Dt) (ρ : DEnv) (θ : Pot) (Q : Dt → Pot → Prop), Gv (opt (gAdd2 (.tup [.str "set", dM, dA]) (.tup [x])) ρ θ) Q = Q (dS dM dA x) θ := fun x ρ θ Q => by
    rw [add2_t]
    exact propext ⟨fun z => z.2, fun z => ⟨show 3 + 1 < bigL by decide, z⟩⟩
  have sB : ∀ (ρ : DEnv) (θ : Pot) (Q : List Dt → Pot → Prop), Gv (opt (seqOf dB) ρ θ) Q = Q (b.map dv) θ := fun ρ θ Q => by rw [eB]; rfl
  have sA : ∀ (ρ : DEnv) (θ : Pot) (Q : List Dt → Pot → Prop), Gv (opt (seqOf dA) ρ θ) Q = Q (A.map dr) θ := fun ρ θ Q => by rw [eA]; rfl
  have lB : (b.map dv).length < bigL := Nat.lt_of_le_of_lt (show (b.map dv).length ≤ 3 by rw [List.length_map, D.ob.l]; exact n3) (by decide)
  have lA : (A.map dr).length < bigL := Nat.lt_of_le_of_lt (show (A.map dr).length ≤ 3 by rw [List.length_map, D.sA.h]; exact n3) (by decide)
  rw [← hmm]
  clear hmm mm
  unfold m__law_near r__law_near
  simp! [f3, sB, lB]
  refine near_loop1 b [] none none none none none θ nb (by show 0 + b.length ≤ 3; rw [D.ob.l]; omega) (fun v hv => (List.not_mem_nil hv).elim) h fun b1 x3 x4 x5 x6 x7 θ1 lb1 hb1 hp1 => ?_
  have lb1' : b1.length = n := by rw [lb1, D.ob.l]; show 0 + n = n; omega
  have iv1 : ∀ v ∈ b1, Iv v := fun v hv => NB_iv (hb1 v hv) (by omega)
  simp! [true_and]
  refine (draw_spec hp1 (by omega) (by omega)).imp ?_
  rintro _ θ2 ⟨i, rfl, i0, i1, hp2⟩
  have dB1 : Dt.tup (b1.map dv) = db b1 := rfl
  simp! [gv_eqI]
  refine ⟨fun c => ?_, fun c => ?_⟩
  · simp! [sl, ad, dB1]
    exact ⟨A, b1, by rw [eA], D.w1 lb1' iv1, hp2⟩
  refine (draw_spec hp2 (by omega) (by omega)).imp ?_
  rintro _ θ3 ⟨j, rfl, j0, j1, hp3⟩
  simp! [gv_eqI]
  refine ⟨fun c => ?_, fun c => ?_⟩
  · simp! [f2, sA, lA]
    refine less_loop A [] none D.mA (fun r hr => by rw [D.sA.w r hr]; exact n3) (by show 0 + A.length ≤ 3; rw [D.sA.h]; omega) fun x10 => ?_
    simp! [f3, sB, lB]
    refine near_loop2 b [] _ _ _ _ _ θ3 nb (by show 0 + b.length ≤ 3; rw [D.ob.l]; omega) (fun v hv => (List.not_mem_nil hv).elim) hp3 fun b2 x3 x4 x5 x6 x7 θ4 lb2 hb2 hp4 => ?_
    have lb2' : b2.length = n := by rw [lb2, D.ob.l]; show 0 + n = n; omega
    simp! [f1]
    refine ⟨scaleM (1 / 1000000) A, b2, rfl, D.ws (by decide +kernel) bz6.1 bz6.2 (by omega) (by omega) lb2' (fun v hv => NB_iv (hb2 v hv) (by omega)), hp4⟩
  · simp! [f2, sA, lA]
    refine cmap (g := dr) (f := fun r => dr (r.map fun q => 2 * q)) A (fun r hr => ?_) ?_
    · have lr : (r.map dq).length < bigL := Nat.lt_of_le_of_lt (show (r.map dq).length ≤ 3 by rw [List.length_map, D.sA.w r hr]; exact n3) (by decide)
      have d2 : Dt.tup [.int 2, .int 1] = dq 2 := rfl
      simp! [dr_t, lr, hide_m]
      refine cmap (g := dq) (f := fun q => dq (2 * q)) r (fun x hx => ?_) ?_
      · simp! [d2]
        refine law_times_ok bz2.1 (D.mA r hr x hx) (by omega) ?_
        simp! [true_and]
      · simp! [List.map_map]
        exact rfl
    have dA2 : Dt.tup (A.map fun r => dr (r.map fun q => 2 * q)) = dm (scaleM 2 A) := by
      rw [dm_t]
      unfold scaleM
      rw [List.map_map]
      rfl
    obtain ⟨dA2', eA2'⟩ : ∃ d, d = dm (scaleM 2 A) := ⟨_, rfl⟩
    rw [← eA2'] at dA2
    have lb3 : (b1.map dv).length < bigL := Nat.lt_of_le_of_lt (show (b1.map dv).length ≤ 3 by rw [List.length_map, lb1']; exact n3) (by decide)
    have s2 : small 2 = true := by decide
    simp! [dA2, lb3]
    refine cmap (g := dv) (f := fun v => dv ((v.1 - 1) / 2, (v.2 + 1) / 2)) b1 (fun v hv => ?_) ?_
    · simp! [dv_t, bindT_2, s2]
      refine ⟨?_, rfl⟩
      show Dt.tup [.int ((v.1 - 1).fdiv 2), .int ((v.2 + 1).fdiv 2)] = _
      rw [fd2x, fd2x]
    simp! [f1]
    refine ⟨scaleM 2 A, b1.map fun v => ((v.1 - 1) / 2, (v.2 + 1) / 2), ?_, D.ws (by decide) bz2.1 bz2.2 (by omega) (by omega) (by rw [List.length_map, lb1']) (fun v hv => ?_), hp3⟩
    · rw [eA2']
      unfold db dS
      rw [List.map_map]
      rfl
    · obtain ⟨u, hu, rfl⟩ := List.mem_map.mp hv
      obtain ⟨k1, k2, k3⟩ := hb1 u hu
      exact ⟨by show _ ≤ (u.1 - 1) / 2; omega, by show (u.1 - 1) / 2 ≤ (u.2 + 1) / 2; omega, by show (u.2 + 1) / 2 ≤ _; omega⟩
end Tc


namespace Tc
open PySem PySem.Spec Pd
theorem unit_back {n : Nat} (h1 : 1 ≤ n) (h3 : n ≤ 3) : backQ n (unitQ n) = unitQ n := by
  have d := unit_det h1 h3
  have nz : detN n (ent (unitQ n)) ≠ 0 := by rw [d]; decide
  refine mx_ext (mxOf_shp _ _) (unitQ_shp n) fun i hi j hj => ?_
  unfold backQ
  rw [ent_mxOf _ hi hj]
  refine (inv_one h1 h3 nz (fun i hi j hj => ?_) i hi j hj).symm
  rw [sm_congr n fun k hk => by rw [ent_unit hi hk]]
  rw [sm_dlt_l (fun k => ent (unitQ n) k j) i n hi, ent_unit hi hj]
theorem unit_W {n : Nat} {mid : Rw} {b : Bx} (h1 : 1 ≤ n) (h3 : n ≤ 3) (lm : mid.length = n) (rm : rok 100 mid) (lb : b.length = n) (h : ∀ v ∈ b, Iv v) : SetW n mid (unitQ n) b := by
  have d := unit_det h1 h3
  exact ⟨⟨h1, h3, lm, unitQ_shp n, lb, unit_mok n 23, fun q hq => (rm q hq).mono (by omega), by rw [d]; decide, h⟩, by rw [unit_back h1 h3]; exact unit_mok n 100, rm⟩
/-- ends of a hull -/
def HB (v : I2) : Prop := v.1 ≤ v.2 ∧ -4611686018427387904 ≤ v.1 ∧ v.2 ≤ 4611686018427387904
theorem hs_le2 : ∀ (l : List (Rat × I2)), (∀ p ∈ l, p.2.1 ≤ p.2.2) → (hs l).1 ≤ (hs l).2
  | [], _ => by show (0 : Int) ≤ 0; omega
  | p :: l, h => by
    have ih := hs_le2 l fun q hq => h q (List.mem_cons_of_mem _ hq)
    have z := h p List.mem_cons_self
    have l1 := lq_le z
    have s1 := (slo_le (a := p.1) (x := ((p.2.1 : Int) : Rat)) (v := p.2) Rat.le_refl (Rat.intCast_le_intCast.mpr z))
    have s2 : slo p.1 p.2 ≤ shi p.1 p.2 := Rat.intCast_le_intCast.mp (Rat.le_trans s1.1 s1.2)
    show slo p.1 p.2 + (hs l).1 ≤ shi p.1 p.2 + (hs l).2
    omega
theorem hull_HB {n : Nat} {mid : Rw} {A : Mx} {b : Bx} (h : OkSet n mid A b) (hv : ∀ v ∈ b, v.1 ≤ v.2) : ∀ v ∈ hullQ mid A b, HB v := fun v hv' => by
  unfold hullQ at hv'
  obtain ⟨p, hp, rfl⟩ := List.mem_map.mp hv'
  have oa := h.mA _ (List.of_mem_zip hp).1
  have oh := h.rS _ (List.of_mem_zip hp).2
  have l1 := oa.lo
  have l2 := oa.hi
  have l3 := fl_cl (p.1 * ((1099511627776 : Int) : Rat))
  have hz := hs_bd (p.2.zip b) oh
  have hw := hs_le2 (p.2.zip b) fun q hq => hv _ (List.of_mem_zip hq).2
  have lz : (p.2.zip b).length ≤ 3 := by rw [List.length_zip, h.lb]; have := h.n3; omega
  have hB : B60 = 1152921504606846976 := rfl
  have nB : ((p.2.zip b).length : Int) * B60 ≤ 3 * B60 := Int.mul_le_mul_of_nonneg_right (by omega) (by decide)
  generalize ((p.2.zip b).length : Int) * B60 = P at *
  refine ⟨?_, ?_, ?_⟩
  · show fl (p.1 * ((1099511627776 : Int) : Rat)) + (hs (p.2.zip b)).1 ≤ cl (p.1 * ((1099511627776 : Int) : Rat)) + (hs (p.2.zip b)).2
    omega
  · show _ ≤ fl (p.1 * ((1099511627776 : Int) : Rat)) + (hs (p.2.zip b)).1
    omega
  · show cl (p.1 * ((1099511627776 : Int) : Rat)) + (hs (p.2.zip b)).2 ≤ _
    omega
theorem hull_len {n : Nat} {mid : Rw} {A : Mx} {b : Bx} (sA : Shp n n A) (lm : mid.length = n) : (hullQ mid A b).length = n := by
  unfold hullQ
  rw [List.length_map, List.length_zip, lm, sA.h, Nat.min_self]
theorem HB_iv {v : I2} (h : HB v) : Iv v := by
  obtain ⟨h1, h2, h3⟩ := h
  exact ⟨by omega, h1, by omega⟩
theorem HB_left {v : I2} (h : HB v) : Iv (leftv v) ∧ bz 100 (midq v) := by
  obtain ⟨h1, h2, h3⟩ := h
  have m : v.1 ≤ midI v ∧ midI v ≤ v.2 := by unfold midI; omega
  have e : (2 : Nat) ^ 100 = 1267650600228229401496703205376 := by decide
  have b : bz 100 (midq v) := bz_of (w := (midI v, 1099511627776)) (by show (1099511627776 : Int) ≠ 0; decide) rfl (by unfold bi; rw [e]; show (midI v).natAbs ≤ _; omega) (show bi 100 1099511627776 by decide)
  refine ⟨⟨?_, ?_, ?_⟩, b⟩
  · show _ ≤ v.1 - midI v; omega
  · show v.1 - midI v ≤ v.2 - midI v; omega
  · show v.2 - midI v ≤ _; omega
/-- the set of the hull -/
theorem hull_W {n : Nat} {h : Bx} (h1 : 1 ≤ n) (h3 : n ≤ 3) (lh : h.length = n) (hb : ∀ v ∈ h, HB v) : SetW n (h.map midq) (unitQ n) (h.map leftv) := by
  refine unit_W h1 h3 (by rw [List.length_map, lh]) (fun q hq => ?_) (by rw [List.length_map, lh]) (fun v hv => ?_)
  · obtain ⟨v, hv, rfl⟩ := List.mem_map.mp hq
    exact (HB_left (hb v hv)).2
  · obtain ⟨w, hw, rfl⟩ := List.mem_map.mp hv
    exact (HB_left (hb w hw)).1
theorem zeros_ok (n : Nat) : rok 50 (List.replicate n (0 : Rat)) := fun q hq => by rw [(List.mem_replicate.mp hq).2]; exact bz.zero
theorem other_spec {n : Nat} {mid : Rw} {A : Mx} {b : Bx} {d0 dM : Dt} {θ : Pot} (e0 : d0 = dS dM (dm A) (db b)) (eM : dM = dr mid) (D : Drawn n mid A b) (h : PotOk θ) : Gv (m__law_other [.pot, .dat d0] θ) fun r θ' => ∃ m2 A2 b2, r = .d (dS (dr m2) (dm A2) (db b2)) ∧ SetW n m2 A2 b2 ∧ rok 50 m2 ∧ PotOk θ' := by
  generalize hmm : m__law_other = mm
  have n1 := D.n1
  have n3 := D.n3
  obtain ⟨v, ev⟩ : ∃ v : Int, v = (n : Nat) := ⟨_, rfl⟩
  have f1 : ∀ (ρ : DEnv) (θ : Pot) (Q : Dt → Pot → Prop), Gv (opt (gIx d0 (.int 1)) ρ θ) Q = Q dM θ := fun ρ θ Q => by rw [e0, gS_1]
  have l1 : ∀ (ρ : DEnv) (θ : Pot) (Q : Dt → Pot → Prop), Gv (opt (gLen [dM]) ρ θ) Q = Q (.int v) θ := fun ρ θ Q => by rw [eM, gv_lenR, D.lm, ev]
  have e00 : d0 = dS (dr mid) (dm A) (db b) := by rw [e0, eM]
  have vm : v.toNat = n := by omega
  have ro : ∀ (x : Dt) (ρ : DEnv) (θ : Pot) (Q : List Dt → Pot → Prop), repK [x] ρ Q (.int v) θ = Q (List.replicate n x) θ := fun x ρ θ Q => by
    rw [repK_a, vm, rep_flat]
    exact propext ⟨fun z => z.2, fun z => ⟨decide_eq_true ⟨by omega, by omega, show 1 ≤ 1000 by omega⟩, z⟩⟩
  have hH := hull_HB D.s (fun v hv => (D.ob.v v hv).1)
  have lH := hull_len (b := b) D.sA D.lm
  have zr : Dt.tup (List.replicate n (.tup [.int 0, .int 1])) = dr (List.replicate n 0) := by
    rw [dr_t, map_rep]
    rfl
  have lz : (List.replicate n (0 : Rat)).length = n := List.length_replicate
  rw [← hmm]
  clear hmm mm
  unfold m__law_other r__law_other
  simp! [true_and]
  refine (draw_spec h (by omega) (by omega)).imp ?_
  rintro _ θ1 ⟨i, rfl, i0, i4, hp1⟩
  simp! [f1, l1]
  refine ⟨fun c => ?_, fun c => ?_⟩
  · refine (near_spec e0 eM D hp1).imp ?_
    rintro _ θ2 ⟨A2, b2, rfl, W, hp2⟩
    simp! [true_and]
    exact ⟨mid, A2, b2, by rw [eM], W, fun q hq => (D.rm q hq).mono (by omega), hp2⟩
  refine ⟨fun c => ?_, fun c => ?_⟩
  · refine (set_spec ev n1 n3 hp1).imp ?_
    rintro _ θ2 ⟨m2, A2, b2, rfl, D2, hp2⟩
    simp! [true_and]
    exact ⟨m2, A2, b2, rfl, D2.w, fun q hq => (D2.rm q hq).mono (by omega), hp2⟩
  refine law_hullE e00 D.s ?_
  generalize hullQ mid A b = H at *
  obtain ⟨dH, eH⟩ : ∃ d, d = db H := ⟨_, rfl⟩
  simp! [← eH]
  refine (draw_spec hp1 (by omega) (by omega)).imp ?_
  rintro _ θ2 ⟨j, rfl, j0, j2, hp2⟩
  simp! [true_and]
  refine ⟨fun c => ?_, fun c => ?_⟩
  · match H, lH, hH, eH with
    | [], lH, _, _ => exact absurd lH (by show 0 ≠ n; omega)
    | w :: H, lH, hH, eH =>
      obtain ⟨k1, k2, k3⟩ := hH w List.mem_cons_self
      have g0 : ∀ (ρ : DEnv) (θ : Pot) (Q : Dt → Pot → Prop), Gv (opt (gIx dH (.int 0)) ρ θ) Q = Q (dv w) θ := fun ρ θ Q => by
        rw [eH]
        exact gv_ix0 (dv w) (H.map dv)
      have sl : ∀ (ρ : DEnv) (θ : Pot) (Q : Dt → Pot → Prop), Gv (opt (gSl dH (some 1) none) ρ θ) Q = Q (.tup (H.map dv)) θ := fun ρ θ Q => by
        rw [eH]
        show Q (.tup (cutD (dv w :: H.map dv) (some 1) none)) θ = _
        unfold cutD
        rw [show (some (1 : Int)) = some ((1 : Nat) : Int) from rfl, HT.sIx_nat]
        show Q (.tup (((dv w :: H.map dv).drop (min 1 _)).take _)) θ = _
        rw [Nat.min_eq_left (by simp)]
        show Q (.tup ((H.map dv).take (((H.map dv).length + 1) - 1))) θ = _
        rw [Nat.add_sub_cancel, List.take_length]
      have ad : ∀ (x : Dt) (ρ : DEnv) (θ : Pot) (Q : Dt → Pot → Prop), Gv (opt (gAdd2 (.tup [x]) (.tup (H.map dv))) ρ θ) Q = Q (.tup (x :: H.map dv)) θ := fun x ρ θ Q => by
        rw [add2_t]
        have : H.length ≤ 3 := by rw [List.length_cons] at lH; omega
        exact propext ⟨fun z => z.2, fun z => ⟨Nat.lt_of_le_of_lt (show 1 + (H.map dv).length ≤ 100 by rw [List.length_map]; omega) (by decide), z⟩⟩
      simp! [g0, dv_t, bindT_2, sl, ad, ro, zr]
      refine law_unit_ok ev (by omega) ?_
      obtain ⟨dU, eU⟩ : ∃ d, d = dm (unitQ n) := ⟨_, rfl⟩
      simp! [← eU]
      refine ⟨List.replicate n 0, unitQ n, (w.1 + 1, if w.1 + 1 > w.2 then w.1 + 1 else w.2) :: H, by rw [eU]; rfl, unit_W n1 n3 lz (fun q hq => (zeros_ok n q hq).mono (by omega)) lH (fun u hu => ?_), zeros_ok n, hp2⟩
      rcases List.mem_cons.mp hu with z | z
      · rw [z]
        refine ⟨by show _ ≤ w.1 + 1; omega, ?_, ?_⟩
        · show w.1 + 1 ≤ (if w.1 + 1 > w.2 then w.1 + 1 else w.2)
          split <;> omega
        · show (if w.1 + 1 > w.2 then w.1 + 1 else w.2) ≤ _
          split <;> omega
      · exact HB_iv (hH u (List.mem_cons_of_mem _ z))
  · rw [vm, rep_flat, zr]
    refine ⟨decide_eq_true ⟨by omega, by omega⟩, ?_⟩
    refine law_unit_ok ev (by omega) ?_
    obtain ⟨dU, eU⟩ : ∃ d, d = dm (unitQ n) := ⟨_, rfl⟩
    simp! [← eU]
    exact ⟨List.replicate n 0, unitQ n, H, by rw [eU, eH]; rfl, unit_W n1 n3 lz (fun q hq => (zeros_ok n q hq).mono (by omega)) lH (fun u hu => HB_iv (hH u hu)), zeros_ok n, hp2⟩
end Tc


namespace Tc
open PySem PySem.Spec Pd
/-! ### rounded middles -/
def midP (m : Nat) (v : I2) : Int := ((v.1 + v.2) * 2 ^ m + 1099511627776) / 2199023255552
def roundQ (m : Nat) (v : I2) : Rat := ((midP m v : Int) : Rat) / (((2 : Int) ^ m : Int) : Rat)
theorem pow_le40 {m : Nat} (h : m ≤ 40) : 1 ≤ (2 : Int) ^ m ∧ (2 : Int) ^ m ≤ 1099511627776 := by
  have a : (2 : Nat) ^ m ≤ 2 ^ 40 := Nat.pow_le_pow_right (by omega) h
  have b : 1 ≤ (2 : Nat) ^ m := Nat.one_le_two_pow
  have e : (2 : Nat) ^ 40 = 1099511627776 := by decide
  have c : (2 : Int) ^ m = ((2 ^ m : Nat) : Int) := by rw [Int.natCast_pow]; rfl
  rw [c]
  omega
theorem pow_bi {m : Nat} (h : m ≤ 40) : bi 41 ((2 : Int) ^ m) := by
  have := pow_le40 h
  have e : (2 : Nat) ^ 41 = 2199023255552 := by decide
  unfold bi
  rw [e]
  omega
theorem parts_ok {θ : Pot} {m : Nat} {v : Int} {Q : Ret → Pot → Prop} (ev : v = (m : Nat)) (h : m ≤ 40) (q : Q (.d (.int (2 ^ m))) θ) : Gv (m_parts_of_one [.dat (.int v)] θ) Q := by
  have bm : bnd62 v = true := bnd_of (by omega) (by omega)
  have tv : v.toNat = m := by omega
  unfold m_parts_of_one r_parts_of_one
  simp! [bm]
  rw [tv, rng0]
  refine for_rangeR (fun k : Nat => Dt.int (0 + k)) m (fun i ρ θ' => ∃ (x2 : Option Ent), ρ = [some (.dat (.int v)), some (.dat (.int (2 ^ i))), x2] ∧ θ' = θ) ?_ ?_ _ _ ⟨none, rfl, rfl⟩
  · rintro ρ θ1 ⟨x2, rfl, rfl⟩
    simp! [true_and]
    exact q
  · rintro i ρ θ1 hi ⟨x2, rfl, rfl⟩
    refine ⟨_, bindT_n 2 _, ?_⟩
    have p := pow_le40 (m := i) (by omega)
    have s : small ((2 : Int) ^ i) = true := small_of (by omega) (by omega)
    have s2 : small 2 = true := by decide
    have e : (2 : Int) * 2 ^ i = 2 ^ (i + 1) := by rw [Int.pow_succ, Int.mul_comm]
    simp! [s, s2, e]
    exact Or.inl ⟨_, rfl, _, rfl⟩
structure RB (v : I2) : Prop where
  le : v.1 ≤ v.2
  lo : -8796093022208 ≤ v.1
  hi : v.2 ≤ 8796093022208
theorem rounded_middle_ok {θ : Pot} {m : Nat} {v : Int} {w : I2} {Q : Ret → Pot → Prop} (ev : v = (m : Nat)) (h : m ≤ 40) (hw : RB w) (q : Q (.d (dq (roundQ m w))) θ) : Gv (m_rounded_middle [.dat (dv w), .dat (.int v)] θ) Q := by
  have p := pow_le40 h
  have w1 := hw.le
  have w2 := hw.lo
  have w3 := hw.hi
  have s : small ((2 : Int) ^ m) = true := small_of (by omega) (by omega)
  have s1 : small (w.1 + w.2) = true := small_of (by omega) (by omega)
  have s3 : small (2 : Int) = true := by decide
  have s4 : small (1099511627776 : Int) = true := by decide
  have s5 : small (2199023255552 : Int) = true := by decide
  have fd : ∀ x : Int, x.fdiv 2199023255552 = x / 2199023255552 := fun x => fd_pos (by decide)
  unfold m_rounded_middle r_rounded_middle
  simp! [true_and]
  refine parts_ok ev h ?_
  simp! [dv_t, s, s1, s3, s4, s5, fd]
  refine made_ok (by omega) (pow_bi h) (by omega) ?_
  simp! [true_and]
  exact q
theorem law_rounded_ok {θ : Pot} {m : Nat} {v : Int} {w : I2} {Q : Ret → Pot → Prop} (ev : v = (m : Nat)) (h : m ≤ 40) (hw : RB w) (q : Q (.d (dq (roundQ m w))) θ) : Gv (m__law_rounded [.dat (dv w), .dat (.int v)] θ) Q := by
  have bm : bnd62 v = true := bnd_of (by omega) (by omega)
  have tv : v.toNat = m := by omega
  have p := pow_le40 h
  have w1 := hw.le
  have w2 := hw.lo
  have w3 := hw.hi
  unfold m__law_rounded r__law_rounded
  simp! [bm]
  rw [tv, rng0]
  refine for_rangeR (fun k : Nat => Dt.int (0 + k)) m (fun i ρ θ' => ∃ (x3 : Option Ent), ρ = [some (.dat (dv w)), some (.dat (.int v)), some (.dat (.int (2 ^ i))), x3, none, none] ∧ θ' = θ) ?_ ?_ _ _ ⟨none, rfl, rfl⟩
  · rintro ρ θ1 ⟨x3, rfl, rfl⟩
    have s : small ((2 : Int) ^ m) = true := small_of (by omega) (by omega)
    have s1 : small (w.1 + w.2) = true := small_of (by omega) (by omega)
    have s3 : small (2 : Int) = true := by decide
    have s4 : small (1099511627776 : Int) = true := by decide
    have s5 : small (2199023255552 : Int) = true := by decide
    have n1 : (w.1 + w.2) * 2 ^ m ≤ 17592186044416 * 2 ^ m := Int.mul_le_mul_of_nonneg_right (by omega) (by omega)
    have n2 : -17592186044416 * 2 ^ m ≤ (w.1 + w.2) * 2 ^ m := Int.mul_le_mul_of_nonneg_right (by omega) (by omega)
    have s6 : small ((w.1 + w.2) * 2 ^ m) = true := by
      generalize (2 : Int) ^ m = y at *
      generalize (w.1 + w.2) * y = z at *
      exact small_of (by omega) (by omega)
    have fd : ∀ x : Int, x.fdiv 4398046511104 = x / 4398046511104 := fun x => fd_pos (by decide)
    have eq : (2 * ((w.1 + w.2) * 2 ^ m) + 2199023255552) / 4398046511104 = midP m w := by
      unfold midP
      generalize (w.1 + w.2) * 2 ^ m = z
      omega
    simp! [dv_t, s, s1]
    refine law_one_ok ?_
    simp! [s, s1, s3, s4, s5, s6, fd, eq]
    refine law_made_ok (by omega) (pow_bi h) (by omega) ?_
    simp! [true_and]
    exact q
  · rintro i ρ θ1 hi ⟨x3, rfl, rfl⟩
    refine ⟨_, bindT_n 3 _, ?_⟩
    have p := pow_le40 (m := i) (by omega)
    have s : small ((2 : Int) ^ i) = true := small_of (by omega) (by omega)
    have s2 : small 2 = true := by decide
    have e : (2 : Int) ^ i * 2 = 2 ^ (i + 1) := by rw [Int.pow_succ]
    simp! [s, s2, e]
    exact Or.inl ⟨_, rfl, _, rfl⟩
/-! rows of intervals -/
def dR (R : List Bx) : Dt := .tup (R.map db)
theorem dR_t (R : List Bx) : dR R = .tup (R.map db) := rfl
def dD (m : Nat) (R : List Bx) : Dt := dm (R.map fun b => b.map (roundQ m))
structure RowsOk (l : Nat) (R : List Bx) : Prop where
  r1 : 1 ≤ R.length
  r3 : R.length ≤ 3
  l1 : 1 ≤ l
  l3 : l ≤ 3
  ll : ∀ b ∈ R, b.length = l
  v : ∀ b ∈ R, ∀ v ∈ b, RB v
theorem RB_iv {v : I2} (h : RB v) : Iv v := by
  have := h.le
  have := h.lo
  have := h.hi
  exact ⟨by omega, h.le, by omega⟩
theorem rounded_rows_ok {θ : Pot} {m l : Nat} {v : Int} {R : List Bx} {Q : Ret → Pot → Prop} (ev : v = (m : Nat)) (h : m ≤ 40) (hR : RowsOk l R) (q : Q (.d (dD m R)) θ) : Gv (m_rounded_rows [.dat (dR R), .dat (.int v)] θ) Q := by
  have lR : (R.map db).length < bigL := Nat.lt_of_le_of_lt (show (R.map db).length ≤ 3 by rw [List.length_map]; exact hR.r3) (by decide)
  unfold m_rounded_rows r_rounded_rows
  simp! [dR_t, lR]
  refine cmap (g := db) (f := fun b => dr (b.map (roundQ m))) R (fun b hb => ?_) ?_
  · have lb : (b.map dv).length < bigL := Nat.lt_of_le_of_lt (show (b.map dv).length ≤ 3 by rw [List.length_map, hR.ll b hb]; exact hR.l3) (by decide)
    simp! [db_t, lb]
    refine cmap (g := dv) (f := fun w => dq (roundQ m w)) b (fun w hw => ?_) ?_
    · simp! [true_and]
      refine rounded_middle_ok ev h (hR.v b hb w hw) ?_
      simp! [true_and]
    · simp! [dr_t, List.map_map]
      exact rfl
  · have e : Dt.tup (R.map fun b => dr (b.map (roundQ m))) = dD m R := by
      unfold dD
      rw [dm_t, List.map_map]
      rfl
    simp! [e]
    exact q
theorem is_rows_ok {θ : Pot} {l : Nat} {R : List Bx} {Q : Ret → Pot → Prop} (hR : RowsOk l R) (q : Q (.d (.bl true)) θ) : Gv (m_is_rows_of_intervals [.dat (dR R)] θ) Q := by
  have lR : (R.map db).length < bigL := Nat.lt_of_le_of_lt (show (R.map db).length ≤ 3 by rw [List.length_map]; exact hR.r3) (by decide)
  have r1 := hR.r1
  have r3 := hR.r3
  have l1 := hR.l1
  have l3 := hR.l3
  obtain ⟨v, ev⟩ : ∃ v : Int, v = (l : Nat) := ⟨_, rfl⟩
  obtain ⟨r, er⟩ : ∃ r : Int, r = (R.length : Nat) := ⟨_, rfl⟩
  have gl : ∀ (ρ : DEnv) (θ : Pot) (Q : Dt → Pot → Prop), Gv (opt (gLen [.tup (R.map db)]) ρ θ) Q = Q (.int r) θ := fun ρ θ Q => by
    rw [gv_lenT, List.length_map, er]
  have gb : ∀ b ∈ R, ∀ (ρ : DEnv) (θ : Pot) (Q : Dt → Pot → Prop), Gv (opt (gLen [db b]) ρ θ) Q = Q (.int v) θ := fun b hb ρ θ Q => by
    rw [gv_lenBx, hR.ll b hb, ev]
  have i1 : (1 : Int) ≤ r := by omega
  have i2 : r ≤ 8 := by omega
  have j1 : (1 : Int) ≤ v := by omega
  have j2 : v ≤ 8 := by omega
  obtain ⟨b0, hb0, g0⟩ : ∃ b0 ∈ R, ∀ (ρ : DEnv) (θ : Pot) (Q : Dt → Pot → Prop), Gv (opt (gIx (.tup (R.map db)) (.int 0)) ρ θ) Q = Q (db b0) θ := by
    cases R with
    | nil => exact absurd r1 (by decide)
    | cons b R => exact ⟨b, List.mem_cons_self, fun ρ θ Q => gv_ix0 (db b) (R.map db)⟩
  have tt : ∀ (b : Bx) (ρ : DEnv) (θ : Pot) (Q : Dt → Pot → Prop), Gv (opt ((isiF "tuple") (db b)) ρ θ) Q = Q (.bl true) θ := fun b ρ θ Q => rfl
  unfold m_is_rows_of_intervals r_is_rows_of_intervals
  simp! [dR_t, gl, i1, i2, lR]
  refine cmap (g := db) (f := fun _ => .bl true) R (fun b hb => ?_) ?_
  · simp! [tt, gb b hb, j1, j2]
  simp! [true_and]
  rw [gv_allM (fun _ => true), all_tt]
  simp! [lR]
  refine cmap (g := db) (f := fun _ => .bl true) R (fun b hb => ?_) ?_
  · simp! [gb b hb, g0, gb b0 hb0, gv_eqI, decide_true]
  simp! [true_and]
  rw [gv_allM (fun _ => true), all_tt]
  simp! [lR]
  refine cmap (g := db) (f := fun _ => .bl true) R (fun b hb => ?_) ?_
  · have lb : (b.map dv).length < bigL := Nat.lt_of_le_of_lt (show (b.map dv).length ≤ 3 by rw [List.length_map, hR.ll b hb]; exact hR.l3) (by decide)
    simp! [db_t, lb]
    refine cmap (g := dv) (f := fun _ => .bl true) b (fun w hw => ?_) ?_
    · simp! [true_and]
      refine is_interval_ok (RB_iv (hR.v b hb w hw)) ?_
      simp! [true_and]
    · simp! [true_and]
      rw [gv_allM (fun _ => true), all_tt]
      simp! [true_and]
  simp! [true_and]
  rw [gv_allM (fun _ => true), all_tt]
  simp! [true_and]
  exact q
end Tc


namespace Tc
open PySem PySem.Spec Pd
/-! ### rounded, asked -/
theorem RB_of {v : I2} (h : v.1 ≤ v.2 ∧ bi 42 v.1 ∧ bi 42 v.2) : RB v := by
  obtain ⟨h1, h2, h3⟩ := h
  have e : (2 : Nat) ^ 42 = 4398046511104 := by decide
  unfold bi at h2 h3
  rw [e] at h2 h3
  exact ⟨h1, by omega, by omega⟩
theorem roundQ_bz {m : Nat} {v : I2} (h : m ≤ 40) (hv : RB v) : bz 60 (roundQ m v) := by
  have p := pow_le40 h
  have w1 := hv.le
  have w2 := hv.lo
  have w3 := hv.hi
  have n1 : (v.1 + v.2) * 2 ^ m ≤ 17592186044416 * 2 ^ m := Int.mul_le_mul_of_nonneg_right (by omega) (by omega)
  have n2 : -17592186044416 * 2 ^ m ≤ (v.1 + v.2) * 2 ^ m := Int.mul_le_mul_of_nonneg_right (by omega) (by omega)
  have e : (2 : Nat) ^ 60 = 1152921504606846976 := by decide
  refine bz_of (w := (midP m v, (2 : Int) ^ m)) (by show (2 : Int) ^ m ≠ 0; omega) rfl ?_ ((pow_bi h).mono (by omega))
  show bi 60 (midP m v)
  unfold bi midP
  rw [e]
  generalize (2 : Int) ^ m = y at *
  generalize (v.1 + v.2) * y = z at *
  omega
theorem pick_bits {θ : Pot} (h : PotOk θ) : Gv (m__law_pick [.pot, .dat (.lst [.int 0, .int 1, .int 2, .int 3, .int 20, .int 39, .int 40])] θ) fun r θ' => ∃ i : Int, r = .d (.int i) ∧ 0 ≤ i ∧ i ≤ 40 ∧ PotOk θ' := by
  refine pick_mem h (by show 0 < 7; omega) (by show 7 ≤ 100; omega) fun d hd θ' hp => ?_
  simp only [List.mem_cons, List.not_mem_nil, or_false] at hd
  rcases hd with rfl | rfl | rfl | rfl | rfl | rfl | rfl <;> exact ⟨_, rfl, by omega, by omega, hp⟩
theorem rounded_matrix_ok {θ : Pot} {m l : Nat} {v : Int} {R : List Bx} {d0 : Dt} {Q : Ret → Pot → Prop} (e0 : d0 = dR R) (ev : v = (m : Nat)) (h : m ≤ 40) (hR : RowsOk l R) (q : Q (.d (dD m R)) θ) : Gv (m_rounded_matrix [.dat d0, .dat (.int v)] θ) Q := by
  subst e0
  have v0 : 0 ≤ v := by omega
  have v4 : ¬ v > 40 := by omega
  unfold m_rounded_matrix r_rounded_matrix
  simp! [true_and]
  refine is_rows_ok hR ?_
  simp! [true_and]
  unfold m_is_count r_is_count
  simp! [is_integer_eq, ge_iff_le, v0, v4]
  refine rounded_rows_ok ev h hR ?_
  simp! [true_and]
  exact q
theorem rounded_right_ok {θ : Pot} (h : PotOk θ) : Gv (m__law_rounded_right [.pot] θ) fun r θ' => r = .d (.bl true) := by
  generalize hmm : m__law_rounded_right = mm
  rw [← hmm]
  clear hmm mm
  unfold m__law_rounded_right r__law_rounded_right
  simp! [true_and]
  refine (draw_spec h (by omega) (by omega)).imp ?_
  rintro _ θ1 ⟨i, rfl, i0, i3, hp1⟩
  obtain ⟨v, hv⟩ : ∃ v : Int, v = 1 + i := ⟨_, rfl⟩
  obtain ⟨n, en⟩ : ∃ n : Nat, v = (n : Nat) := ⟨v.toNat, by omega⟩
  simp! [← hv]
  refine (draw_spec hp1 (by omega) (by omega)).imp ?_
  rintro _ θ2 ⟨j, rfl, j0, j3, hp2⟩
  obtain ⟨w, hw⟩ : ∃ w : Int, w = 1 + j := ⟨_, rfl⟩
  obtain ⟨c, ec⟩ : ∃ c : Nat, w = (c : Nat) := ⟨w.toNat, by omega⟩
  have bw : bnd62 w = true := bnd_of (by omega) (by omega)
  have tw : w.toNat = c := by omega
  simp! [← hw, bw]
  rw [tw, rng0]
  refine for_rangeR (fun k : Nat => Dt.int (0 + k)) c (fun i ρ θ' => ∃ (R : List Bx) (x3 : Option Dt), ρ = [some .pot, some (.dat (.int v)), some (.own (R.map db)), x3.map Ent.dat, none, none, none, none] ∧ R.length = i ∧ (∀ b ∈ R, OkB n b) ∧ PotOk θ') ?_ ?_ _ _ ⟨[], none, rfl, rfl, fun b hb => (List.not_mem_nil hb).elim, hp2⟩
  · rintro ρ θ3 ⟨R, x3, rfl, lR, hR, hp3⟩
    have ro : RowsOk n R := ⟨by omega, by omega, by omega, by omega, fun b hb => (hR b hb).l, fun b hb v hv => RB_of ((hR b hb).v v hv)⟩
    have lb : (R.map db).length < bigL := Nat.lt_of_le_of_lt (show (R.map db).length ≤ 3 by rw [List.length_map]; omega) (by decide)
    simp! [true_and]
    refine (pick_bits hp3).imp ?_
    rintro _ θ4 ⟨k, rfl, k0, k40, hp4⟩
    obtain ⟨m, em⟩ : ∃ m : Nat, k = (m : Nat) := ⟨k.toNat, by omega⟩
    have m40 : m ≤ 40 := by omega
    simp! [bindT_2, lb]
    refine cmap (g := db) (f := fun b => dr (b.map (roundQ m))) R (fun b hb => ?_) ?_
    · have lb2 : (b.map dv).length < bigL := Nat.lt_of_le_of_lt (show (b.map dv).length ≤ 3 by rw [List.length_map, (hR b hb).l]; omega) (by decide)
      simp! [db_t, lb2, hide_m]
      refine cmap (g := dv) (f := fun w => dq (roundQ m w)) b (fun w hw => ?_) ?_
      · simp! [hide_m]
        refine law_rounded_ok em m40 (ro.v b hb w hw) ?_
        simp! [true_and]
      · simp! [dr_t, List.map_map]
        exact rfl
    have e : Dt.tup (R.map fun b => dr (b.map (roundQ m))) = dD m R := by
      unfold dD
      rw [dm_t, List.map_map]
      rfl
    have eqd : ∀ (ρ : DEnv) (θ : Pot) (Q : Dt → Pot → Prop), Gv (opt (gEq (dD m R) (dD m R)) ρ θ) Q = Q (.bl true) θ := eq_dm (k := 60) (fun r hr q hq => by
      obtain ⟨b, hb, rfl⟩ := List.mem_map.mp hr
      obtain ⟨x, hx, rfl⟩ := List.mem_map.mp hq
      exact roundQ_bz m40 (ro.v b hb x hx)) (by omega)
    obtain ⟨dD0, eD0⟩ : ∃ d, d = dD m R := ⟨_, rfl⟩
    rw [← eD0] at eqd e
    simp! [e]
    refine rounded_matrix_ok (R := R) rfl em m40 ro ?_
    rw [← eD0]
    simp! [eqd]
    refine rounded_matrix_ok (R := R) rfl em m40 ro ?_
    rw [← eD0]
    simp! [eqd]
  · rintro i' ρ θ3 hi ⟨R, x3, rfl, lR, hR, hp3⟩
    refine ⟨_, bindT_n 3 _, ?_⟩
    have lb : (R.map db).length < bigL := Nat.lt_of_le_of_lt (show (R.map db).length ≤ 3 by rw [List.length_map]; omega) (by decide)
    simp! [true_and]
    refine (box_spec en (by omega) hp3).imp ?_
    rintro _ θ4 ⟨b, rfl, ob, hp4⟩
    simp! [lb]
    refine Or.inl ⟨_, rfl, R ++ [b], some (.int (0 + (i' : Nat))), by rw [List.map_append]; rfl, by rw [List.length_append, lR]; rfl, fun x hx => ?_, hp4⟩
    rcases List.mem_append.mp hx with z | z
    · exact hR x z
    · rw [List.mem_singleton.mp z]; exact ob
end Tc


namespace Tc
open PySem PySem.Spec Pd
theorem costD_db {b : Bx} (h : b.length ≤ 8) : costD (db b) ≤ 32120 := by
  unfold db
  simp only [costD]
  have := costs_map (f := dv) (n := 4010) (l := b) fun v _ => by
    unfold dv
    simp only [costD, costs]
    decide
  have : b.length * (4010 + 2) ≤ 8 * 4012 := Nat.mul_le_mul_right _ h
  omega
theorem costD_dS {n : Nat} {mid : Rw} {A : Mx} {b : Bx} (lm : mid.length = n) (sA : Shp n n A) (lb : b.length = n) (n3 : n ≤ 3) : costD (dS (dr mid) (dm A) (db b)) ≤ 400000 := by
  have h1 := costD_dr (r := mid) (by omega)
  have h2 := costD_dm sA (by omega) (by omega)
  have h3 := costD_db (b := b) (by omega)
  have h4 : costD (.str "set") ≤ 100 := by simp only [costD]; decide +kernel
  unfold dS
  simp only [costD, costs] at *
  omega
theorem repr_two {n : Nat} {m1 m2 : Rw} {A1 A2 : Mx} {b1 b2 : Bx} (W1 : SetW n m1 A1 b1) (W2 : SetW n m2 A2 b2) : ∃ s, ∀ (ρ : DEnv) (θ : Pot) (Q : Dt → Pot → Prop), Gv (opt (gRepr [.lst [dS (dr m1) (dm A1) (db b1), dS (dr m2) (dm A2) (db b2)]]) ρ θ) Q = Q (.str s) θ := by
  have n3 := W1.g.n3
  have o1 := okD_dS (k := 100) W1.rm (fun r hr q hq => (W1.g.mA r hr q hq).mono (by omega)) (by omega) W1.b80
  have o2 := okD_dS (k := 100) W2.rm (fun r hr q hq => (W2.g.mA r hr q hq).mono (by omega)) (by omega) W2.b80
  have d1 := depD_dS m1 A1 b1
  have d2 := depD_dS m2 A2 b2
  have c1 := costD_dS W1.g.lm W1.g.sA W1.g.lb n3
  have c2 := costD_dS W2.g.lm W2.g.sA W2.g.lb n3
  generalize dS (dr m1) (dm A1) (db b1) = x at *
  generalize dS (dr m2) (dm A2) (db b2) = y at *
  refine repr_ok ?_ ?_ ?_
  · simp only [okD, oks]; exact ⟨o1, o2, trivial⟩
  · simp only [depD, deps]; omega
  · simp only [costD, costs]; omega
theorem law_right_ok {θ : Pot} (h : PotOk θ) : Gv (m__law_right [.pot] θ) fun r θ' => r = .d (.bl true) := by
  generalize hmm : m__law_right = mm
  rw [← hmm]
  clear hmm mm
  unfold m__law_right r__law_right
  simp! [true_and]
  refine (draw_spec h (by omega) (by omega)).imp ?_
  rintro _ θ1 ⟨i, rfl, i0, i3, hp1⟩
  obtain ⟨n, en⟩ : ∃ n : Nat, 1 + i = (n : Nat) := ⟨(1 + i).toNat, by omega⟩
  obtain ⟨v, hv⟩ : ∃ v : Int, v = 1 + i := ⟨_, rfl⟩
  have ev : v = (n : Nat) := by omega
  have n1 : 1 ≤ n := by omega
  have n3 : n ≤ 3 := by omega
  simp! [← hv]
  refine (set_spec ev n1 n3 hp1).imp ?_
  rintro _ θ2 ⟨mid, A, b, rfl, D, hp2⟩
  have W := D.w
  have O := D.s
  obtain ⟨d0, e0'⟩ : ∃ d, d = ds mid A b := ⟨_, rfl⟩
  have e0 : d0 = dS (dr mid) (dm A) (db b) := by rw [e0']; rfl
  simp! [← e0']
  refine (other_spec (dM := dr mid) e0 rfl D hp2).imp ?_
  rintro _ θ3 ⟨m2, A2, b2, rfl, W2, r2, hp3⟩
  obtain ⟨s1, q1⟩ := repr_two W W2
  obtain ⟨d2, e2⟩ : ∃ d, d = dS (dr m2) (dm A2) (db b2) := ⟨_, rfl⟩
  rw [← e0, ← e2] at q1
  obtain ⟨s2, q2⟩ := repr_bb (withinB n mid A b m2 A2 b2) (withinB n m2 A2 b2 mid A b)
  have hH := hull_HB O (fun v hv => (D.ob.v v hv).1)
  have lH := hull_len (b := b) D.sA D.lm
  obtain ⟨dH, eH⟩ : ∃ d, d = db (hullQ mid A b) := ⟨_, rfl⟩
  have W3 := hull_W n1 n3 lH hH
  have wh := within_hull (b := b) n1 n3 D.sA D.lm D.ob.l W.v
  have ws := within_self n1 n3 D.sA D.lm D.ob.l D.nz W.v
  obtain ⟨dM3, eM3⟩ : ∃ d, d = dr ((hullQ mid A b).map midq) := ⟨_, rfl⟩
  obtain ⟨dU3, eU3⟩ : ∃ d, d = dm (unitQ n) := ⟨_, rfl⟩
  obtain ⟨dL3, eL3⟩ : ∃ d, d = db ((hullQ mid A b).map leftv) := ⟨_, rfl⟩
  obtain ⟨d3, e3⟩ : ∃ d, d = dS dM3 dU3 dL3 := ⟨_, rfl⟩
  have e3' : d3 = dS (dr ((hullQ mid A b).map midq)) (dm (unitQ n)) (db ((hullQ mid A b).map leftv)) := by rw [e3, eM3, eU3, eL3]
  have rm : rok 50 mid := fun q hq => (D.rm q hq).mono (by omega)
  simp! [← e2, q1]
  refine law_within_ok e0 e2 W W2 rm ?_
  simp! [true_and]
  refine law_within_ok e2 e0 W2 W r2 ?_
  simp! [true_and]
  refine set_within_ok e0 e2 W W2 ?_
  simp! [true_and]
  refine set_within_ok e2 e0 W2 W ?_
  simp! [q2, q1, gv_neS, decide_true]
  refine set_hullE e0 W.g (by omega) O ?_
  simp! [← eH]
  refine set_of_boxE ev eH eM3 eU3 eL3 n1 (by omega) lH (fun v hv => HB_iv (hH v hv)) ?_
  simp! [← e3]
  refine set_within_ok e0 e3' W W3 ?_
  rw [wh]
  simp! [true_and]
  refine set_within_ok e0 e0 W W ?_
  rw [ws]
  simp! [true_and]
  refine (rounded_right_ok hp3).imp ?_
  rintro _ θ4 rfl
  simp! [true_and]
end Tc


namespace Tc
open PySem PySem.Spec Pd
theorem pot_spec (ns : List Int) (θ : Pot) : Gv (m__law_pot [.dat (.lst (ns.map Dt.int)), .dat (.int 0)] θ) fun r _ => ∃ a b, r = .o [.int a, .int b] ∧ PotOk (a, b) := by
  unfold m__law_pot r__law_pot
  have e1 : ∀ i : Int, i.fmod 2147483549 = i % 2147483549 := fun i => fm_pos (by decide)
  have e2 : ∀ i : Int, i.fmod 2147483563 = i % 2147483563 := fun i => fm_pos (by decide)
  have fin : ∀ c : Int, PotOk (if c - 1000000000000000000 > 0 then c - 1000000000000000000 else 0, (c % 2147483549 * 48271 + 0 + 107) % 2147483563 + 1) := fun c => by
    refine ⟨?_, ?_, ?_⟩
    · show 0 ≤ (if c - 1000000000000000000 > 0 then c - 1000000000000000000 else 0)
      split <;> omega
    · show 0 ≤ (c % 2147483549 * 48271 + 0 + 107) % 2147483563 + 1
      omega
    · show (c % 2147483549 * 48271 + 0 + 107) % 2147483563 + 1 < 4294967296
      omega
  cases ns with
  | nil =>
    simp! [e1, e2]
    exact ⟨_, _, rfl, fin 541⟩
  | cons x xs =>
    have ix : ∀ (ρ : DEnv) (θ : Pot) (Q : Dt → Pot → Prop), Gv (opt (gIx (.lst (.int x :: xs.map Dt.int)) (.int 0)) ρ θ) Q = Q (.int x) θ := fun ρ θ Q => by
      have e : gIx (.lst (.int x :: xs.map Dt.int)) (.int 0) = some (.int x) := L2.atI_nat (j := 0) rfl
      rw [e, gv_opt]
    have ln : ∀ (ρ : DEnv) (θ : Pot) (Q : Dt → Pot → Prop), Gv (opt (gLen [.lst (.int x :: xs.map Dt.int)]) ρ θ) Q = Q (.int ((xs.map Dt.int).length + 1 : Nat)) θ := fun ρ θ Q => rfl
    have c0 : (0 : Int) < (((xs.map Dt.int).length + 1 : Nat) : Int) := by omega
    have sm : small ((if x < 0 then -x else x) % 2147483549) = true := small_of (by omega) (by omega)
    simp! [e1, e2, ix, ln, c0, sm]
    exact ⟨_, _, rfl, fin _⟩
theorem law_true (ns : List Int) (hl : ns.length ≤ 63) (θ : Pot) : ∃ θ', m_law [.dat (.lst (ns.map Dt.int))] θ = .ok (.d (.bl true)) θ' := by
  have z : Gv (m_law [.dat (.lst (ns.map Dt.int))] θ) fun r _ => r = .d (.bl true) := by
    unfold m_law r_law
    simp! [gv_lawR]
    refine (pot_spec ns θ).imp ?_
    rintro _ θ1 ⟨a, b, rfl, h⟩
    simp! [true_and]
    refine (law_right_ok h).imp ?_
    rintro _ θ2 rfl
    simp! [true_and]
  obtain ⟨r, θ', e, rfl⟩ := z.ok
  exact ⟨θ', e⟩
end Tc


namespace Tc
open PySem PySem.Spec PyProof.Rows L2 Pd
def dd__law_pot : He.DefD := ⟨("_law_pot", none), "_law_pot", "_law_pot", defArgs s__law_pot, defBody s__law_pot, defScope s__law_pot, [], []⟩
def dd_is_integer : He.DefD := ⟨("is_integer", none), "is_integer", "is_integer", defArgs s_is_integer, defBody s_is_integer, defScope s_is_integer, [], []⟩
def dd_is_interval : He.DefD := ⟨("is_interval", none), "is_interval", "is_interval", defArgs s_is_interval, defBody s_is_interval, defScope s_is_interval, [], []⟩
def dd_is_box : He.DefD := ⟨("is_box", none), "is_box", "is_box", defArgs s_is_box, defBody s_is_box, defScope s_is_box, [], []⟩
def dd_want_box : He.DefD := ⟨("want_box", none), "want_box", "want_box", defArgs s_want_box, defBody s_want_box, defScope s_want_box, [], []⟩
def dd_made_ratio : He.DefD := ⟨("made_ratio", none), "made_ratio", "made_ratio", defArgs s_made_ratio, defBody s_made_ratio, defScope s_made_ratio, [], []⟩
def dd_unit_of : He.DefD := ⟨("unit_of", none), "unit_of", "unit_of", defArgs s_unit_of, defBody s_unit_of, defScope s_unit_of, [], []⟩
def dd_box_as_set : He.DefD := ⟨("box_as_set", none), "box_as_set", "box_as_set", defArgs s_box_as_set, defBody s_box_as_set, defScope s_box_as_set, [], []⟩
def dd_set_of_box : He.DefD := ⟨("set_of_box", none), "set_of_box", "set_of_box", defArgs s_set_of_box, defBody s_set_of_box, defScope s_set_of_box, [], []⟩
def dd_is_ratio : He.DefD := ⟨("is_ratio", none), "is_ratio", "is_ratio", defArgs s_is_ratio, defBody s_is_ratio, defScope s_is_ratio, [], []⟩
def dd_is_point : He.DefD := ⟨("is_point", none), "is_point", "is_point", defArgs s_is_point, defBody s_is_point, defScope s_is_point, [], []⟩
def dd_is_row : He.DefD := ⟨("is_row", none), "is_row", "is_row", defArgs s_is_row, defBody s_is_row, defScope s_is_row, [], []⟩
def dd_is_matrix : He.DefD := ⟨("is_matrix", none), "is_matrix", "is_matrix", defArgs s_is_matrix, defBody s_is_matrix, defScope s_is_matrix, [], []⟩
def dd_inverse_ratio : He.DefD := ⟨("inverse_ratio", none), "inverse_ratio", "inverse_ratio", defArgs s_inverse_ratio, defBody s_inverse_ratio, defScope s_inverse_ratio, [], []⟩
def dd_mul_ratios : He.DefD := ⟨("mul_ratios", none), "mul_ratios", "mul_ratios", defArgs s_mul_ratios, defBody s_mul_ratios, defScope s_mul_ratios, [], []⟩
def dd_row_times : He.DefD := ⟨("row_times", none), "row_times", "row_times", defArgs s_row_times, defBody s_row_times, defScope s_row_times, [], []⟩
def dd_add_ratios : He.DefD := ⟨("add_ratios", none), "add_ratios", "add_ratios", defArgs s_add_ratios, defBody s_add_ratios, defScope s_add_ratios, [], []⟩
def dd_neg_ratio : He.DefD := ⟨("neg_ratio", none), "neg_ratio", "neg_ratio", defArgs s_neg_ratio, defBody s_neg_ratio, defScope s_neg_ratio, [], []⟩
def dd_sub_ratios : He.DefD := ⟨("sub_ratios", none), "sub_ratios", "sub_ratios", defArgs s_sub_ratios, defBody s_sub_ratios, defScope s_sub_ratios, [], []⟩
def dd_row_less : He.DefD := ⟨("row_less", none), "row_less", "row_less", defArgs s_row_less, defBody s_row_less, defScope s_row_less, [], []⟩
def dd_row_with : He.DefD := ⟨("row_with", none), "row_with", "row_with", defArgs s_row_with, defBody s_row_with, defScope s_row_with, [], []⟩
def dd_exchanged : He.DefD := ⟨("exchanged", none), "exchanged", "exchanged", defArgs s_exchanged, defBody s_exchanged, defScope s_exchanged, [], []⟩
def dd_inverse_of : He.DefD := ⟨("inverse_of", none), "inverse_of", "inverse_of", defArgs s_inverse_of, defBody s_inverse_of, defScope s_inverse_of, [], []⟩
def dd_is_set_value : He.DefD := ⟨("is_set_value", none), "is_set_value", "is_set_value", defArgs s_is_set_value, defBody s_is_set_value, defScope s_is_set_value, [], []⟩
def dd_is_set : He.DefD := ⟨("is_set", none), "is_set", "is_set", defArgs s_is_set, defBody s_is_set, defScope s_is_set, [], []⟩
def dd_want_set : He.DefD := ⟨("want_set", none), "want_set", "want_set", defArgs s_want_set, defBody s_want_set, defScope s_want_set, [], []⟩
def dd_checked_ends : He.DefD := ⟨("checked_ends", none), "checked_ends", "checked_ends", defArgs s_checked_ends, defBody s_checked_ends, defScope s_checked_ends, [], []⟩
def dd_rounded_down : He.DefD := ⟨("rounded_down", none), "rounded_down", "rounded_down", defArgs s_rounded_down, defBody s_rounded_down, defScope s_rounded_down, [], []⟩
def dd_rounded_up : He.DefD := ⟨("rounded_up", none), "rounded_up", "rounded_up", defArgs s_rounded_up, defBody s_rounded_up, defScope s_rounded_up, [], []⟩
def dd_around_of : He.DefD := ⟨("around_of", none), "around_of", "around_of", defArgs s_around_of, defBody s_around_of, defScope s_around_of, [], []⟩
def dd_plus_of : He.DefD := ⟨("plus_of", none), "plus_of", "plus_of", defArgs s_plus_of, defBody s_plus_of, defScope s_plus_of, [], []⟩
def dd_scaled_of : He.DefD := ⟨("scaled_of", none), "scaled_of", "scaled_of", defArgs s_scaled_of, defBody s_scaled_of, defScope s_scaled_of, [], []⟩
def dd_set_hull_of : He.DefD := ⟨("set_hull_of", none), "set_hull_of", "set_hull_of", defArgs s_set_hull_of, defBody s_set_hull_of, defScope s_set_hull_of, [], []⟩
def dd_set_hull : He.DefD := ⟨("set_hull", none), "set_hull", "set_hull", defArgs s_set_hull, defBody s_set_hull, defScope s_set_hull, [], []⟩
def dd_dot : He.DefD := ⟨("dot", none), "dot", "dot", defArgs s_dot, defBody s_dot, defScope s_dot, [], []⟩
def dd_columns_of : He.DefD := ⟨("columns_of", none), "columns_of", "columns_of", defArgs s_columns_of, defBody s_columns_of, defScope s_columns_of, [], []⟩
def dd_product_of : He.DefD := ⟨("product_of", none), "product_of", "product_of", defArgs s_product_of, defBody s_product_of, defScope s_product_of, [], []⟩
def dd_led_by : He.DefD := ⟨("led_by", none), "led_by", "led_by", defArgs s_led_by, defBody s_led_by, defScope s_led_by, [], []⟩
def dd_less_point : He.DefD := ⟨("less_point", none), "less_point", "less_point", defArgs s_less_point, defBody s_less_point, defScope s_less_point, [], []⟩
def dd_is_less_ratio : He.DefD := ⟨("is_less_ratio", none), "is_less_ratio", "is_less_ratio", defArgs s_is_less_ratio, defBody s_is_less_ratio, defScope s_is_less_ratio, [], []⟩
def dd_is_from_to : He.DefD := ⟨("is_from_to", none), "is_from_to", "is_from_to", defArgs s_is_from_to, defBody s_is_from_to, defScope s_is_from_to, [], []⟩
def dd_ends_led : He.DefD := ⟨("ends_led", none), "ends_led", "ends_led", defArgs s_ends_led, defBody s_ends_led, defScope s_ends_led, [], []⟩
def dd_is_within_set : He.DefD := ⟨("is_within_set", none), "is_within_set", "is_within_set", defArgs s_is_within_set, defBody s_is_within_set, defScope s_is_within_set, [], []⟩
def dd_set_within : He.DefD := ⟨("set_within", none), "set_within", "set_within", defArgs s_set_within, defBody s_set_within, defScope s_set_within, [], []⟩
def dd__law_draw : He.DefD := ⟨("_law_draw", none), "_law_draw", "_law_draw", defArgs s__law_draw, defBody s__law_draw, defScope s__law_draw, [], []⟩
def dd__law_pick : He.DefD := ⟨("_law_pick", none), "_law_pick", "_law_pick", defArgs s__law_pick, defBody s__law_pick, defScope s__law_pick, [], []⟩
def dd__law_made : He.DefD := ⟨("_law_made", none), "_law_made", "_law_made", defArgs s__law_made, defBody s__law_made, defScope s__law_made, [], []⟩
def dd__law_ratio : He.DefD := ⟨("_law_ratio", none), "_law_ratio", "_law_ratio", defArgs s__law_ratio, defBody s__law_ratio, defScope s__law_ratio, [], []⟩
def dd__law_row : He.DefD := ⟨("_law_row", none), "_law_row", "_law_row", defArgs s__law_row, defBody s__law_row, defScope s__law_row, [], []⟩
def dd__law_end : He.DefD := ⟨("_law_end", none), "_law_end", "_law_end", defArgs s__law_end, defBody s__law_end, defScope s__law_end, [], []⟩
def dd__law_box : He.DefD := ⟨("_law_box", none), "_law_box", "_law_box", defArgs s__law_box, defBody s__law_box, defScope s__law_box, [], []⟩
def dd__law_matrix : He.DefD := ⟨("_law_matrix", none), "_law_matrix", "_law_matrix", defArgs s__law_matrix, defBody s__law_matrix, defScope s__law_matrix, [], []⟩
def dd__law_unit : He.DefD := ⟨("_law_unit", none), "_law_unit", "_law_unit", defArgs s__law_unit, defBody s__law_unit, defScope s__law_unit, [], []⟩
def dd__law_sum : He.DefD := ⟨("_law_sum", none), "_law_sum", "_law_sum", defArgs s__law_sum, defBody s__law_sum, defScope s__law_sum, [], []⟩
def dd__law_times : He.DefD := ⟨("_law_times", none), "_law_times", "_law_times", defArgs s__law_times, defBody s__law_times, defScope s__law_times, [], []⟩
def dd__law_less : He.DefD := ⟨("_law_less", none), "_law_less", "_law_less", defArgs s__law_less, defBody s__law_less, defScope s__law_less, [], []⟩
def dd__law_minor : He.DefD := ⟨("_law_minor", none), "_law_minor", "_law_minor", defArgs s__law_minor, defBody s__law_minor, defScope s__law_minor, [], []⟩
def dd__law_det : He.DefD := ⟨("_law_det", none), "_law_det", "_law_det", defArgs s__law_det, defBody s__law_det, defScope s__law_det, [], []⟩
def dd__law_strong : He.DefD := ⟨("_law_strong", none), "_law_strong", "_law_strong", defArgs s__law_strong, defBody s__law_strong, defScope s__law_strong, [], []⟩
def dd__law_set : He.DefD := ⟨("_law_set", none), "_law_set", "_law_set", defArgs s__law_set, defBody s__law_set, defScope s__law_set, [], []⟩
def dd__law_dot : He.DefD := ⟨("_law_dot", none), "_law_dot", "_law_dot", defArgs s__law_dot, defBody s__law_dot, defScope s__law_dot, [], []⟩
def dd__law_led : He.DefD := ⟨("_law_led", none), "_law_led", "_law_led", defArgs s__law_led, defBody s__law_led, defScope s__law_led, [], []⟩
def dd__law_inverse : He.DefD := ⟨("_law_inverse", none), "_law_inverse", "_law_inverse", defArgs s__law_inverse, defBody s__law_inverse, defScope s__law_inverse, [], []⟩
def dd__law_point : He.DefD := ⟨("_law_point", none), "_law_point", "_law_point", defArgs s__law_point, defBody s__law_point, defScope s__law_point, [], []⟩
def dd__law_one : He.DefD := ⟨("_law_one", none), "_law_one", "_law_one", defArgs s__law_one, defBody s__law_one, defScope s__law_one, [], []⟩
def dd__law_has : He.DefD := ⟨("_law_has", none), "_law_has", "_law_has", defArgs s__law_has, defBody s__law_has, defScope s__law_has, [], []⟩
def dd__law_corners : He.DefD := ⟨("_law_corners", none), "_law_corners", "_law_corners", defArgs s__law_corners, defBody s__law_corners, defScope s__law_corners, [], []⟩
def dd__law_within : He.DefD := ⟨("_law_within", none), "_law_within", "_law_within", defArgs s__law_within, defBody s__law_within, defScope s__law_within, [], []⟩
def dd__law_floor : He.DefD := ⟨("_law_floor", none), "_law_floor", "_law_floor", defArgs s__law_floor, defBody s__law_floor, defScope s__law_floor, [], []⟩
def dd__law_ceiling : He.DefD := ⟨("_law_ceiling", none), "_law_ceiling", "_law_ceiling", defArgs s__law_ceiling, defBody s__law_ceiling, defScope s__law_ceiling, [], []⟩
def dd__law_hull : He.DefD := ⟨("_law_hull", none), "_law_hull", "_law_hull", defArgs s__law_hull, defBody s__law_hull, defScope s__law_hull, [], []⟩
def dd__law_near : He.DefD := ⟨("_law_near", none), "_law_near", "_law_near", defArgs s__law_near, defBody s__law_near, defScope s__law_near, [], []⟩
def dd__law_other : He.DefD := ⟨("_law_other", none), "_law_other", "_law_other", defArgs s__law_other, defBody s__law_other, defScope s__law_other, [], []⟩
def dd_is_count : He.DefD := ⟨("is_count", none), "is_count", "is_count", defArgs s_is_count, defBody s_is_count, defScope s_is_count, [], []⟩
def dd_parts_of_one : He.DefD := ⟨("parts_of_one", none), "parts_of_one", "parts_of_one", defArgs s_parts_of_one, defBody s_parts_of_one, defScope s_parts_of_one, [], []⟩
def dd_rounded_middle : He.DefD := ⟨("rounded_middle", none), "rounded_middle", "rounded_middle", defArgs s_rounded_middle, defBody s_rounded_middle, defScope s_rounded_middle, [], []⟩
def dd_rounded_rows : He.DefD := ⟨("rounded_rows", none), "rounded_rows", "rounded_rows", defArgs s_rounded_rows, defBody s_rounded_rows, defScope s_rounded_rows, [], []⟩
def dd_is_rows_of_intervals : He.DefD := ⟨("is_rows_of_intervals", none), "is_rows_of_intervals", "is_rows_of_intervals", defArgs s_is_rows_of_intervals, defBody s_is_rows_of_intervals, defScope s_is_rows_of_intervals, [], []⟩
def dd_rounded_matrix : He.DefD := ⟨("rounded_matrix", none), "rounded_matrix", "rounded_matrix", defArgs s_rounded_matrix, defBody s_rounded_matrix, defScope s_rounded_matrix, [], []⟩
def dd__law_rounded : He.DefD := ⟨("_law_rounded", none), "_law_rounded", "_law_rounded", defArgs s__law_rounded, defBody s__law_rounded, defScope s__law_rounded, [], []⟩
def dd__law_rounded_right : He.DefD := ⟨("_law_rounded_right", none), "_law_rounded_right", "_law_rounded_right", defArgs s__law_rounded_right, defBody s__law_rounded_right, defScope s__law_rounded_right, [], []⟩
def dd__law_right : He.DefD := ⟨("_law_right", none), "_law_right", "_law_right", defArgs s__law_right, defBody s__law_right, defScope s__law_right, [], []⟩
def dd_law : He.DefD := ⟨("law", none), "law", "law", defArgs s_law, defBody s_law, defScope s_law, [], []⟩
def fn : List He.DefD := ([dd__law_pot, dd_is_integer, dd_is_interval, dd_is_box, dd_want_box, dd_made_ratio, dd_unit_of, dd_box_as_set, dd_set_of_box, dd_is_ratio, dd_is_point, dd_is_row, dd_is_matrix, dd_inverse_ratio, dd_mul_ratios, dd_row_times, dd_add_ratios, dd_neg_ratio, dd_sub_ratios, dd_row_less, dd_row_with, dd_exchanged, dd_inverse_of, dd_is_set_value, dd_is_set, dd_want_set, dd_checked_ends, dd_rounded_down, dd_rounded_up, dd_around_of] : List He.DefD) ++ ([dd_plus_of, dd_scaled_of, dd_set_hull_of, dd_set_hull, dd_dot, dd_columns_of, dd_product_of, dd_led_by, dd_less_point, dd_is_less_ratio, dd_is_from_to, dd_ends_led, dd_is_within_set, dd_set_within, dd__law_draw, dd__law_pick, dd__law_made, dd__law_ratio, dd__law_row, dd__law_end, dd__law_box, dd__law_matrix, dd__law_unit, dd__law_sum, dd__law_times, dd__law_less, dd__law_minor, dd__law_det, dd__law_strong, dd__law_set] : List He.DefD) ++ ([dd__law_dot, dd__law_led, dd__law_inverse, dd__law_point, dd__law_one, dd__law_has, dd__law_corners, dd__law_within, dd__law_floor, dd__law_ceiling, dd__law_hull, dd__law_near, dd__law_other, dd_is_count, dd_parts_of_one, dd_rounded_middle, dd_rounded_rows, dd_is_rows_of_intervals, dd_rounded_matrix, dd__law_rounded, dd__law_rounded_right, dd__law_right, dd_law] : List He.DefD)
def fa : List He.Fa := ([.glo "_law_pot", .glo "is_integer", .glo "is_interval", .glo "is_box", .glo "want_box", .glo "made_ratio", .glo "unit_of", .glo "box_as_set", .glo "set_of_box", .glo "is_ratio", .glo "is_point", .glo "is_row", .glo "is_matrix", .glo "inverse_ratio", .glo "mul_ratios", .glo "row_times", .glo "add_ratios", .glo "neg_ratio", .glo "sub_ratios", .glo "row_less", .glo "row_with", .glo "exchanged", .glo "inverse_of", .glo "is_set_value", .glo "is_set", .glo "want_set", .glo "checked_ends", .glo "rounded_down", .glo "rounded_up", .glo "around_of"] : List He.Fa) ++ ([.glo "plus_of", .glo "scaled_of", .glo "set_hull_of", .glo "set_hull", .glo "dot", .glo "columns_of", .glo "product_of", .glo "led_by", .glo "less_point", .glo "is_less_ratio", .glo "is_from_to", .glo "ends_led", .glo "is_within_set", .glo "set_within", .glo "_law_draw", .glo "_law_pick", .glo "_law_made", .glo "_law_ratio", .glo "_law_row", .glo "_law_end", .glo "_law_box", .glo "_law_matrix", .glo "_law_unit", .glo "_law_sum", .glo "_law_times", .glo "_law_less", .glo "_law_minor", .glo "_law_det", .glo "_law_strong", .glo "_law_set"] : List He.Fa) ++ ([.glo "_law_dot", .glo "_law_led", .glo "_law_inverse", .glo "_law_point", .glo "_law_one", .glo "_law_has", .glo "_law_corners", .glo "_law_within", .glo "_law_floor", .glo "_law_ceiling", .glo "_law_hull", .glo "_law_near", .glo "_law_other", .glo "is_count", .glo "parts_of_one", .glo "rounded_middle", .glo "rounded_rows", .glo "is_rows_of_intervals", .glo "rounded_matrix", .glo "_law_rounded", .glo "_law_rounded_right", .glo "_law_right", .glo "law", .free "ArithmeticError", .free "RuntimeError", .free "ValueError", .free "abs", .free "all", .free "bool", .free "divmod"] : List He.Fa) ++ ([.free "enumerate", .free "int", .free "isinstance", .free "len", .free "list", .free "max", .free "min", .free "range", .free "repr", .free "str", .free "tuple", .free "zip", .int "ONE" (1099511627776), .int "MOST_GRAINS" (1180591620717411303424), .int "MOST_LETTERS" (8), .int "MOST_ROWS" (8), .int "MOST_BITS" (40), .str "WORD" "set"] : List He.Fa)
def ex (K : PySem.W.Frag) : Bool := (decide (PySem.W.nsIn K mainGlobals "gcd" = some (some (.builtin "math.gcd")))) && ((Pd.exTup K "NOUGHT" [.int (0), .int (1)]) && ((Pd.exTup K "WHOLE" [.int (1), .int (1)]) && (true)))
abbrev R : PySem.W.OpenRow := PySem.W.OpenLaw.row PySem.Challenge.rw_truecourse_k29_whole_sets_within_and_rou
abbrev hk : PySem.W.Hook := He.hookX 2 fa fn [] [] ex
def ob (s : PySem.W.SharedT) : He.AlX := He.obsX 2 fa fn [] [] ex (HandSHeadRun.getT s)
theorem ob_eq (s : PySem.W.SharedT) : ob s = hk.obs s.abs := He.obsX_eq (HandSHeadRun.getT_eq s)
def names : List PySem.Str := (["gcd", "CourseError", "StateError", "LimitError", "InvalidBox", "InvalidBits", "InvalidRows", "InvalidSet", "UnlikeSizes", "TooMany", "is_integer", "is_count", "NOUGHT", "WHOLE", "made_ratio", "add_ratios", "neg_ratio", "sub_ratios", "mul_ratios", "inverse_ratio", "is_less_ratio", "is_ratio", "ONE", "MOST_GRAINS", "checked_ends", "rounded_down", "rounded_up", "around_of", "plus_of", "scaled_of"] : List PySem.Str) ++ (["is_interval", "MOST_LETTERS", "is_box", "is_point", "want_box", "MOST_ROWS", "is_row", "is_matrix", "dot", "columns_of", "product_of", "led_by", "unit_of", "row_times", "row_less", "row_with", "exchanged", "inverse_of", "MOST_BITS", "WORD", "is_set_value", "is_set", "want_set", "box_as_set", "set_hull_of", "less_point", "is_from_to", "ends_led", "is_within_set", "parts_of_one"] : List PySem.Str) ++ (["rounded_middle", "rounded_rows", "set_of_box", "set_hull", "set_within", "is_rows_of_intervals", "rounded_matrix", "_law_pot", "_law_draw", "_law_pick", "_law_made", "_law_sum", "_law_times", "_law_less", "_law_ratio", "_law_dot", "_law_row", "_law_matrix", "_law_led", "_law_unit", "_law_det", "_law_minor", "_law_inverse", "_law_one", "_law_end", "_law_box", "_law_strong", "_law_set", "_law_floor", "_law_ceiling"] : List PySem.Str) ++ (["_law_hull", "_law_point", "_law_has", "_law_corners", "_law_within", "_law_near", "_law_other", "_law_rounded", "_law_rounded_right", "_law_right"] : List PySem.Str)
theorem map3 {α β γ δ : Type} {o : Option α} {f : α → β} {g : α → γ} {h : α → δ} {a : β} {b : γ} {c : δ} (e1 : o.map f = some a) (e2 : o.map g = some b) (e3 : o.map h = some c) : o.map (fun x => (f x, g x, h x)) = some (a, b, c) := by
  cases o with
  | none => cases e1
  | some x =>
    have d1 : f x = a := Option.some.inj e1
    have d2 : g x = b := Option.some.inj e2
    have d3 : h x = c := Option.some.inj e3
    show some (f x, g x, h x) = _
    rw [d1, d2, d3]
theorem run1 (w : World) : (HandSHeadRun.wholeF (fun p => HandSHeadRun.stepQ (HandSHeadRun.denQ HandSHeadRun.tabQ) p w) HandSHeadRun.fenceQ 6000 R.prog).map (fun x => HandSHeadRun.looksF R.prog x.1.heap x.2.abs) = some true := by kernel_rfl
theorem run2 (w : World) : (HandSHeadRun.wholeF (fun p => HandSHeadRun.stepQ (HandSHeadRun.denQ HandSHeadRun.tabQ) p w) HandSHeadRun.fenceQ 6000 R.prog).map (fun x => HandSHeadRun.seenQ (PySem.W.view R.prog [0, 108]) names (importedModules R.prog.main.body) (fun s => PySem.W.xlAt (PySem.W.view R.prog [0, 108]) [] s && PySem.W.recOk R.toRowW.records s) x.2.abs) = some (PySem.W.openGood (PySem.W.view R.prog [0, 108]) names) := by kernel_rfl
theorem run3 (w : World) : (HandSHeadRun.wholeF (fun p => HandSHeadRun.stepQ (HandSHeadRun.denQ HandSHeadRun.tabQ) p w) HandSHeadRun.fenceQ 6000 R.prog).map (fun x => ob x.2) = some (hk.val w) := by kernel_rfl
theorem run (w : World) : HandSHeadRun.RunEqI R (PySem.W.view R.prog [0, 108]) hk ob 6000 names w := by
  unfold HandSHeadRun.RunEqI
  exact map3 (run1 w) (run2 w) (run3 w)
theorem tx {K : PySem.W.Frag} {h : Heap} {mg : Str → Option Value} (X : K.In h) (N : h.Ns mainGlobals mg) {w : World} (c : He.SaysX fa fn [] [] ex w h K) : ∃ T : Tx K mg, mg ("law" : Str) = some (.ref T.a_law) := by
  obtain ⟨d__law_pot, D__law_pot⟩ := c.t.d.def_ 0 (d := dd__law_pot) rfl
  obtain ⟨d_is_integer, D_is_integer⟩ := c.t.d.def_ 1 (d := dd_is_integer) rfl
  obtain ⟨d_is_interval, D_is_interval⟩ := c.t.d.def_ 2 (d := dd_is_interval) rfl
  obtain ⟨d_is_box, D_is_box⟩ := c.t.d.def_ 3 (d := dd_is_box) rfl
  obtain ⟨d_want_box, D_want_box⟩ := c.t.d.def_ 4 (d := dd_want_box) rfl
  obtain ⟨d_made_ratio, D_made_ratio⟩ := c.t.d.def_ 5 (d := dd_made_ratio) rfl
  obtain ⟨d_unit_of, D_unit_of⟩ := c.t.d.def_ 6 (d := dd_unit_of) rfl
  obtain ⟨d_box_as_set, D_box_as_set⟩ := c.t.d.def_ 7 (d := dd_box_as_set) rfl
  obtain ⟨d_set_of_box, D_set_of_box⟩ := c.t.d.def_ 8 (d := dd_set_of_box) rfl
  obtain ⟨d_is_ratio, D_is_ratio⟩ := c.t.d.def_ 9 (d := dd_is_ratio) rfl
  obtain ⟨d_is_point, D_is_point⟩ := c.t.d.def_ 10 (d := dd_is_point) rfl
  obtain ⟨d_is_row, D_is_row⟩ := c.t.d.def_ 11 (d := dd_is_row) rfl
  obtain ⟨d_is_matrix, D_is_matrix⟩ := c.t.d.def_ 12 (d := dd_is_matrix) rfl
  obtain ⟨d_inverse_ratio, D_inverse_ratio⟩ := c.t.d.def_ 13 (d := dd_inverse_ratio) rfl
  obtain ⟨d_mul_ratios, D_mul_ratios⟩ := c.t.d.def_ 14 (d := dd_mul_ratios) rfl
  obtain ⟨d_row_times, D_row_times⟩ := c.t.d.def_ 15 (d := dd_row_times) rfl
  obtain ⟨d_add_ratios, D_add_ratios⟩ := c.t.d.def_ 16 (d := dd_add_ratios) rfl
  obtain ⟨d_neg_ratio, D_neg_ratio⟩ := c.t.d.def_ 17 (d := dd_neg_ratio) rfl
  obtain ⟨d_sub_ratios, D_sub_ratios⟩ := c.t.d.def_ 18 (d := dd_sub_ratios) rfl
  obtain ⟨d_row_less, D_row_less⟩ := c.t.d.def_ 19 (d := dd_row_less) rfl
  obtain ⟨d_row_with, D_row_with⟩ := c.t.d.def_ 20 (d := dd_row_with) rfl
  obtain ⟨d_exchanged, D_exchanged⟩ := c.t.d.def_ 21 (d := dd_exchanged) rfl
  obtain ⟨d_inverse_of, D_inverse_of⟩ := c.t.d.def_ 22 (d := dd_inverse_of) rfl
  obtain ⟨d_is_set_value, D_is_set_value⟩ := c.t.d.def_ 23 (d := dd_is_set_value) rfl
  obtain ⟨d_is_set, D_is_set⟩ := c.t.d.def_ 24 (d := dd_is_set) rfl
  obtain ⟨d_want_set, D_want_set⟩ := c.t.d.def_ 25 (d := dd_want_set) rfl
  obtain ⟨d_checked_ends, D_checked_ends⟩ := c.t.d.def_ 26 (d := dd_checked_ends) rfl
  obtain ⟨d_rounded_down, D_rounded_down⟩ := c.t.d.def_ 27 (d := dd_rounded_down) rfl
  obtain ⟨d_rounded_up, D_rounded_up⟩ := c.t.d.def_ 28 (d := dd_rounded_up) rfl
  obtain ⟨d_around_of, D_around_of⟩ := c.t.d.def_ 29 (d := dd_around_of) rfl
  obtain ⟨d_plus_of, D_plus_of⟩ := c.t.d.def_ 30 (d := dd_plus_of) rfl
  obtain ⟨d_scaled_of, D_scaled_of⟩ := c.t.d.def_ 31 (d := dd_scaled_of) rfl
  obtain ⟨d_set_hull_of, D_set_hull_of⟩ := c.t.d.def_ 32 (d := dd_set_hull_of) rfl
  obtain ⟨d_set_hull, D_set_hull⟩ := c.t.d.def_ 33 (d := dd_set_hull) rfl
  obtain ⟨d_dot, D_dot⟩ := c.t.d.def_ 34 (d := dd_dot) rfl
  obtain ⟨d_columns_of, D_columns_of⟩ := c.t.d.def_ 35 (d := dd_columns_of) rfl
  obtain ⟨d_product_of, D_product_of⟩ := c.t.d.def_ 36 (d := dd_product_of) rfl
  obtain ⟨d_led_by, D_led_by⟩ := c.t.d.def_ 37 (d := dd_led_by) rfl
  obtain ⟨d_less_point, D_less_point⟩ := c.t.d.def_ 38 (d := dd_less_point) rfl
  obtain ⟨d_is_less_ratio, D_is_less_ratio⟩ := c.t.d.def_ 39 (d := dd_is_less_ratio) rfl
  obtain ⟨d_is_from_to, D_is_from_to⟩ := c.t.d.def_ 40 (d := dd_is_from_to) rfl
  obtain ⟨d_ends_led, D_ends_led⟩ := c.t.d.def_ 41 (d := dd_ends_led) rfl
  obtain ⟨d_is_within_set, D_is_within_set⟩ := c.t.d.def_ 42 (d := dd_is_within_set) rfl
  obtain ⟨d_set_within, D_set_within⟩ := c.t.d.def_ 43 (d := dd_set_within) rfl
  obtain ⟨d__law_draw, D__law_draw⟩ := c.t.d.def_ 44 (d := dd__law_draw) rfl
  obtain ⟨d__law_pick, D__law_pick⟩ := c.t.d.def_ 45 (d := dd__law_pick) rfl
  obtain ⟨d__law_made, D__law_made⟩ := c.t.d.def_ 46 (d := dd__law_made) rfl
  obtain ⟨d__law_ratio, D__law_ratio⟩ := c.t.d.def_ 47 (d := dd__law_ratio) rfl
  obtain ⟨d__law_row, D__law_row⟩ := c.t.d.def_ 48 (d := dd__law_row) rfl
  obtain ⟨d__law_end, D__law_end⟩ := c.t.d.def_ 49 (d := dd__law_end) rfl
  obtain ⟨d__law_box, D__law_box⟩ := c.t.d.def_ 50 (d := dd__law_box) rfl
  obtain ⟨d__law_matrix, D__law_matrix⟩ := c.t.d.def_ 51 (d := dd__law_matrix) rfl
  obtain ⟨d__law_unit, D__law_unit⟩ := c.t.d.def_ 52 (d := dd__law_unit) rfl
  obtain ⟨d__law_sum, D__law_sum⟩ := c.t.d.def_ 53 (d := dd__law_sum) rfl
  obtain ⟨d__law_times, D__law_times⟩ := c.t.d.def_ 54 (d := dd__law_times) rfl
  obtain ⟨d__law_less, D__law_less⟩ := c.t.d.def_ 55 (d := dd__law_less) rfl
  obtain ⟨d__law_minor, D__law_minor⟩ := c.t.d.def_ 56 (d := dd__law_minor) rfl
  obtain ⟨d__law_det, D__law_det⟩ := c.t.d.def_ 57 (d := dd__law_det) rfl
  obtain ⟨d__law_strong, D__law_strong⟩ := c.t.d.def_ 58 (d := dd__law_strong) rfl
  obtain ⟨d__law_set, D__law_set⟩ := c.t.d.def_ 59 (d := dd__law_set) rfl
  obtain ⟨d__law_dot, D__law_dot⟩ := c.t.d.def_ 60 (d := dd__law_dot) rfl
  obtain ⟨d__law_led, D__law_led⟩ := c.t.d.def_ 61 (d := dd__law_led) rfl
  obtain ⟨d__law_inverse, D__law_inverse⟩ := c.t.d.def_ 62 (d := dd__law_inverse) rfl
  obtain ⟨d__law_point, D__law_point⟩ := c.t.d.def_ 63 (d := dd__law_point) rfl
  obtain ⟨d__law_one, D__law_one⟩ := c.t.d.def_ 64 (d := dd__law_one) rfl
  obtain ⟨d__law_has, D__law_has⟩ := c.t.d.def_ 65 (d := dd__law_has) rfl
  obtain ⟨d__law_corners, D__law_corners⟩ := c.t.d.def_ 66 (d := dd__law_corners) rfl
  obtain ⟨d__law_within, D__law_within⟩ := c.t.d.def_ 67 (d := dd__law_within) rfl
  obtain ⟨d__law_floor, D__law_floor⟩ := c.t.d.def_ 68 (d := dd__law_floor) rfl
  obtain ⟨d__law_ceiling, D__law_ceiling⟩ := c.t.d.def_ 69 (d := dd__law_ceiling) rfl
  obtain ⟨d__law_hull, D__law_hull⟩ := c.t.d.def_ 70 (d := dd__law_hull) rfl
  obtain ⟨d__law_near, D__law_near⟩ := c.t.d.def_ 71 (d := dd__law_near) rfl
  obtain ⟨d__law_other, D__law_other⟩ := c.t.d.def_ 72 (d := dd__law_other) rfl
  obtain ⟨d_is_count, D_is_count⟩ := c.t.d.def_ 73 (d := dd_is_count) rfl
  obtain ⟨d_parts_of_one, D_parts_of_one⟩ := c.t.d.def_ 74 (d := dd_parts_of_one) rfl
  obtain ⟨d_rounded_middle, D_rounded_middle⟩ := c.t.d.def_ 75 (d := dd_rounded_middle) rfl
  obtain ⟨d_rounded_rows, D_rounded_rows⟩ := c.t.d.def_ 76 (d := dd_rounded_rows) rfl
  obtain ⟨d_is_rows_of_intervals, D_is_rows_of_intervals⟩ := c.t.d.def_ 77 (d := dd_is_rows_of_intervals) rfl
  obtain ⟨d_rounded_matrix, D_rounded_matrix⟩ := c.t.d.def_ 78 (d := dd_rounded_matrix) rfl
  obtain ⟨d__law_rounded, D__law_rounded⟩ := c.t.d.def_ 79 (d := dd__law_rounded) rfl
  obtain ⟨d__law_rounded_right, D__law_rounded_right⟩ := c.t.d.def_ 80 (d := dd__law_rounded_right) rfl
  obtain ⟨d__law_right, D__law_right⟩ := c.t.d.def_ 81 (d := dd__law_right) rfl
  obtain ⟨d_law, D_law⟩ := c.t.d.def_ 82 (d := dd_law) rfl
  have e0 := c.more
  obtain ⟨e_gcd, e0⟩ := Bool.and_eq_true_iff.mp e0
  obtain ⟨u_NOUGHT, e0⟩ := Bool.and_eq_true_iff.mp e0
  obtain ⟨u_WHOLE, e0⟩ := Bool.and_eq_true_iff.mp e0
  exact ⟨{
    a__law_pot := _, d__law_pot := d__law_pot, D__law_pot := D__law_pot, g__law_pot := He.glo_ok X N (c.t.d.fact 0 (f := .glo "_law_pot") rfl),
    a_is_integer := _, d_is_integer := d_is_integer, D_is_integer := D_is_integer, g_is_integer := He.glo_ok X N (c.t.d.fact 1 (f := .glo "is_integer") rfl),
    a_is_interval := _, d_is_interval := d_is_interval, D_is_interval := D_is_interval, g_is_interval := He.glo_ok X N (c.t.d.fact 2 (f := .glo "is_interval") rfl),
    a_is_box := _, d_is_box := d_is_box, D_is_box := D_is_box, g_is_box := He.glo_ok X N (c.t.d.fact 3 (f := .glo "is_box") rfl),
    a_want_box := _, d_want_box := d_want_box, D_want_box := D_want_box, g_want_box := He.glo_ok X N (c.t.d.fact 4 (f := .glo "want_box") rfl),
    a_made_ratio := _, d_made_ratio := d_made_ratio, D_made_ratio := D_made_ratio, g_made_ratio := He.glo_ok X N (c.t.d.fact 5 (f := .glo "made_ratio") rfl),
    a_unit_of := _, d_unit_of := d_unit_of, D_unit_of := D_unit_of, g_unit_of := He.glo_ok X N (c.t.d.fact 6 (f := .glo "unit_of") rfl),
    a_box_as_set := _, d_box_as_set := d_box_as_set, D_box_as_set := D_box_as_set, g_box_as_set := He.glo_ok X N (c.t.d.fact 7 (f := .glo "box_as_set") rfl),
    a_set_of_box := _, d_set_of_box := d_set_of_box, D_set_of_box := D_set_of_box, g_set_of_box := He.glo_ok X N (c.t.d.fact 8 (f := .glo "set_of_box") rfl),
    a_is_ratio := _, d_is_ratio := d_is_ratio, D_is_ratio := D_is_ratio, g_is_ratio := He.glo_ok X N (c.t.d.fact 9 (f := .glo "is_ratio") rfl),
    a_is_point := _, d_is_point := d_is_point, D_is_point := D_is_point, g_is_point := He.glo_ok X N (c.t.d.fact 10 (f := .glo "is_point") rfl),
    a_is_row := _, d_is_row := d_is_row, D_is_row := D_is_row, g_is_row := He.glo_ok X N (c.t.d.fact 11 (f := .glo "is_row") rfl),
    a_is_matrix := _, d_is_matrix := d_is_matrix, D_is_matrix := D_is_matrix, g_is_matrix := He.glo_ok X N (c.t.d.fact 12 (f := .glo "is_matrix") rfl),
    a_inverse_ratio := _, d_inverse_ratio := d_inverse_ratio, D_inverse_ratio := D_inverse_ratio, g_inverse_ratio := He.glo_ok X N (c.t.d.fact 13 (f := .glo "inverse_ratio") rfl),
    a_mul_ratios := _, d_mul_ratios := d_mul_ratios, D_mul_ratios := D_mul_ratios, g_mul_ratios := He.glo_ok X N (c.t.d.fact 14 (f := .glo "mul_ratios") rfl),
    a_row_times := _, d_row_times := d_row_times, D_row_times := D_row_times, g_row_times := He.glo_ok X N (c.t.d.fact 15 (f := .glo "row_times") rfl),
    a_add_ratios := _, d_add_ratios := d_add_ratios, D_add_ratios := D_add_ratios, g_add_ratios := He.glo_ok X N (c.t.d.fact 16 (f := .glo "add_ratios") rfl),
    a_neg_ratio := _, d_neg_ratio := d_neg_ratio, D_neg_ratio := D_neg_ratio, g_neg_ratio := He.glo_ok X N (c.t.d.fact 17 (f := .glo "neg_ratio") rfl),
    a_sub_ratios := _, d_sub_ratios := d_sub_ratios, D_sub_ratios := D_sub_ratios, g_sub_ratios := He.glo_ok X N (c.t.d.fact 18 (f := .glo "sub_ratios") rfl),
    a_row_less := _, d_row_less := d_row_less, D_row_less := D_row_less, g_row_less := He.glo_ok X N (c.t.d.fact 19 (f := .glo "row_less") rfl),
    a_row_with := _, d_row_with := d_row_with, D_row_with := D_row_with, g_row_with := He.glo_ok X N (c.t.d.fact 20 (f := .glo "row_with") rfl),
    a_exchanged := _, d_exchanged := d_exchanged, D_exchanged := D_exchanged, g_exchanged := He.glo_ok X N (c.t.d.fact 21 (f := .glo "exchanged") rfl),
    a_inverse_of := _, d_inverse_of := d_inverse_of, D_inverse_of := D_inverse_of, g_inverse_of := He.glo_ok X N (c.t.d.fact 22 (f := .glo "inverse_of") rfl),
    a_is_set_value := _, d_is_set_value := d_is_set_value, D_is_set_value := D_is_set_value, g_is_set_value := He.glo_ok X N (c.t.d.fact 23 (f := .glo "is_set_value") rfl),
    a_is_set := _, d_is_set := d_is_set, D_is_set := D_is_set, g_is_set := He.glo_ok X N (c.t.d.fact 24 (f := .glo "is_set") rfl),
    a_want_set := _, d_want_set := d_want_set, D_want_set := D_want_set, g_want_set := He.glo_ok X N (c.t.d.fact 25 (f := .glo "want_set") rfl),
    a_checked_ends := _, d_checked_ends := d_checked_ends, D_checked_ends := D_checked_ends, g_checked_ends := He.glo_ok X N (c.t.d.fact 26 (f := .glo "checked_ends") rfl),
    a_rounded_down := _, d_rounded_down := d_rounded_down, D_rounded_down := D_rounded_down, g_rounded_down := He.glo_ok X N (c.t.d.fact 27 (f := .glo "rounded_down") rfl),
    a_rounded_up := _, d_rounded_up := d_rounded_up, D_rounded_up := D_rounded_up, g_rounded_up := He.glo_ok X N (c.t.d.fact 28 (f := .glo "rounded_up") rfl),
    a_around_of := _, d_around_of := d_around_of, D_around_of := D_around_of, g_around_of := He.glo_ok X N (c.t.d.fact 29 (f := .glo "around_of") rfl),
    a_plus_of := _, d_plus_of := d_plus_of, D_plus_of := D_plus_of, g_plus_of := He.glo_ok X N (c.t.d.fact 30 (f := .glo "plus_of") rfl),
    a_scaled_of := _, d_scaled_of := d_scaled_of, D_scaled_of := D_scaled_of, g_scaled_of := He.glo_ok X N (c.t.d.fact 31 (f := .glo "scaled_of") rfl),
    a_set_hull_of := _, d_set_hull_of := d_set_hull_of, D_set_hull_of := D_set_hull_of, g_set_hull_of := He.glo_ok X N (c.t.d.fact 32 (f := .glo "set_hull_of") rfl),
    a_set_hull := _, d_set_hull := d_set_hull, D_set_hull := D_set_hull, g_set_hull := He.glo_ok X N (c.t.d.fact 33 (f := .glo "set_hull") rfl),
    a_dot := _, d_dot := d_dot, D_dot := D_dot, g_dot := He.glo_ok X N (c.t.d.fact 34 (f := .glo "dot") rfl),
    a_columns_of := _, d_columns_of := d_columns_of, D_columns_of := D_columns_of, g_columns_of := He.glo_ok X N (c.t.d.fact 35 (f := .glo "columns_of") rfl),
    a_product_of := _, d_product_of := d_product_of, D_product_of := D_product_of, g_product_of := He.glo_ok X N (c.t.d.fact 36 (f := .glo "product_of") rfl),
    a_led_by := _, d_led_by := d_led_by, D_led_by := D_led_by, g_led_by := He.glo_ok X N (c.t.d.fact 37 (f := .glo "led_by") rfl),
    a_less_point := _, d_less_point := d_less_point, D_less_point := D_less_point, g_less_point := He.glo_ok X N (c.t.d.fact 38 (f := .glo "less_point") rfl),
    a_is_less_ratio := _, d_is_less_ratio := d_is_less_ratio, D_is_less_ratio := D_is_less_ratio, g_is_less_ratio := He.glo_ok X N (c.t.d.fact 39 (f := .glo "is_less_ratio") rfl),
    a_is_from_to := _, d_is_from_to := d_is_from_to, D_is_from_to := D_is_from_to, g_is_from_to := He.glo_ok X N (c.t.d.fact 40 (f := .glo "is_from_to") rfl),
    a_ends_led := _, d_ends_led := d_ends_led, D_ends_led := D_ends_led, g_ends_led := He.glo_ok X N (c.t.d.fact 41 (f := .glo "ends_led") rfl),
    a_is_within_set := _, d_is_within_set := d_is_within_set, D_is_within_set := D_is_within_set, g_is_within_set := He.glo_ok X N (c.t.d.fact 42 (f := .glo "is_within_set") rfl),
    a_set_within := _, d_set_within := d_set_within, D_set_within := D_set_within, g_set_within := He.glo_ok X N (c.t.d.fact 43 (f := .glo "set_within") rfl),
    a__law_draw := _, d__law_draw := d__law_draw, D__law_draw := D__law_draw, g__law_draw := He.glo_ok X N (c.t.d.fact 44 (f := .glo "_law_draw") rfl),
    a__law_pick := _, d__law_pick := d__law_pick, D__law_pick := D__law_pick, g__law_pick := He.glo_ok X N (c.t.d.fact 45 (f := .glo "_law_pick") rfl),
    a__law_made := _, d__law_made := d__law_made, D__law_made := D__law_made, g__law_made := He.glo_ok X N (c.t.d.fact 46 (f := .glo "_law_made") rfl),
    a__law_ratio := _, d__law_ratio := d__law_ratio, D__law_ratio := D__law_ratio, g__law_ratio := He.glo_ok X N (c.t.d.fact 47 (f := .glo "_law_ratio") rfl),
    a__law_row := _, d__law_row := d__law_row, D__law_row := D__law_row, g__law_row := He.glo_ok X N (c.t.d.fact 48 (f := .glo "_law_row") rfl),
    a__law_end := _, d__law_end := d__law_end, D__law_end := D__law_end, g__law_end := He.glo_ok X N (c.t.d.fact 49 (f := .glo "_law_end") rfl),
    a__law_box := _, d__law_box := d__law_box, D__law_box := D__law_box, g__law_box := He.glo_ok X N (c.t.d.fact 50 (f := .glo "_law_box") rfl),
    a__law_matrix := _, d__law_matrix := d__law_matrix, D__law_matrix := D__law_matrix, g__law_matrix := He.glo_ok X N (c.t.d.fact 51 (f := .glo "_law_matrix") rfl),
    a__law_unit := _, d__law_unit := d__law_unit, D__law_unit := D__law_unit, g__law_unit := He.glo_ok X N (c.t.d.fact 52 (f := .glo "_law_unit") rfl),
    a__law_sum := _, d__law_sum := d__law_sum, D__law_sum := D__law_sum, g__law_sum := He.glo_ok X N (c.t.d.fact 53 (f := .glo "_law_sum") rfl),
    a__law_times := _, d__law_times := d__law_times, D__law_times := D__law_times, g__law_times := He.glo_ok X N (c.t.d.fact 54 (f := .glo "_law_times") rfl),
    a__law_less := _, d__law_less := d__law_less, D__law_less := D__law_less, g__law_less := He.glo_ok X N (c.t.d.fact 55 (f := .glo "_law_less") rfl),
    a__law_minor := _, d__law_minor := d__law_minor, D__law_minor := D__law_minor, g__law_minor := He.glo_ok X N (c.t.d.fact 56 (f := .glo "_law_minor") rfl),
    a__law_det := _, d__law_det := d__law_det, D__law_det := D__law_det, g__law_det := He.glo_ok X N (c.t.d.fact 57 (f := .glo "_law_det") rfl),
    a__law_strong := _, d__law_strong := d__law_strong, D__law_strong := D__law_strong, g__law_strong := He.glo_ok X N (c.t.d.fact 58 (f := .glo "_law_strong") rfl),
    a__law_set := _, d__law_set := d__law_set, D__law_set := D__law_set, g__law_set := He.glo_ok X N (c.t.d.fact 59 (f := .glo "_law_set") rfl),
    a__law_dot := _, d__law_dot := d__law_dot, D__law_dot := D__law_dot, g__law_dot := He.glo_ok X N (c.t.d.fact 60 (f := .glo "_law_dot") rfl),
    a__law_led := _, d__law_led := d__law_led, D__law_led := D__law_led, g__law_led := He.glo_ok X N (c.t.d.fact 61 (f := .glo "_law_led") rfl),
    a__law_inverse := _, d__law_inverse := d__law_inverse, D__law_inverse := D__law_inverse, g__law_inverse := He.glo_ok X N (c.t.d.fact 62 (f := .glo "_law_inverse") rfl),
    a__law_point := _, d__law_point := d__law_point, D__law_point := D__law_point, g__law_point := He.glo_ok X N (c.t.d.fact 63 (f := .glo "_law_point") rfl),
    a__law_one := _, d__law_one := d__law_one, D__law_one := D__law_one, g__law_one := He.glo_ok X N (c.t.d.fact 64 (f := .glo "_law_one") rfl),
    a__law_has := _, d__law_has := d__law_has, D__law_has := D__law_has, g__law_has := He.glo_ok X N (c.t.d.fact 65 (f := .glo "_law_has") rfl),
    a__law_corners := _, d__law_corners := d__law_corners, D__law_corners := D__law_corners, g__law_corners := He.glo_ok X N (c.t.d.fact 66 (f := .glo "_law_corners") rfl),
    a__law_within := _, d__law_within := d__law_within, D__law_within := D__law_within, g__law_within := He.glo_ok X N (c.t.d.fact 67 (f := .glo "_law_within") rfl),
    a__law_floor := _, d__law_floor := d__law_floor, D__law_floor := D__law_floor, g__law_floor := He.glo_ok X N (c.t.d.fact 68 (f := .glo "_law_floor") rfl),
    a__law_ceiling := _, d__law_ceiling := d__law_ceiling, D__law_ceiling := D__law_ceiling, g__law_ceiling := He.glo_ok X N (c.t.d.fact 69 (f := .glo "_law_ceiling") rfl),
    a__law_hull := _, d__law_hull := d__law_hull, D__law_hull := D__law_hull, g__law_hull := He.glo_ok X N (c.t.d.fact 70 (f := .glo "_law_hull") rfl),
    a__law_near := _, d__law_near := d__law_near, D__law_near := D__law_near, g__law_near := He.glo_ok X N (c.t.d.fact 71 (f := .glo "_law_near") rfl),
    a__law_other := _, d__law_other := d__law_other, D__law_other := D__law_other, g__law_other := He.glo_ok X N (c.t.d.fact 72 (f := .glo "_law_other") rfl),
    a_is_count := _, d_is_count := d_is_count, D_is_count := D_is_count, g_is_count := He.glo_ok X N (c.t.d.fact 73 (f := .glo "is_count") rfl),
    a_parts_of_one := _, d_parts_of_one := d_parts_of_one, D_parts_of_one := D_parts_of_one, g_parts_of_one := He.glo_ok X N (c.t.d.fact 74 (f := .glo "parts_of_one") rfl),
    a_rounded_middle := _, d_rounded_middle := d_rounded_middle, D_rounded_middle := D_rounded_middle, g_rounded_middle := He.glo_ok X N (c.t.d.fact 75 (f := .glo "rounded_middle") rfl),
    a_rounded_rows := _, d_rounded_rows := d_rounded_rows, D_rounded_rows := D_rounded_rows, g_rounded_rows := He.glo_ok X N (c.t.d.fact 76 (f := .glo "rounded_rows") rfl),
    a_is_rows_of_intervals := _, d_is_rows_of_intervals := d_is_rows_of_intervals, D_is_rows_of_intervals := D_is_rows_of_intervals, g_is_rows_of_intervals := He.glo_ok X N (c.t.d.fact 77 (f := .glo "is_rows_of_intervals") rfl),
    a_rounded_matrix := _, d_rounded_matrix := d_rounded_matrix, D_rounded_matrix := D_rounded_matrix, g_rounded_matrix := He.glo_ok X N (c.t.d.fact 78 (f := .glo "rounded_matrix") rfl),
    a__law_rounded := _, d__law_rounded := d__law_rounded, D__law_rounded := D__law_rounded, g__law_rounded := He.glo_ok X N (c.t.d.fact 79 (f := .glo "_law_rounded") rfl),
    a__law_rounded_right := _, d__law_rounded_right := d__law_rounded_right, D__law_rounded_right := D__law_rounded_right, g__law_rounded_right := He.glo_ok X N (c.t.d.fact 80 (f := .glo "_law_rounded_right") rfl),
    a__law_right := _, d__law_right := d__law_right, D__law_right := D__law_right, g__law_right := He.glo_ok X N (c.t.d.fact 81 (f := .glo "_law_right") rfl),
    a_law := _, d_law := d_law, D_law := D_law, g_law := He.glo_ok X N (c.t.d.fact 82 (f := .glo "law") rfl),
    n_ArithmeticError := He.free_ok X N (c.t.d.fact 83 (f := .free "ArithmeticError") rfl),
    n_RuntimeError := He.free_ok X N (c.t.d.fact 84 (f := .free "RuntimeError") rfl),
    n_ValueError := He.free_ok X N (c.t.d.fact 85 (f := .free "ValueError") rfl),
    n_abs := He.free_ok X N (c.t.d.fact 86 (f := .free "abs") rfl),
    n_all := He.free_ok X N (c.t.d.fact 87 (f := .free "all") rfl),
    n_bool := He.free_ok X N (c.t.d.fact 88 (f := .free "bool") rfl),
    n_divmod := He.free_ok X N (c.t.d.fact 89 (f := .free "divmod") rfl),
    n_enumerate := He.free_ok X N (c.t.d.fact 90 (f := .free "enumerate") rfl),
    n_int := He.free_ok X N (c.t.d.fact 91 (f := .free "int") rfl),
    n_isinstance := He.free_ok X N (c.t.d.fact 92 (f := .free "isinstance") rfl),
    n_len := He.free_ok X N (c.t.d.fact 93 (f := .free "len") rfl),
    n_list := He.free_ok X N (c.t.d.fact 94 (f := .free "list") rfl),
    n_max := He.free_ok X N (c.t.d.fact 95 (f := .free "max") rfl),
    n_min := He.free_ok X N (c.t.d.fact 96 (f := .free "min") rfl),
    n_range := He.free_ok X N (c.t.d.fact 97 (f := .free "range") rfl),
    n_repr := He.free_ok X N (c.t.d.fact 98 (f := .free "repr") rfl),
    n_str := He.free_ok X N (c.t.d.fact 99 (f := .free "str") rfl),
    n_tuple := He.free_ok X N (c.t.d.fact 100 (f := .free "tuple") rfl),
    n_zip := He.free_ok X N (c.t.d.fact 101 (f := .free "zip") rfl),
    c_ONE := He.int_ok X N (c.t.d.fact 102 (f := .int "ONE" (1099511627776)) rfl),
    c_MOST_GRAINS := He.int_ok X N (c.t.d.fact 103 (f := .int "MOST_GRAINS" (1180591620717411303424)) rfl),
    c_MOST_LETTERS := He.int_ok X N (c.t.d.fact 104 (f := .int "MOST_LETTERS" (8)) rfl),
    c_MOST_ROWS := He.int_ok X N (c.t.d.fact 105 (f := .int "MOST_ROWS" (8)) rfl),
    c_MOST_BITS := He.int_ok X N (c.t.d.fact 106 (f := .int "MOST_BITS" (40)) rfl),
    c_WORD := He.str_ok X N (c.t.d.fact 107 (f := .str "WORD" "set") rfl),
    t_NOUGHT := Pd.exTup_ok X N u_NOUGHT,
    t_WHOLE := Pd.exTup_ok X N u_WHOLE,
    i_gcd := PySem.W.mg_of X N (of_decide_eq_true e_gcd) }, He.glo_ok X N (c.t.d.fact 82 (f := .glo "law") rfl)⟩
end Tc
open PySem PySem.W PySem.Calls PyProof.Rows
theorem PySem.Challenge.cw_truecourse_k29_whole_sets_within_and_rou_holds : PySem.Challenge.rw_truecourse_k29_whole_sets_within_and_rou.Holds := by
  w_on; o_law
  refine HandSHeadRun.head_imp (r := (OpenLaw.row PySem.Challenge.rw_truecourse_k29_whole_sets_within_and_rou)) (q := view (OpenLaw.row PySem.Challenge.rw_truecourse_k29_whole_sets_within_and_rou).prog [0, 108]) (H := Tc.hk) (ob := Tc.ob) (M := 6000) (loose := Tc.names) (d := HandSHeadRun.topDef (OpenLaw.row PySem.Challenge.rw_truecourse_k29_whole_sets_within_and_rou).prog 108) (kwd := []) Tc.ob_eq Tc.run
    (by kernel_rfl) (by kernel_rfl) (by kernel_rfl) (by rfl) (by first | assumption | decide +kernel) (by decide +kernel) ⟨rfl, rfl, rfl, rfl, rfl, by decide +kernel⟩ ?hw ?hc
  case hw => w_witness2
  case hc =>
    refine Pd.walkP (l := PySem.Challenge.rw_truecourse_k29_whole_sets_within_and_rou) (n := 63) (k := 21) (x := "_law_script") rfl (by decide) (by kernel_rfl) ⟨rfl, by decide, by decide⟩ ?F
    intro w mg fa h Y N hmg0
    obtain ⟨K, KX, c⟩ := Y
    obtain ⟨T, e⟩ := Tc.tx KX N c
    have hn : (HandSHeadRun.topDef (OpenLaw.row PySem.Challenge.rw_truecourse_k29_whole_sets_within_and_rou).prog 108).name = ("law" : PySem.Str) := by kernel_rfl
    rw [hn] at hmg0
    cases hmg0.symm.trans e
    refine ⟨K, T.d_law, Tc.m_law, KX, fun s u => L2.FunD.bindsA (ps := ["_law_script"]) T.D_law (fun _ _ _ _ _ _ us hl => match us, hl with | [_], _ => rfl) s [u] rfl, fun ns hl θ => Tc.law_true ns hl θ, fun base _ _ => Tc.ok_law T⟩


