import PyProof.Rows.All
import Wide.All
import OpenK.AllK
import Wide.FinOn
import HandS.ForMost
import HandS.Exc
import HandS.ExcOwn
import HandS.Wide
import HandS.Gcd
import HandS.Defaults
import HandS.Lambda
import HandS.HeadHook4
import HandS.CallLocal
import PyProof.InstEq
import HandS.ExcInit
import HandS.RaiseMore
import HandS.Small
import HandS.TryMany
import KE.KExcInit
import HandS.NestedK
import HandS.EndTab
import HandS.Dict
import HandS.Conv
import KE.KDictPairs
import KE.KDictCopyH
import HandS.TupLe
import HandS.TupSets
import HandS.IsInst
import HandS.Zip
import HandS.Style
import HandS.Head3
import HandS.HeadEnd
import HandS.TupAny
import HandS.Deep
import KE.KDictZip
import KE.GoesZip
import KE.KItemsList
import HandS.TupMul
import KE.GoesEnum
import HandS.SortInts
import KE.KRevSl
import KE.KExcIs
import HandS.Text
import HandS.Codes
import HandS.Replace
import HandS.ReplaceLit
import HandS.Steps
import HandS.TupLen
import KE.KDictDisplayH
import KE.KTupSum
import PySem.Challenge.RW_truecourse_k18_whole_nested_forms
set_option Elab.async false
set_option linter.all false
set_option maxRecDepth 100000
set_option maxHeartbeats 0
namespace Pd
def here0 : Nat := 0
end Pd
namespace PdX
def here0 : Nat := 0
end PdX


namespace Pd
open PySem PySem.Spec PyProof.Rows L2

structure LamRec where
  q : Str
  params : Arguments
  body : Expr
  scope : Scope
def cloN : List (Str × NameKind) → List Str → List Str
  | [], acc => acc
  | (n, k) :: r, acc => if k == .free then cloN r (n :: acc) else cloN r acc
/-- the captured names -/
def LamRec.names (r : LamRec) : List Str := cloN r.scope.names []
/-- the texts of the lambdas, by numbers; the defs that make them -/
class LamTab where
  tab : Nat → Option LamRec
  mks : List Str
/-- the tables of code objects of the defs that make lambdas -/
def tbK [LamTab] (K : PySem.W.Frag) : List (Addr × Str) := LamTab.mks.map fun x => (He.tabOf K (He.codeOf K (x, none)), (x ++ ".<locals>.") ++ "<lambda>")
/-- the object of a lambda at f, its code object at c; cl its captured cells -/
def lamT (q : Str) (params : Arguments) (body : Expr) (scope : Scope) (cl : List (Str × Addr)) (f c : Addr) : Heap → Prop := fun h => ∃ pm ctv, h.get? f = some (PySem.W.kla_obj "<lambda>" q params body scope cl pm c ctv)
/-- a lambda at a, its captured cells cl -/
def LamAt [LamTab] (H : Hp) (k : Nat) (cl : List (Str × Addr)) (a : Addr) : Prop := ∃ r c, LamTab.tab k = some r ∧ H a = some (.ext (lamT r.q r.params r.body r.scope cl a c)) ∧ H c = some (LamX.CodeO c r.q)
/-- a locked cell that holds v -/
def CellAt (H : Hp) (c : Addr) (v : V) : Prop := ∃ o w, H c = some (.frz o (.ext fun _ => True)) ∧ o.data = .cell (some w) ∧ RelV v w
def CellsAt (H : Hp) : List Addr → List V → Prop
  | [], vs => vs = []
  | c :: cs, vs => ∃ v r, vs = v :: r ∧ CellAt H c v ∧ CellsAt H cs r
/-- the key, where its tuple stands, the value -/
abbrev DE := List Int × Addr × V
def hashT (k : List Int) : Int := reduceHash (Builtin.Tuple.tupleHashOf (k.map hashInt))
def entT (x : List Int × Addr × Value) : DictEntry := ⟨hashT x.1, .ref x.2.1, x.2.2⟩
abbrev RelE : List DE → List (List Int × Addr × Value) → Prop := Paired fun p q => p.1 = q.1 ∧ p.2.1 = q.2.1 ∧ RelV p.2.2 q.2.2
def DicObj (e : List DE) (o : Obj) : Prop := o.ExactDict ∧ ∃ es ep xs, o.data = .dict es ep ∧ RelE e xs ∧ es.toList = xs.map entT
structure DicW (a : Addr) (e : List DE) : Prop where
  sys : (a == sysModules) = false
  len : e.length ≤ sizeLine
  nd : (e.map (·.1)).Nodup
/-- a dict at a, which may be written -/
def DicO (a : Addr) (e : List DE) : HO := .ext fun h => DicW a e ∧ ∃ o, h.get? a = some o ∧ DicObj e o
/-- a dict that stays as it is -/
def DicL (H : Hp) (a : Addr) (e : List DE) : Prop := ∃ o, H a = some (.frz o (DicO a e))
def KeysAt (K : PySem.W.Frag) (H : Hp) (e : List DE) : Prop := ∀ x ∈ e, SqT K H x.2.1 (x.1.map V.int)
variable [LamTab]
inductive Dt where
  | non | bl (b : Bool) | int (i : Int) | str (s : Str) | lst (l : List Dt) | tup (l : List Dt) | raw (v : V) | cls (k : Nat) (ds : List Dt) | dct (ks : List (List Int)) (vs : List Dt)
mutual
/-- no callable within -/
def noCls : Dt → Bool
  | .lst l => noClss l
  | .tup l => noClss l
  | .cls _ _ => false
  | .dct _ vs => noClss vs
  | _ => true
def noClss : List Dt → Bool
  | [] => true
  | d :: ds => noCls d && noClss ds
end
mutual
def Rep (K : PySem.W.Frag) (H : Hp) : Dt → V → Prop
  | .non, v => v = .non
  | .bl b, v => v = .bl b
  | .int i, v => v = .int i
  | .str s, v => v = .str s
  | .lst l, v => ∃ a xs, v = .ref a ∧ SqL K H a xs ∧ Reps K H l xs
  | .tup l, v => ∃ a xs, v = .ref a ∧ SqT K H a xs ∧ Reps K H l xs
  | .raw u, v => v = u
  | .cls k ds, v => ∃ a cl xs, v = .ref a ∧ LamAt H k cl a ∧ (cl.map (·.2)).Nodup ∧ (∃ r, LamTab.tab k = some r ∧ cl.map (·.1) = r.names) ∧ CellsAt H (cl.map (·.2)) xs ∧ Reps K H ds xs ∧ noClss ds = true
  | .dct ks vs, v => ∃ a e, v = .ref a ∧ DicL H a e ∧ e.map (·.1) = ks ∧ KeysAt K H e ∧ Reps K H vs (e.map (·.2.2))
def Reps (K : PySem.W.Frag) (H : Hp) : List Dt → List V → Prop
  | [], xs => xs = []
  | d :: ds, xs => ∃ x r, xs = x :: r ∧ Rep K H d x ∧ Reps K H ds r
end

section
variable {K : PySem.W.Frag} {H : Hp}
theorem Reps.length : ∀ {l : List Dt} {xs : List V}, Reps K H l xs → l.length = xs.length
  | [], _, h => by rw [show _ = _ from h]; rfl
  | d :: ds, _, h => by
    obtain ⟨x, r, rfl, _, h2⟩ := h
    rw [List.length_cons, List.length_cons, Reps.length h2]
theorem Reps.nil : Reps K H [] [] := rfl
theorem Reps.cons {d : Dt} {ds : List Dt} {x : V} {xs : List V} (h : Rep K H d x) (t : Reps K H ds xs) : Reps K H (d :: ds) (x :: xs) := ⟨x, xs, rfl, h, t⟩
theorem Reps.set {d : Dt} {x : V} (q : Rep K H d x) : ∀ {l : List Dt} {xs : List V} (n : Nat), Reps K H l xs → Reps K H (l.set n d) (xs.set n x)
  | [], _, n, h => by rw [show _ = _ from h]; exact rfl
  | e :: ds, _, 0, h => by
    obtain ⟨y, r, rfl, _, h2⟩ := h
    exact Reps.cons q h2
  | e :: ds, _, n + 1, h => by
    obtain ⟨y, r, rfl, h1, h2⟩ := h
    exact Reps.cons h1 (Reps.set q n h2)
end

/-- an exception: its class's name, what its own dict holds -/
structure Exn where
  cls : Str
  flds : List (Str × Dt)
/-- what a local name holds: data; a list of one's own, which may be changed; the pot -/
inductive Ent where
  | dat (d : Dt) | own (l : List Dt) | pot | fix (n : Nat) | opn (ks : List Nat) | dic (g : Bool) (ks : List (List Int)) (vs : List Dt)
abbrev DEnv := List (Option Ent)
/-- what the pot holds -/
abbrev Pot := Int × Int
inductive Res (α : Type) where
  | ok (a : α) (θ : Pot) | exn (e : Exn) (ρ : DEnv) (θ : Pot) | bad
abbrev M (α : Type) := DEnv → Pot → Res α
/-- what a def hands back: data; a fresh list -/
inductive Ret where
  | d (d : Dt) | o (l : List Dt) | q (ks : List (List Int)) (vs : List Dt)
def Post {α : Type} (r : Res α) (ok : α → Pot → Prop) (ex : Exn → DEnv → Pot → Prop) : Prop := match r with
  | .ok a θ => ok a θ
  | .exn e ρ θ => ex e ρ θ
  | .bad => False
def ret {α : Type} (a : α) : M α := fun _ θ => .ok a θ
def bad {α : Type} : M α := fun _ _ => .bad
/-- a dict's content -/
structure DicK (K : PySem.W.Frag) (H : Hp) (ks : List (List Int)) (vs : List Dt) (e : List DE) : Prop where
  ks : e.map (·.1) = ks
  at_ : KeysAt K H e
  vs : Reps K H vs (e.map (·.2.2))
/-- fixed through a frame: where the pot stands, the heap and its shared part at the entry -/
structure Fr0 where
  ap : Option Addr
  H0 : Hp
  Hs0 : Hp
  cells : List (Str × Addr)
  xs : Nat → Option Addr
  op : Option Addr := none
/-- no table of code objects -/
def NotT (o : HO) : Prop := ∀ ps, o ≠ .tbl ps
/-- the tables of code objects: not shared; the code objects that they tell are -/
def TabOk (T : List (Addr × Str)) (Hs H : Hp) : Prop := ∀ p ∈ T, Hs p.1 = none ∧ ∃ ps, H p.1 = some (.tbl ps) ∧ TriplesOk ps.toList ∧ ∀ (pos : Pos) (cv : Value), codeAmong pos ps.toList = some cv → ∃ c, cv = .ref c ∧ H c = some (LamX.CodeO c p.2) ∧ Hs c = some (LamX.CodeO c p.2)
/-- what is no list stays -/
def KeepN (H H' Hs Hs' : Hp) : Prop := ∀ b o, H b = some o → (∀ xs, o ≠ .lst xs) → H' b = some o ∧ Hs' b = Hs b
theorem KeepN.upd {H Hs : Hp} {a : Addr} {xs : List V} {o : HO} (h : H a = some (.lst xs)) : KeepN H (upd H a o) Hs Hs := fun b u e n => by
  refine ⟨?_, rfl⟩
  rw [upd_ne (fun z => by rw [z, h] at e; cases e; exact n xs rfl)]
  exact e
def PotAt (H : Hp) (ap : Option Addr) (θ : Pot) : Prop := ∀ p, ap = some p → H p = some (.lst [.int θ.1, .int θ.2])
/-- lambdas of this frame, by their numbers -/
def LamsAt (Hs : Hp) (cells : List (Str × Addr)) : List Nat → List V → Prop
  | [], vs => vs = []
  | k :: ks, vs => ∃ a r x, vs = .ref a :: r ∧ LamTab.tab k = some x ∧ LamAt Hs k (cloFrom cells x.scope.names []) a ∧ LamsAt Hs cells ks r
/-- a dict that this frame may write: its own one; the caller's -/
def FreeA (F : Fr0) (g : Bool) (a : Addr) : Prop := match g with
  | true => F.H0 a = some (.tbl #[]) ∧ F.xs 2 = some a
  | false => F.H0 a = none
structure StOk (K : PySem.W.Frag) (F : Fr0) (σ : L2.St) (H Hs : Hp) (ρ : DEnv) (θ : Pot) : Prop where
  sub : Same Hs H
  hap : ∀ p, F.ap = some p → Hs p = none
  pot : PotAt H F.ap θ
  old : ∀ b o, F.ap ≠ some b → NotT o → F.H0 b = some o → H b = some o
  thr : ∀ b, F.H0 b ≠ none → H b ≠ none
  tab : TabOk (tbK K) Hs H
  frs : ∀ b, F.H0 b ≠ none → Hs b = F.Hs0 b
  dat : ∀ (i : Nat) (d : Dt), ρ[i]? = some (some (.dat d)) → ∃ v, σ[i]? = some (some v) ∧ Rep K Hs d v
  own : ∀ (i : Nat) (l : List Dt), ρ[i]? = some (some (.own l)) → ∃ a xs, σ[i]? = some (some (.ref a)) ∧ H a = some (.lst xs) ∧ Reps K Hs l xs ∧ Hs a = none ∧ F.H0 a = none ∧ F.ap ≠ some a
  sep : ∀ (i j : Nat) (l m : List Dt) (a : Addr), ρ[i]? = some (some (.own l)) → ρ[j]? = some (some (.own m)) → σ[i]? = some (some (.ref a)) → σ[j]? = some (some (.ref a)) → i = j
  pt : ∀ (i : Nat), ρ[i]? = some (some .pot) → ∃ p, F.ap = some p ∧ σ[i]? = some (some (.ref p))
  fx : ∀ (i n : Nat), ρ[i]? = some (some (.fix n)) → ∃ a, F.xs n = some a ∧ σ[i]? = some (some (.ref a))
  opn : ∀ (i : Nat) (ks : List Nat), ρ[i]? = some (some (.opn ks)) → ∃ a xs, F.op = some a ∧ σ[i]? = some (some (.ref a)) ∧ H a = some (.lst xs) ∧ LamsAt Hs F.cells ks xs ∧ Hs a = none ∧ F.H0 a = some (.tbl #[]) ∧ F.ap ≠ some a
  len : ρ.length = σ.length
  dic : ∀ (i : Nat) (g : Bool) (ks : List (List Int)) (vs : List Dt), ρ[i]? = some (some (.dic g ks vs)) → ∃ a e, σ[i]? = some (some (.ref a)) ∧ H a = some (DicO a e) ∧ DicK K Hs ks vs e ∧ Hs a = none ∧ FreeA F g a ∧ F.ap ≠ some a
  sepD : ∀ (i j : Nat) (g g' : Bool) (ks ks' : List (List Int)) (vs vs' : List Dt) (a : Addr), ρ[i]? = some (some (.dic g ks vs)) → ρ[j]? = some (some (.dic g' ks' vs')) → σ[i]? = some (some (.ref a)) → σ[j]? = some (some (.ref a)) → i = j
/-- new objects alone: (Hs, H) has become (Hs', H') -/
structure Grow (Hs H Hs' H' : Hp) : Prop where
  s : Same Hs Hs'
  h : Same H H'
  i : Same Hs' H'
  n : ∀ b, H b ≠ none → Hs' b = Hs b
theorem same_upd {H : Hp} {p : Addr} {o : HO} (n : H p = none) : Same H (upd H p o) := fun b u e => by
  rw [upd_ne (ne_of_none e n)]
  exact e
theorem Grow.new {Hs H : Hp} {p : Addr} {o : HO} (s : Same Hs H) (n : H p = none) : Grow Hs H (upd Hs p o) (upd H p o) := by
  have n' : Hs p = none := s.free n
  refine ⟨same_upd n', same_upd n, fun b u e => ?_, fun b hb => ?_⟩
  · by_cases z : b = p
    · subst z
      rw [upd_same] at e ⊢
      exact e
    · rw [upd_ne z] at e ⊢
      exact s _ _ e
  · have z : b ≠ p := fun z => hb (by rw [z]; exact n)
    rw [upd_ne z]
theorem Grow.trans {Hs H Hs1 H1 Hs2 H2 : Hp} (a : Grow Hs H Hs1 H1) (b : Grow Hs1 H1 Hs2 H2) : Grow Hs H Hs2 H2 :=
  ⟨a.s.trans b.s, a.h.trans b.h, b.i, fun c hc => (b.n c (fun z => hc (a.h.free z))).trans (a.n c hc)⟩
section
variable {K : PySem.W.Frag} {F : Fr0} {σ : L2.St} {H Hs H' Hs' : Hp} {ρ : DEnv} {θ : Pot}
end

/-- an exception of the class named e.cls, its own dict with e.flds -/
structure ExcAt (K : PySem.W.Frag) (mg : Str → Option Value) (Hs H : Hp) (e : Exn) (c : Value) (dd : Option Addr) : Prop where
  cls : ∃ C, mg e.cls = some (.ref C) ∧ c = .ref C
  fld : (e.flds = [] ∧ dd = none) ∨ ∃ d fs, dd = some d ∧ Hs d = some (.xd fs) ∧ fs.map (·.1) = e.flds.map (·.1) ∧ Reps K Hs (e.flds.map (·.2)) (fs.map (·.2))
def ExW (X : Cx) (F : Fr0) (W : WX) (Hs : Hp) : Exn → DEnv → Pot → Prop := fun e ρ' θ' => ∀ c dd σ' H' Hs', Same Hs Hs' → StOk X.K F σ' H' Hs' ρ' θ' → ExcAt X.K X.mg Hs' H' e c dd → W c dd σ' H'
/-- a test -/
def OkT (X : Cx) (F : Fr0) (σ : L2.St) (ρ : DEnv) (Q : Bool → Hp → Prop) (Hs : Hp) : Bool → Pot → Prop := fun b θ' => ∀ H' Hs', Same Hs Hs' → StOk X.K F σ H' Hs' ρ θ' → Q b H'
def tT (X : Cx) (F : Fr0) (W : WX) (m : M Bool) : TT := fun σ H Q => ∃ ρ θ Hs, StOk X.K F σ H Hs ρ θ ∧ Post (m ρ θ) (OkT X F σ ρ Q Hs) (ExW X F W Hs)
def PTD (X : Cx) (F : Fr0) (W : WX) (e : Expr) (m : M Bool) : Prop := PT X e (tT X F W m)
section
variable {X : Cx} {F : Fr0} {W : WX} {σ : L2.St} {H Hs : Hp} {ρ : DEnv} {θ : Pot}
end
end Pd



namespace Pd
open PySem PySem.Spec PyProof.Rows L2
variable [Pd.LamTab]
section
variable {X : Cx} {F : Fr0} {W : WX} {a b c : Expr} {es : List Expr} {pos : Pos}

def PWD (X : Cx) (F : Fr0) (W : WX) (e : Expr) (m : M Bool) : Prop := PW X e (tT X F W m)
theorem PWD.pt {m : M Bool} (h : PWD X F W a m) : PTD X F W a m := PW.pt h
end
end Pd



namespace Pd
open PySem PySem.Spec PyProof.Rows L2
variable [Pd.LamTab]
section
variable {K : PySem.W.Frag} {F : Fr0} {σ : L2.St} {H Hs : Hp} {ρ : DEnv} {θ : Pot}
end

section
variable {X : Cx} {F : Fr0} {W : WX} {e : Expr} {st : Stmt} {sts : List Stmt} {pos : Pos}
end

def Ents (K : PySem.W.Frag) (ap : Option Addr) (Hs : Hp) : List Ent → List V → Prop
  | [], vs => vs = []
  | .dat d :: es, vs => ∃ v r, vs = v :: r ∧ Rep K Hs d v ∧ Ents K ap Hs es r
  | .pot :: es, vs => ∃ p r, vs = .ref p :: r ∧ ap = some p ∧ Ents K ap Hs es r
  | .own _ :: _, _ => False
  | .fix _ :: _, _ => False
  | .opn _ :: _, _ => False
  | .dic _ _ _ :: _, _ => False
/-- behind a def -/
structure FnEnd (ap : Option Addr) (T : List (Addr × Str)) (Hs H Hs' H' : Hp) (θ : Pot) : Prop where
  s : Same Hs Hs'
  i : Same Hs' H'
  hap : ∀ p, ap = some p → Hs' p = none
  pot : PotAt H' ap θ
  old : ∀ b o, ap ≠ some b → NotT o → H b = some o → H' b = some o
  thr : ∀ b, H b ≠ none → H' b ≠ none
  tab : TabOk T Hs' H'
  n : ∀ b, H b ≠ none → Hs' b = Hs b
def RepR (K : PySem.W.Frag) (H Hs' H' : Hp) : Ret → V → Prop
  | .d d, v => Rep K Hs' d v
  | .o l, v => ∃ a xs, v = .ref a ∧ H' a = some (.lst xs) ∧ Reps K Hs' l xs ∧ Hs' a = none ∧ H a = none
  | .q ks vs, v => ∃ a e, v = .ref a ∧ H' a = some (DicO a e) ∧ DicK K Hs' ks vs e ∧ Hs' a = none ∧ H a = none
abbrev Mir := List Ent → Pot → Res Ret
def spF (K : PySem.W.Frag) (mg : Str → Option Value) (n : Nat) (m : Mir) : Sp := fun vs H Q E => vs.length = n ∧ ∃ ap Hs es θ, Same Hs H ∧ TabOk (tbK K) Hs H ∧ (∀ p, ap = some p → Hs p = none) ∧ PotAt H ap θ ∧ Ents K ap Hs es vs ∧
  Post (m es θ) (fun r θ' => ∀ v H' Hs', FnEnd ap (tbK K) Hs H Hs' H' θ' → RepR K H Hs' H' r v → Q v H') (fun e _ θ' => ∀ c dd H' Hs', FnEnd ap (tbK K) Hs H Hs' H' θ' → ExcAt K mg Hs' H' e c dd → E c dd H')
/-- a def as it stands, by its mirror; nothing is being shown by repr where it is called -/
structure FnP (P : Program) (w : World) (K : PySem.W.Frag) (mg : Str → Option Value) (base : Heap) (k : Nat) (f : Addr) (fd : FuncData) (ps : List Str) (m : Mir) : Prop where
  run : ∀ (A : Around) (outer : List Env) (s : Shared) (H : Hp) (args : Args) (us : List Value) (vs : List V) (Q : VK) (E : XK), Room k A → A.guards = some [] → Env0 P w K mg base A outer s H → BindsTo s fd args (ps.zip us) → Vals vs us →
    spF K mg ps.length m vs H Q E → codeAny (model P w) A (.call (.ref f) args) (CR (L2.CX P w) outer P w H s Q E) s
end Pd



namespace Pd
open PySem PySem.Spec PyProof.Rows L2
variable [Pd.LamTab]
inductive Tg1 where
  | n (i : Nat) | t (is : List Nat)
def gNs : List Nat → TGs
  | [] => gNil
  | i :: is => gCons (gName i) (gNs is)
section
variable {X : Cx} {es : List Expr} {pos : Pos}
def g1 (K : PySem.W.Frag) : Tg1 → TG
  | .n i => gName i
  | .t is => gTup K is.length (gNs is)
end

section
variable {X : Cx} {F : Fr0} {W : WX} {tg a b c : Expr} {es : List Expr} {pos p : Pos}
/-- a name's own list becomes data ahead of a statement -/
def frz (i : Nat) (ρ : DEnv) : DEnv := match ρ[i]? with
  | some (some (.own l)) => ρ.set i (some (.dat (.lst l)))
  | _ => ρ
end
end Pd



namespace Pd
open PySem PySem.Spec
variable [Pd.LamTab]
def Gv {α : Type} (r : Res α) (Q : α → Pot → Prop) : Prop := match r with
  | .ok a θ => Q a θ
  | _ => False
section
variable {α β : Type} {ρ : DEnv} {θ : Pot} {Q : α → Pot → Prop}
theorem Gv.ok {r : Res α} (h : Gv r Q) : ∃ a θ, r = .ok a θ ∧ Q a θ := by
  cases r with
  | ok a θ => exact ⟨a, θ, rfl, h⟩
  | exn e ρ θ => exact h.elim
  | bad => exact h.elim
variable {ρ1 ρ2 : DEnv}
end
end Pd



namespace Pd
open PySem PySem.Spec PyProof.Rows L2
variable [Pd.LamTab]
def itemB : Value → Dt → Bool
  | .int i _, .int j => decide (i = j)
  | .str s _, .str z => decide (s = z)
  | .bool b, .bl c => decide (b = c)
  | .none, .non => true
  | _, _ => false
def itemsB : List Value → List Dt → Bool
  | [], [] => true
  | u :: us, d :: ds => itemB u d && itemsB us ds
  | _, _ => false
def objB (o : Obj) (ds : List Dt) : Bool := decide (o.cls = .type "tuple") && match o.data with
  | .seq its _ => decide (its.size ≤ 1000) && itemsB its.toList ds
  | _ => false
def exTup (K : PySem.W.Frag) (x : Str) (ds : List Dt) : Bool := match PySem.W.nsIn K mainGlobals x with
  | some (some (.ref a)) => (match K.lookup a with
    | some o => objB o ds
    | none => false)
  | _ => false
end Pd



namespace Pd
open PySem PySem.Spec PyProof.Rows L2
variable [Pd.LamTab]
section
variable {prog : Program} {w : World} {A : Around} {E : Value → Shared → Prop} {s : Shared} {x y : Addr}
end
section
variable {X : Cx} {F : Fr0} {W : WX} {pos p : Pos} {x : Str} {e : Expr} {es : List Expr}
end
theorem FnP.none {P : Program} {w : World} {K : PySem.W.Frag} {mg : Str → Option Value} {base : Heap} {k : Nat} {f : Addr} {fd : FuncData} {ps : List Str} : FnP P w K mg base k f fd ps (fun _ _ => .bad) :=
  ⟨fun A outer s H args us vs Q E hr hg e0 hbd r hsp => by
    obtain ⟨_, ap, Hs, es, θ, _, _, _, _, _, post⟩ := hsp
    exact post.elim⟩
section
variable {ρ : DEnv} {θ : Pot}
end
end Pd



namespace PdX
open PySem PySem.W PySem.Calls PyProof.Rows PySem.HandSPX Builtin Builtin.ObjectAttr
variable [Pd.LamTab]
section
variable {prog : Program} {w : World} {A : Around} {E : Value → Shared → Prop} {R : Result → Shared → Prop} {hp : Heap} {g : Array GenState} {d : Drawn} {t : Nat} {os : OsState} {K : Frag} {C fI x : Addr} {B newId initId : String} {bmB : List Value} {name : Str} {tk : Tok} {v : Value}
theorem cls_of (q : hasDictIn K C = true) : ∃ cd, clsIn K C = some cd ∧ cd.hasDict = true := any_some q
/-- a further one -/
theorem put_more (S : StoreFacts B bmB "object.__setattr__" "object") {dx : Addr} {fv : Array Value} {m0 : Str → Option Value} {nl : List Str} (X : K.In hp) (hx : hp.get? x = some { cls := .ref C, dict := some dx, data := .fields fv }) (hns : hp.Ns1 dx m0) (hw : Within m0 nl) (hz : nl.length ≤ 1000)
    (ov : excOver K C bmB = true) (hd : hasDictIn K C = true) (no : findIn K (.ref C) name = some none)
    (hq : ∀ h' tk', (∀ b o, b ≠ dx → hp.get? b = some o → h'.get? b = some o) → h'.Ns1 dx (fun y => if y = name then some v else m0 y) → R (.ok (.ret .none)) ⟨h', g, d, tk', os⟩) :
    codeAny (model prog w) A (.call (.builtin "object.__setattr__") ⟨[.ref x, .str name tk, v], []⟩) R ⟨hp, g, d, t, os⟩ := by
  obtain ⟨oD, es, ep, hoD, _, _⟩ := hns.count hw
  have I : InstAt hp x { cls := .ref C, dict := some dx, data := .fields fv } C (some oD) := ⟨hx, rfl, rfl, hoD⟩
  refine osa_openX S X I ov (r := none) (by unfold takerIn; rw [no]; rfl) fun b => ?_
  obtain ⟨cd, hc, hh⟩ := cls_of hd
  have look : Looks (model prog w) hp (classData C) cd := looks_clsIn X hc
  obtain ⟨nm, bs, mro, ns, qn, hd', sn, sb, ab, col, dl⟩ := cd
  dsimp only at hh
  subst hh
  show wpAny _ _ (storeInOwnDict (.ref x) (.ref C) (.str name tk) name v b) _ _ _
  unfold storeInOwnDict ownDictForStores
  repeat (first | with_reducible refine PySem.OEX.store_in_old hns hw hz ?_ | with_reducible refine wpAny_loadPart_at hx ?_ | with_reducible refine look.at ?_ | wp_step)
  intro h' tk' hn' same
  exact hq h' tk' (fun b o nb ho => (same.2 b nb).trans ho) hn'
end
end PdX
namespace Pd
open PySem PySem.Spec PyProof.Rows L2 PdX
variable [Pd.LamTab]
section
variable {X : Cx} {F : Fr0} {W : WX} {C fI : Addr} {B newId initId : String} {bmB : List Value} {x : Str} {p pos pos2 : Pos} {es : List Expr}
end
end Pd



namespace Pd
open PySem PySem.Spec PyProof.Rows L2 PdX
variable [Pd.LamTab]
section
variable {K : PySem.W.Frag} {F : Fr0} {σ : L2.St} {H Hs : Hp} {ρ : DEnv} {θ : Pot}
end
/-- what the frame of a suite knows of the exception at a -/
structure Caught (X : Cx) (F : Fr0) (a : Addr) (oe : Obj) (e : Exn) : Prop where
  x : F.xs 1 = some a
  kp : ∀ b, F.Hs0 b ≠ none → F.H0 b ≠ none
  ex : ∃ cls d, ExcAt X.K X.mg F.Hs0 F.Hs0 e cls d ∧ Zc cls d oe ∧ ∃ vs, oe.data = .fields vs
theorem Caught.same {X : Cx} {F : Fr0} {a : Addr} {oe : Obj} {e : Exn} {σ : L2.St} {H Hs : Hp} {ρ : DEnv} {θ : Pot} (c : Caught X F a oe e) (st : StOk X.K F σ H Hs ρ θ) : Same F.Hs0 Hs := fun b o h => (st.frs b (c.kp b (by rw [h]; exact fun z => nomatch z))).trans h
section
variable {X : Cx} {F : Fr0} {W : WX} {body : List Stmt} {h0 : ExceptHandler} {hds : List ExceptHandler} {hs : List (Str × (Exn → M Out))} {pos : Pos} {tab : List (Str × List Str)} {ys fns : List Str} {mb : M Out} {i : Nat}
end
end Pd



namespace Pd
variable [Pd.LamTab]
open PySem PySem.Spec PyProof.Rows L2 PdX LamX
section
variable {X : Cx} {pins : List (Addr × Obj)} {σ : L2.St} {H : Hp} {s : Shared}
end
section
variable {K : PySem.W.Frag} {F : Fr0} {σ : L2.St} {H Hs : Hp} {ρ : DEnv} {θ : Pot}
end
section
variable {X : Cx} {F : Fr0} {W : WX} {params : Arguments} {body : Expr} {scope : Scope} {pos : Pos}
end
/-- the frame that knows of an open list at a -/
def Fr0.at (F : Fr0) (a : Addr) : Fr0 := ⟨F.ap, upd F.H0 a (.tbl #[]), fun b => if b = a then none else F.Hs0 b, F.cells, F.xs, some a⟩
section
variable {K : PySem.W.Frag} {F : Fr0} {σ : L2.St} {H Hs : Hp} {ρ : DEnv} {θ : Pot}
theorem LamsAt.len {cells : List (Str × Addr)} : ∀ {ks : List Nat} {vs : List V}, LamsAt Hs cells ks vs → ks.length = vs.length
  | [], _, g => by rw [show _ = _ from g]; rfl
  | j :: ks, _, g => by
    obtain ⟨b, r, y, rfl, g1, g2, g3⟩ := g
    rw [List.length_cons, List.length_cons, LamsAt.len g3]
end
section
variable {X : Cx} {F : Fr0} {W : WX} {params : Arguments} {body : Expr} {scope : Scope} {pos lpos pos' q apos cpos : Pos} {rest : List Stmt} {y : Str} {kt : Pos}
end
end Pd



namespace Pd
variable [Pd.LamTab]
open PySem PySem.Spec PyProof.Rows L2 PdX LamX
/-- H1 is H with things at C locked -/
structure Lk (C : Addr → Prop) (H H1 : Hp) : Prop where
  out : ∀ b, ¬ C b → H1 b = H b
  inn : ∀ b, C b → H b = none ∧ ∃ o, H1 b = some (.frz o (.ext fun _ => True))
section
variable {C : Addr → Prop} {H H1 : Hp}
theorem Lk.no (L : Lk C H H1) {b : Addr} {o : HO} (h : H b = some o) : ¬ C b := fun z => by rw [(L.inn b z).1] at h; cases h
theorem Lk.at (L : Lk C H H1) {b : Addr} {o : HO} (h : H b = some o) : H1 b = some o := (L.out b (L.no h)).trans h
end
section
variable {X : Cx} {F : Fr0} {W : WX}
end
end Pd



namespace Pd
variable [Pd.LamTab]
open PySem PySem.Spec PyProof.Rows L2 PdX LamX
def spC (K : PySem.W.Frag) (mg : Str → Option Value) (k : Nat) (m : Mir) (ds : List Dt) (a : Addr) (H : Hp) (Q : VK) (E : XK) : Prop := ∃ ap Hs θ, Same Hs H ∧ TabOk (tbK K) Hs H ∧ (∀ p, ap = some p → Hs p = none) ∧ PotAt H ap θ ∧ Rep K Hs (.cls k ds) (.ref a) ∧
  Post (m (ds.map Ent.dat) θ) (fun r θ' => ∀ v H' Hs', FnEnd ap (tbK K) Hs H Hs' H' θ' → RepR K H Hs' H' r v → Q v H') (fun e _ θ' => ∀ c dd H' Hs', FnEnd ap (tbK K) Hs H Hs' H' θ' → ExcAt K mg Hs' H' e c dd → E c dd H')
structure LamP (P : Program) (w : World) (K : PySem.W.Frag) (mg : Str → Option Value) (base : Heap) (kr : Nat) (k : Nat) (m : Mir) : Prop where
  run : ∀ (A : Around) (outer : List Env) (s : Shared) (H : Hp) (a : Addr) (ds : List Dt) (Q : VK) (E : XK), Room kr A → A.guards = some [] → Env0 P w K mg base A outer s H → spC K mg k m ds a H Q E → codeAny (model P w) A (.call (.ref a) ⟨[], []⟩) (CR (L2.CX P w) outer P w H s Q E) s
section
variable {X : Cx} {F : Fr0} {W : WX} {y : Str} {p1 p2 : Pos}
end
end Pd



namespace Pd
variable [Pd.LamTab]
open PySem PySem.Spec PyProof.Rows L2 PdX LamX
theorem CellsAt.at {H : Hp} : ∀ {cs : List Addr} {xs : List V} {i : Nat} {v : V}, CellsAt H cs xs → xs[i]? = some v → ∃ c, cs[i]? = some c ∧ CellAt H c v
  | [], _, i, v, h, e => by
    rw [show _ = _ from h] at e
    simp at e
  | d :: cs, _, 0, v, h, e => by
    obtain ⟨u, r, rfl, h1, h2⟩ := h
    simp at e
    subst e
    exact ⟨d, rfl, h1⟩
  | d :: cs, _, i + 1, v, h, e => by
    obtain ⟨u, r, rfl, h1, h2⟩ := h
    obtain ⟨c, e1, e2⟩ := CellsAt.at h2 (by simpa using e)
    exact ⟨c, by simpa using e1, e2⟩
theorem CellsAt.len {H : Hp} : ∀ {cs : List Addr} {xs : List V}, CellsAt H cs xs → cs.length = xs.length
  | [], _, h => by rw [show _ = _ from h]; rfl
  | d :: cs, _, h => by
    obtain ⟨u, r, rfl, h1, h2⟩ := h
    rw [List.length_cons, List.length_cons, CellsAt.len h2]
end Pd



namespace Pd
variable [Pd.LamTab]
open PySem PySem.Spec PyProof.Rows L2 PdX LamX
def e0 : Expr := .Constant .none 0 ⟨0, 0, 0, 0⟩
theorem LamP.none {P : Program} {w : World} {K : PySem.W.Frag} {mg : Str → Option Value} {base : Heap} {kr k : Nat} : LamP P w K mg base kr k (fun _ _ => .bad) :=
  ⟨fun A outer s H a ds Q E hr hg e0 hs => by
    obtain ⟨ap, Hs, θ, _, _, _, _, _, post⟩ := hs
    exact post.elim⟩
inductive BE where
  | value | runtime | arith | lookup
def BE.B : BE → String
  | .value => "ValueError"
  | .runtime => "RuntimeError"
  | .arith => "ArithmeticError"
  | .lookup => "LookupError"
def BE.bm : BE → List Value
  | .value => [.type "ValueError", .type "Exception", .type "BaseException", .type "object"]
  | .runtime => [.type "RuntimeError", .type "Exception", .type "BaseException", .type "object"]
  | .arith => [.type "ArithmeticError", .type "Exception", .type "BaseException", .type "object"]
  | .lookup => [.type "LookupError", .type "Exception", .type "BaseException", .type "object"]
theorem BE.st : ∀ b : BE, StoreFacts b.B b.bm "object.__setattr__" "object"
  | .value => PySem.F.store_ValueError
  | .runtime => PySem.F.store_RuntimeError
  | .arith => PySem.F.store_ArithmeticError
  | .lookup => PySem.F.store_LookupError
section
variable {X : Cx} {F : Fr0} {W : WX} {x : Str} {e : Expr} {es : List Expr} {p pos pos2 : Pos}
end
end Pd



namespace Pd
variable [Pd.LamTab]
open PySem PySem.Spec PyProof.Rows L2 PdX LamX
section
variable {X : Cx} {F : Fr0} {W : WX} {pos : Pos}
end
end Pd
namespace Pd
section
variable [Pd.LamTab]
open PySem PySem.Spec PyProof.Rows L2
def LamAll (P : Program) (w : World) (K : PySem.W.Frag) (mg : Str → Option Value) (base : Heap) (kr : Nat) : Nat → List Mir → Prop
  | _, [] => True
  | n, m :: l => LamP P w K mg base kr n m ∧ LamAll P w K mg base kr (n + 1) l
theorem LamAll.at {P : Program} {w : World} {K : PySem.W.Frag} {mg : Str → Option Value} {base : Heap} {kr : Nat} : ∀ {n : Nat} {l : List Mir} (k : Nat), LamAll P w K mg base kr n l → LamP P w K mg base kr (n + k) (l.getD k fun _ _ => .bad)
  | n, [], k, _ => by
    rw [List.getD_nil]
    exact LamP.none
  | n, m :: l, 0, h => h.1
  | n, m :: l, k + 1, h => by
    have := LamAll.at k h.2
    rw [List.getD_cons_succ, show n + (k + 1) = n + 1 + k by omega]
    exact this
end
end Pd



namespace Pd
variable [Pd.LamTab]
open PySem PySem.Spec PyProof.Rows L2
section
variable {X : Cx} {pins : List (Addr × Obj)} {σ : L2.St} {H : Hp} {s : Shared} {a b : Addr} {e : List DE} {k : List Int}
theorem RelE.len {e : List DE} {xs : List (List Int × Addr × Value)} (r : RelE e xs) : e.length = xs.length := Paired.length r
/-- the value at a key -/
def valE (e : List DE) (k : List Int) : Option V := (e.find? fun x => decide (x.1 = k)).map (·.2.2)
theorem RelE.val {e : List DE} {xs : List (List Int × Addr × Value)} (r : RelE e xs) (k : List Int) : RelO (valE e k) ((atKey xs k).map (·.2)) := by
  induction r with
  | nil => exact True.intro
  | @cons p q ps qs h t ih =>
    obtain ⟨h1, _, h2⟩ := h
    by_cases z : p.1 = k
    · have z' : q.1 = k := h1.symm.trans z
      have c : atKey (q :: qs) k = some q.2 := by simp [atKey, List.find?_cons, z']
      have d : valE (p :: ps) k = some p.2.2 := by simp [valE, List.find?_cons, z]
      rw [d, c]
      exact h2
    · have z' : ¬ q.1 = k := fun w => z (h1.trans w)
      have c : atKey (q :: qs) k = atKey qs k := by simp [atKey, List.find?_cons, z']
      have d : valE (p :: ps) k = valE ps k := by simp [valE, List.find?_cons, z]
      rw [d, c]
      exact ih
end
end Pd



namespace Pd
variable [Pd.LamTab]
open PySem PySem.Spec PyProof.Rows L2
abbrev cd (k : List Int) : Int := TS.code 1000 k
section
variable {X : Cx} {F : Fr0} {W : WX} {a : Expr} {pos p : Pos}
end
end Pd



namespace Tc
open PySem PySem.Spec PyProof.Rows L2 Pd

end Tc


namespace Tc
open PySem PySem.Spec PyProof.Rows L2 Pd
def topS (i : Nat) : Stmt := PySem.Challenge.pw_truecourse_k18_whole_nested_forms.main.body.getD i (.Pass ⟨0, 0, 0, 0⟩)
abbrev s__law_pot : Stmt := topS 60
abbrev s_is_list : Stmt := topS 13
abbrev s_is_integer : Stmt := topS 11
abbrev s_is_count : Stmt := topS 12
abbrev s_is_ratio : Stmt := topS 23
abbrev s_is_term : Stmt := topS 32
abbrev s_want_many : Stmt := topS 14
abbrev s_want_letters_many : Stmt := topS 36
abbrev s_told_poly : Stmt := topS 40
abbrev s_made_ratio : Stmt := topS 19
abbrev s_add_ratios : Stmt := topS 20
abbrev s_put_more : Stmt := topS 41
abbrev s_want_at_most : Stmt := topS 15
abbrev s_degree_of : Stmt := topS 42
abbrev s_want_few : Stmt := topS 43
abbrev s_poly_of : Stmt := topS 45
abbrev s_letters_of : Stmt := topS 34
abbrev s_is_poly_in : Stmt := topS 33
abbrev s_is_any_poly : Stmt := topS 35
abbrev s_want_poly : Stmt := topS 37
abbrev s_is_point : Stmt := topS 26
abbrev s_want_point_for : Stmt := topS 39
abbrev s_mul_ratios : Stmt := topS 21
abbrev s_power_ratio : Stmt := topS 22
abbrev s_value_of : Stmt := topS 44
abbrev s_value_at : Stmt := topS 46
abbrev s_nested_from : Stmt := topS 48
abbrev s_terms_from : Stmt := topS 49
abbrev s_poly_from : Stmt := topS 50
abbrev s_has_form : Stmt := topS 52
abbrev s_is_nested_of : Stmt := topS 53
abbrev s_is_nested : Stmt := topS 55
abbrev s_want_poly_in : Stmt := topS 38
abbrev s_nested_of : Stmt := topS 56
abbrev s_want_nested : Stmt := topS 54
abbrev s_poly_of_nested : Stmt := topS 57
abbrev s_value_from : Stmt := topS 51
abbrev s_value_of_nested : Stmt := topS 58
abbrev s__law_draw : Stmt := topS 61
abbrev s__law_pick : Stmt := topS 62
abbrev s__law_told : Stmt := topS 66
abbrev s__law_low : Stmt := topS 63
abbrev s__law_add : Stmt := topS 64
abbrev s__law_mul : Stmt := topS 65
abbrev s__law_value : Stmt := topS 67
abbrev s__law_ratio : Stmt := topS 68
abbrev s__law_terms : Stmt := topS 69
abbrev s__law_sums : Stmt := topS 70
abbrev s__law_poly : Stmt := topS 71
abbrev s__law_point : Stmt := topS 72
abbrev s__law_nested : Stmt := topS 73
abbrev s__law_terms_of : Stmt := topS 74
abbrev s__law_is_nested : Stmt := topS 75
abbrev s__law_bent : Stmt := topS 76
abbrev s__law_right : Stmt := topS 77
abbrev s_law : Stmt := topS 78
def dd__law_pot : He.DefD := ⟨("_law_pot", none), "_law_pot", "_law_pot", defArgs s__law_pot, defBody s__law_pot, defScope s__law_pot, [], []⟩
def dd_is_list : He.DefD := ⟨("is_list", none), "is_list", "is_list", defArgs s_is_list, defBody s_is_list, defScope s_is_list, [], []⟩
def dd_is_integer : He.DefD := ⟨("is_integer", none), "is_integer", "is_integer", defArgs s_is_integer, defBody s_is_integer, defScope s_is_integer, [], []⟩
def dd_is_count : He.DefD := ⟨("is_count", none), "is_count", "is_count", defArgs s_is_count, defBody s_is_count, defScope s_is_count, [], []⟩
def dd_is_ratio : He.DefD := ⟨("is_ratio", none), "is_ratio", "is_ratio", defArgs s_is_ratio, defBody s_is_ratio, defScope s_is_ratio, [], []⟩
def dd_is_term : He.DefD := ⟨("is_term", none), "is_term", "is_term", defArgs s_is_term, defBody s_is_term, defScope s_is_term, [], []⟩
def dd_want_many : He.DefD := ⟨("want_many", none), "want_many", "want_many", defArgs s_want_many, defBody s_want_many, defScope s_want_many, [(.non), (.int (0))], []⟩
def dd_want_letters_many : He.DefD := ⟨("want_letters_many", none), "want_letters_many", "want_letters_many", defArgs s_want_letters_many, defBody s_want_letters_many, defScope s_want_letters_many, [], []⟩
def dd_told_poly : He.DefD := ⟨("told_poly", none), "told_poly", "told_poly", defArgs s_told_poly, defBody s_told_poly, defScope s_told_poly, [], []⟩
def dd_made_ratio : He.DefD := ⟨("made_ratio", none), "made_ratio", "made_ratio", defArgs s_made_ratio, defBody s_made_ratio, defScope s_made_ratio, [], []⟩
def dd_add_ratios : He.DefD := ⟨("add_ratios", none), "add_ratios", "add_ratios", defArgs s_add_ratios, defBody s_add_ratios, defScope s_add_ratios, [], []⟩
def dd_put_more : He.DefD := ⟨("put_more", none), "put_more", "put_more", defArgs s_put_more, defBody s_put_more, defScope s_put_more, [], []⟩
def dd_want_at_most : He.DefD := ⟨("want_at_most", none), "want_at_most", "want_at_most", defArgs s_want_at_most, defBody s_want_at_most, defScope s_want_at_most, [], []⟩
def dd_degree_of : He.DefD := ⟨("degree_of", none), "degree_of", "degree_of", defArgs s_degree_of, defBody s_degree_of, defScope s_degree_of, [], []⟩
def dd_want_few : He.DefD := ⟨("want_few", none), "want_few", "want_few", defArgs s_want_few, defBody s_want_few, defScope s_want_few, [], []⟩
def dd_poly_of : He.DefD := ⟨("poly_of", none), "poly_of", "poly_of", defArgs s_poly_of, defBody s_poly_of, defScope s_poly_of, [], []⟩
def dd_letters_of : He.DefD := ⟨("letters_of", none), "letters_of", "letters_of", defArgs s_letters_of, defBody s_letters_of, defScope s_letters_of, [], []⟩
def dd_is_poly_in : He.DefD := ⟨("is_poly_in", none), "is_poly_in", "is_poly_in", defArgs s_is_poly_in, defBody s_is_poly_in, defScope s_is_poly_in, [], []⟩
def dd_is_any_poly : He.DefD := ⟨("is_any_poly", none), "is_any_poly", "is_any_poly", defArgs s_is_any_poly, defBody s_is_any_poly, defScope s_is_any_poly, [], []⟩
def dd_want_poly : He.DefD := ⟨("want_poly", none), "want_poly", "want_poly", defArgs s_want_poly, defBody s_want_poly, defScope s_want_poly, [], []⟩
def dd_is_point : He.DefD := ⟨("is_point", none), "is_point", "is_point", defArgs s_is_point, defBody s_is_point, defScope s_is_point, [], []⟩
def dd_want_point_for : He.DefD := ⟨("want_point_for", none), "want_point_for", "want_point_for", defArgs s_want_point_for, defBody s_want_point_for, defScope s_want_point_for, [], []⟩
def dd_mul_ratios : He.DefD := ⟨("mul_ratios", none), "mul_ratios", "mul_ratios", defArgs s_mul_ratios, defBody s_mul_ratios, defScope s_mul_ratios, [], []⟩
def dd_power_ratio : He.DefD := ⟨("power_ratio", none), "power_ratio", "power_ratio", defArgs s_power_ratio, defBody s_power_ratio, defScope s_power_ratio, [], []⟩
def dd_value_of : He.DefD := ⟨("value_of", none), "value_of", "value_of", defArgs s_value_of, defBody s_value_of, defScope s_value_of, [], []⟩
def dd_value_at : He.DefD := ⟨("value_at", none), "value_at", "value_at", defArgs s_value_at, defBody s_value_at, defScope s_value_at, [], []⟩
def dd_nested_from : He.DefD := ⟨("nested_from", none), "nested_from", "nested_from", defArgs s_nested_from, defBody s_nested_from, defScope s_nested_from, [], []⟩
def dd_terms_from : He.DefD := ⟨("terms_from", none), "terms_from", "terms_from", defArgs s_terms_from, defBody s_terms_from, defScope s_terms_from, [], []⟩
def dd_poly_from : He.DefD := ⟨("poly_from", none), "poly_from", "poly_from", defArgs s_poly_from, defBody s_poly_from, defScope s_poly_from, [], []⟩
def dd_has_form : He.DefD := ⟨("has_form", none), "has_form", "has_form", defArgs s_has_form, defBody s_has_form, defScope s_has_form, [], []⟩
def dd_is_nested_of : He.DefD := ⟨("is_nested_of", none), "is_nested_of", "is_nested_of", defArgs s_is_nested_of, defBody s_is_nested_of, defScope s_is_nested_of, [], []⟩
def dd_is_nested : He.DefD := ⟨("is_nested", none), "is_nested", "is_nested", defArgs s_is_nested, defBody s_is_nested, defScope s_is_nested, [], []⟩
def dd_want_poly_in : He.DefD := ⟨("want_poly_in", none), "want_poly_in", "want_poly_in", defArgs s_want_poly_in, defBody s_want_poly_in, defScope s_want_poly_in, [], []⟩
def dd_nested_of : He.DefD := ⟨("nested_of", none), "nested_of", "nested_of", defArgs s_nested_of, defBody s_nested_of, defScope s_nested_of, [], []⟩
def dd_want_nested : He.DefD := ⟨("want_nested", none), "want_nested", "want_nested", defArgs s_want_nested, defBody s_want_nested, defScope s_want_nested, [], []⟩
def dd_poly_of_nested : He.DefD := ⟨("poly_of_nested", none), "poly_of_nested", "poly_of_nested", defArgs s_poly_of_nested, defBody s_poly_of_nested, defScope s_poly_of_nested, [], []⟩
def dd_value_from : He.DefD := ⟨("value_from", none), "value_from", "value_from", defArgs s_value_from, defBody s_value_from, defScope s_value_from, [], []⟩
def dd_value_of_nested : He.DefD := ⟨("value_of_nested", none), "value_of_nested", "value_of_nested", defArgs s_value_of_nested, defBody s_value_of_nested, defScope s_value_of_nested, [], []⟩
def dd__law_draw : He.DefD := ⟨("_law_draw", none), "_law_draw", "_law_draw", defArgs s__law_draw, defBody s__law_draw, defScope s__law_draw, [], []⟩
def dd__law_pick : He.DefD := ⟨("_law_pick", none), "_law_pick", "_law_pick", defArgs s__law_pick, defBody s__law_pick, defScope s__law_pick, [], []⟩
def dd__law_told : He.DefD := ⟨("_law_told", none), "_law_told", "_law_told", defArgs s__law_told, defBody s__law_told, defScope s__law_told, [], []⟩
def dd__law_low : He.DefD := ⟨("_law_low", none), "_law_low", "_law_low", defArgs s__law_low, defBody s__law_low, defScope s__law_low, [], []⟩
def dd__law_add : He.DefD := ⟨("_law_add", none), "_law_add", "_law_add", defArgs s__law_add, defBody s__law_add, defScope s__law_add, [], []⟩
def dd__law_mul : He.DefD := ⟨("_law_mul", none), "_law_mul", "_law_mul", defArgs s__law_mul, defBody s__law_mul, defScope s__law_mul, [], []⟩
def dd__law_value : He.DefD := ⟨("_law_value", none), "_law_value", "_law_value", defArgs s__law_value, defBody s__law_value, defScope s__law_value, [], []⟩
def dd__law_ratio : He.DefD := ⟨("_law_ratio", none), "_law_ratio", "_law_ratio", defArgs s__law_ratio, defBody s__law_ratio, defScope s__law_ratio, [], []⟩
def dd__law_terms : He.DefD := ⟨("_law_terms", none), "_law_terms", "_law_terms", defArgs s__law_terms, defBody s__law_terms, defScope s__law_terms, [], []⟩
def dd__law_sums : He.DefD := ⟨("_law_sums", none), "_law_sums", "_law_sums", defArgs s__law_sums, defBody s__law_sums, defScope s__law_sums, [], []⟩
def dd__law_poly : He.DefD := ⟨("_law_poly", none), "_law_poly", "_law_poly", defArgs s__law_poly, defBody s__law_poly, defScope s__law_poly, [], []⟩
def dd__law_point : He.DefD := ⟨("_law_point", none), "_law_point", "_law_point", defArgs s__law_point, defBody s__law_point, defScope s__law_point, [], []⟩
def dd__law_nested : He.DefD := ⟨("_law_nested", none), "_law_nested", "_law_nested", defArgs s__law_nested, defBody s__law_nested, defScope s__law_nested, [], []⟩
def dd__law_terms_of : He.DefD := ⟨("_law_terms_of", none), "_law_terms_of", "_law_terms_of", defArgs s__law_terms_of, defBody s__law_terms_of, defScope s__law_terms_of, [], []⟩
def dd__law_is_nested : He.DefD := ⟨("_law_is_nested", none), "_law_is_nested", "_law_is_nested", defArgs s__law_is_nested, defBody s__law_is_nested, defScope s__law_is_nested, [], []⟩
def dd__law_bent : He.DefD := ⟨("_law_bent", none), "_law_bent", "_law_bent", defArgs s__law_bent, defBody s__law_bent, defScope s__law_bent, [], []⟩
def dd__law_right : He.DefD := ⟨("_law_right", none), "_law_right", "_law_right", defArgs s__law_right, defBody s__law_right, defScope s__law_right, [], []⟩
def dd_law : He.DefD := ⟨("law", none), "law", "law", defArgs s_law, defBody s_law, defScope s_law, [], []⟩
def fn : List He.DefD := ([dd__law_pot, dd_is_list, dd_is_integer, dd_is_count, dd_is_ratio, dd_is_term, dd_want_many, dd_want_letters_many, dd_told_poly, dd_made_ratio, dd_add_ratios, dd_put_more, dd_want_at_most, dd_degree_of, dd_want_few, dd_poly_of, dd_letters_of, dd_is_poly_in, dd_is_any_poly, dd_want_poly, dd_is_point, dd_want_point_for, dd_mul_ratios, dd_power_ratio, dd_value_of, dd_value_at, dd_nested_from, dd_terms_from, dd_poly_from, dd_has_form] : List He.DefD) ++ ([dd_is_nested_of, dd_is_nested, dd_want_poly_in, dd_nested_of, dd_want_nested, dd_poly_of_nested, dd_value_from, dd_value_of_nested, dd__law_draw, dd__law_pick, dd__law_told, dd__law_low, dd__law_add, dd__law_mul, dd__law_value, dd__law_ratio, dd__law_terms, dd__law_sums, dd__law_poly, dd__law_point, dd__law_nested, dd__law_terms_of, dd__law_is_nested, dd__law_bent, dd__law_right, dd_law] : List He.DefD)
def fa : List He.Fa := ([.glo "_law_pot", .glo "is_list", .glo "is_integer", .glo "is_count", .glo "is_ratio", .glo "is_term", .glo "want_many", .glo "want_letters_many", .glo "told_poly", .glo "made_ratio", .glo "add_ratios", .glo "put_more", .glo "want_at_most", .glo "degree_of", .glo "want_few", .glo "poly_of", .glo "letters_of", .glo "is_poly_in", .glo "is_any_poly", .glo "want_poly", .glo "is_point", .glo "want_point_for", .glo "mul_ratios", .glo "power_ratio", .glo "value_of", .glo "value_at", .glo "nested_from", .glo "terms_from", .glo "poly_from", .glo "has_form"] : List He.Fa) ++ ([.glo "is_nested_of", .glo "is_nested", .glo "want_poly_in", .glo "nested_of", .glo "want_nested", .glo "poly_of_nested", .glo "value_from", .glo "value_of_nested", .glo "_law_draw", .glo "_law_pick", .glo "_law_told", .glo "_law_low", .glo "_law_add", .glo "_law_mul", .glo "_law_value", .glo "_law_ratio", .glo "_law_terms", .glo "_law_sums", .glo "_law_poly", .glo "_law_point", .glo "_law_nested", .glo "_law_terms_of", .glo "_law_is_nested", .glo "_law_bent", .glo "_law_right", .glo "law", .free "ArithmeticError", .free "ValueError", .free "abs", .free "all"] : List He.Fa) ++ ([.free "any", .free "bool", .free "dict", .free "divmod", .free "enumerate", .free "int", .free "isinstance", .free "len", .free "list", .free "max", .free "range", .free "repr", .free "sorted", .free "sum", .free "tuple", .free "zip", .int "MOST_LETTERS_boxes" (8), .int "MOST_LETTERS_polys" (8), .int "MOST_DEGREE" (8), .int "MOST_TERMS" (60), .int "MOST_PASSED" (200)] : List He.Fa)
def ex (K : PySem.W.Frag) : Bool := (decide (PySem.W.nsIn K mainGlobals "gcd" = some (some (.builtin "math.gcd")))) && ((Pd.exTup K "NOUGHT" [.int (0), .int (1)]) && ((Pd.exTup K "WHOLE" [.int (1), .int (1)]) && (true)))
abbrev R : PySem.W.OpenRow := PySem.W.OpenLaw.row PySem.Challenge.rw_truecourse_k18_whole_nested_forms
def tf : List He.Defn := []
abbrev hk : PySem.W.Hook := He.hookX 2 fa fn [] tf ex
def ob (s : PySem.W.SharedT) : He.AlX := He.obsX 2 fa fn [] tf ex (HandSHeadRun.getT s)
theorem ob_eq (s : PySem.W.SharedT) : ob s = hk.obs s.abs := He.obsX_eq (HandSHeadRun.getT_eq s)
def names : List PySem.Str := (["gcd", "CourseError", "LimitError", "InvalidPoint", "InvalidPoly", "InvalidMany", "InvalidNested", "InvalidTerms", "TooMany", "is_integer", "is_count", "is_list", "want_many", "want_at_most", "NOUGHT", "WHOLE", "made_ratio", "add_ratios", "mul_ratios", "power_ratio", "is_ratio", "MOST_LETTERS_boxes", "is_point", "MOST_LETTERS_polys", "MOST_DEGREE", "MOST_TERMS", "MOST_PASSED", "is_term", "is_poly_in", "letters_of"] : List PySem.Str) ++ (["is_any_poly", "want_letters_many", "want_poly", "want_poly_in", "want_point_for", "told_poly", "put_more", "degree_of", "want_few", "value_of", "poly_of", "value_at", "nested_from", "terms_from", "poly_from", "value_from", "has_form", "is_nested_of", "want_nested", "is_nested", "nested_of", "poly_of_nested", "value_of_nested", "_law_pot", "_law_draw", "_law_pick", "_law_low", "_law_add", "_law_mul", "_law_told"] : List PySem.Str) ++ (["_law_value", "_law_ratio", "_law_terms", "_law_sums", "_law_poly", "_law_point", "_law_nested", "_law_terms_of", "_law_is_nested", "_law_bent", "_law_right"] : List PySem.Str)
theorem map3 {α β γ δ : Type} {o : Option α} {f : α → β} {g : α → γ} {h : α → δ} {a : β} {b : γ} {c : δ} (e1 : o.map f = some a) (e2 : o.map g = some b) (e3 : o.map h = some c) : o.map (fun x => (f x, g x, h x)) = some (a, b, c) := by
  cases o with
  | none => cases e1
  | some x =>
    have d1 : f x = a := Option.some.inj e1
    have d2 : g x = b := Option.some.inj e2
    have d3 : h x = c := Option.some.inj e3
    show some (f x, g x, h x) = _
    rw [d1, d2, d3]
theorem run1 (w : World) : (HandSHeadRun.wholeF (fun p => HandSHeadRun.stepQ (HandSHeadRun.denQ HandSHeadRun.tabQ) p w) HandSHeadRun.fenceQ 6000 R.prog).map (fun x => HandSHeadRun.looksF R.prog x.1.heap x.2.abs) = some true := by kernel_rfl
theorem run2 (w : World) : (HandSHeadRun.wholeF (fun p => HandSHeadRun.stepQ (HandSHeadRun.denQ HandSHeadRun.tabQ) p w) HandSHeadRun.fenceQ 6000 R.prog).map (fun x => HandSHeadRun.seenQ (PySem.W.view R.prog [0, 78]) names (importedModules R.prog.main.body) (fun s => PySem.W.xlAt (PySem.W.view R.prog [0, 78]) [] s && PySem.W.recOk R.toRowW.records s) x.2.abs) = some (PySem.W.openGood (PySem.W.view R.prog [0, 78]) names) := by kernel_rfl
theorem run3 (w : World) : (HandSHeadRun.wholeF (fun p => HandSHeadRun.stepQ (HandSHeadRun.denQ HandSHeadRun.tabQ) p w) HandSHeadRun.fenceQ 6000 R.prog).map (fun x => ob x.2) = some (hk.val w) := by kernel_rfl
theorem run (w : World) : HandSHeadRun.RunEqI R (PySem.W.view R.prog [0, 78]) hk ob 6000 names w := by
  unfold HandSHeadRun.RunEqI
  exact map3 (run1 w) (run2 w) (run3 w)
end Tc


namespace Pd
open PySem PySem.Spec PyProof.Rows L2

instance (priority := low) noLam : LamTab := ⟨fun _ => none, []⟩
theorem LamAt.mono [LamTab] {H H' : Hp} (s : Same H H') {k : Nat} {cl : List (Str × Addr)} {a : Addr} (h : LamAt H k cl a) : LamAt H' k cl a := by
  obtain ⟨r, c, e, h1, h2⟩ := h
  exact ⟨r, c, e, s _ _ h1, s _ _ h2⟩
theorem CellAt.mono {H H' : Hp} (s : Same H H') {c : Addr} {v : V} (h : CellAt H c v) : CellAt H' c v := by
  obtain ⟨o, w, h1, h2⟩ := h
  exact ⟨o, w, s _ _ h1, h2⟩
theorem CellsAt.mono {H H' : Hp} (s : Same H H') : ∀ {cs : List Addr} {vs : List V}, CellsAt H cs vs → CellsAt H' cs vs
  | [], _, h => h
  | c :: cs, _, h => by
    obtain ⟨v, r, e, h1, h2⟩ := h
    exact ⟨v, r, e, h1.mono s, CellsAt.mono s h2⟩
theorem dicO_lst {a : Addr} {e : List DE} : ∀ xs : List V, DicO a e ≠ .lst xs := fun xs z => by
  unfold DicO at z
  cases z
theorem dicO_tbl {a : Addr} {e : List DE} : ∀ ps, DicO a e ≠ .tbl ps := fun xs z => by
  unfold DicO at z
  cases z
theorem dicO_cell {a : Addr} {e : List DE} : DicO a e ≠ .ext fun _ => True := fun z => by
  unfold DicO at z
  injection z with z
  have w := congrFun z { objs := #[] }
  have w2 : DicW a e ∧ ∃ o, Heap.get? { objs := #[] } a = some o ∧ DicObj e o := by
    rw [w]
    exact True.intro
  obtain ⟨_, o, h, _⟩ := w2
  exact absurd (Heap.lt_size h) (Nat.not_lt_zero _)
theorem DicL.mono {H H' : Hp} (s : Same H H') {a : Addr} {e : List DE} (h : DicL H a e) : DicL H' a e := let ⟨o, h⟩ := h; ⟨o, s _ _ h⟩
variable [LamTab]
/-- the empty dict -/
abbrev Dt.emp : Dt := .dct [] []

theorem sqt_mono {K : PySem.W.Frag} {H H' : Hp} {a : Addr} {xs : List V} (s : Same H H') (h : SqT K H a xs) : SqT K H' a xs := by
  rcases h with (h | ⟨o, h⟩) | h
  · exact Or.inl (Or.inl (s _ _ h))
  · exact Or.inl (Or.inr ⟨o, s _ _ h⟩)
  · exact Or.inr h

theorem KeysAt.mono {K : PySem.W.Frag} {H H' : Hp} {e : List DE} (s : Same H H') (h : KeysAt K H e) : KeysAt K H' e := fun x hx => sqt_mono s (h x hx)
mutual
theorem Rep.mono {K : PySem.W.Frag} {H H' : Hp} (s : Same H H') : ∀ (d : Dt) {v : V}, Rep K H d v → Rep K H' d v
  | .non, _, h => h
  | .bl _, _, h => h
  | .int _, _, h => h
  | .str _, _, h => h
  | .lst l, _, h => by
    obtain ⟨a, xs, e, q, r⟩ := h
    exact ⟨a, xs, e, s.seq q, Reps.mono s l r⟩
  | .tup l, _, h => by
    obtain ⟨a, xs, e, q, r⟩ := h
    exact ⟨a, xs, e, sqt_mono s q, Reps.mono s l r⟩
  | .raw _, _, h => h
  | .cls _ ds, _, h => by
    obtain ⟨a, cl, xs, e, q, q2, q3, q4, q5, q6⟩ := h
    exact ⟨a, cl, xs, e, q.mono s, q2, q3, q4.mono s, Reps.mono s ds q5, q6⟩
  | .dct _ vs, _, h => by
    obtain ⟨a, e, q, q1, q2, q3, q4⟩ := h
    exact ⟨a, e, q, q1.mono s, q2, q3.mono s, Reps.mono s vs q4⟩
theorem Reps.mono {K : PySem.W.Frag} {H H' : Hp} (s : Same H H') : ∀ (l : List Dt) {xs : List V}, Reps K H l xs → Reps K H' l xs
  | [], _, h => h
  | d :: ds, _, h => by
    obtain ⟨x, r, e, h1, h2⟩ := h
    exact ⟨x, r, e, Rep.mono s d h1, Reps.mono s ds h2⟩
end

section
variable {K : PySem.W.Frag} {H : Hp}
theorem Reps.get : ∀ {l : List Dt} {xs : List V} {i : Nat} {d : Dt}, Reps K H l xs → l[i]? = some d → ∃ x, xs[i]? = some x ∧ Rep K H d x
  | [], _, _, _, _, e => by simp at e
  | d :: ds, _, 0, _, h, e => by
    obtain ⟨x, r, rfl, h1, _⟩ := h
    simp at e
    subst e
    exact ⟨x, rfl, h1⟩
  | d :: ds, _, i + 1, _, h, e => by
    obtain ⟨x, r, rfl, _, h2⟩ := h
    obtain ⟨y, e1, e2⟩ := Reps.get h2 (by simpa using e)
    exact ⟨y, by simpa using e1, e2⟩
theorem Reps.append : ∀ {l m : List Dt} {xs ys : List V}, Reps K H l xs → Reps K H m ys → Reps K H (l ++ m) (xs ++ ys)
  | [], _, _, _, h, g => by rw [show _ = _ from h]; exact g
  | d :: ds, _, _, _, h, g => by
    obtain ⟨x, r, rfl, h1, h2⟩ := h
    exact Reps.cons h1 (Reps.append h2 g)
theorem Reps.drop : ∀ {l : List Dt} {xs : List V} (n : Nat), Reps K H l xs → Reps K H (l.drop n) (xs.drop n)
  | _, _, 0, h => h
  | [], _, n + 1, h => by rw [show _ = _ from h]; exact rfl
  | d :: ds, _, n + 1, h => by
    obtain ⟨x, r, rfl, _, h2⟩ := h
    exact Reps.drop n h2
theorem Reps.take : ∀ {l : List Dt} {xs : List V} (n : Nat), Reps K H l xs → Reps K H (l.take n) (xs.take n)
  | _, _, 0, h => by simpa using (Reps.nil : Reps K H [] [])
  | [], _, n + 1, h => by rw [show _ = _ from h]; exact rfl
  | d :: ds, _, n + 1, h => by
    obtain ⟨x, r, rfl, h1, h2⟩ := h
    exact Reps.cons h1 (Reps.take n h2)
theorem Reps.ints : ∀ {l : List Int} {xs : List V}, Reps K H (l.map Dt.int) xs → xs = l.map V.int
  | [], _, h => h
  | i :: r, _, h => by
    obtain ⟨x, s, rfl, h1, h2⟩ := h
    rw [show x = _ from h1, Reps.ints h2, List.map_cons]
theorem Reps.of_ints : ∀ (l : List Int), Reps K H (l.map Dt.int) (l.map V.int)
  | [] => rfl
  | i :: r => Reps.cons rfl (Reps.of_ints r)
theorem Reps.bools : ∀ {l : List Bool} {xs : List V}, Reps K H (l.map Dt.bl) xs → xs = l.map V.bl
  | [], _, h => h
  | i :: r, _, h => by
    obtain ⟨x, s, rfl, h1, h2⟩ := h
    rw [show x = _ from h1, Reps.bools h2, List.map_cons]
end

mutual
def toP : Dt → Option PyData
  | .non => some .none
  | .bl b => some (.bool b)
  | .int i => some (.int i)
  | .str s => some (.str s)
  | .lst l => (toPs l).map PyData.list
  | .tup l => (toPs l).map PyData.tuple
  | .raw _ => none
  | .cls _ _ => none
  | .dct _ _ => none
def toPs : List Dt → Option (List PyData)
  | [] => some []
  | d :: ds => match toP d, toPs ds with
    | some p, some ps => some (p :: ps)
    | _, _ => none
end
mutual
theorem Rep.dp {K : PySem.W.Frag} {H : Hp} : ∀ (d : Dt) {v : V} {p : PyData}, Rep K H d v → toP d = some p → Dp K H v p
  | .non, _, _, h, e => by rw [show _ = _ from h]; cases e; exact .non
  | .bl b, _, _, h, e => by rw [show _ = _ from h]; cases e; exact .bl b
  | .int i, _, _, h, e => by rw [show _ = _ from h]; cases e; exact .int i
  | .str s, _, _, h, e => by rw [show _ = _ from h]; cases e; exact .str s
  | .lst l, _, _, h, e => by
    obtain ⟨a, xs, rfl, q, r⟩ := h
    obtain ⟨ps, e1, rfl⟩ := Option.map_eq_some_iff.mp (show (toPs l).map PyData.list = _ from e)
    exact .lst q (Reps.dp l r e1)
  | .tup l, _, _, h, e => by
    obtain ⟨a, xs, rfl, q, r⟩ := h
    obtain ⟨ps, e1, rfl⟩ := Option.map_eq_some_iff.mp (show (toPs l).map PyData.tuple = _ from e)
    exact .tup q (Reps.dp l r e1)
  | .raw _, _, _, _, e => by cases e
  | .cls _ _, _, _, _, e => by cases e
  | .dct _ _, _, _, _, e => by cases e
theorem Reps.dp {K : PySem.W.Frag} {H : Hp} : ∀ (l : List Dt) {xs : List V} {ps : List PyData}, Reps K H l xs → toPs l = some ps → DpAll K H xs ps
  | [], _, _, h, e => by rw [show _ = _ from h]; cases e; exact .nil
  | d :: ds, _, _, h, e => by
    obtain ⟨x, r, rfl, h1, h2⟩ := h
    unfold toPs at e
    split at e
    · rename_i p ps e1 e2
      cases e
      exact .cons (Rep.dp d h1 e1) (Reps.dp ds h2 e2)
    · cases e
end

inductive Out where
  | next (ρ : DEnv) | ret (r : Ret) | brk (ρ : DEnv) | cnt (ρ : DEnv)
theorem Post.imp {α : Type} {r : Res α} {ok ok' : α → Pot → Prop} {ex ex' : Exn → DEnv → Pot → Prop} (h : Post r ok ex) (h1 : ∀ a θ, ok a θ → ok' a θ) (h2 : ∀ e ρ θ, ex e ρ θ → ex' e ρ θ) : Post r ok' ex' := by
  cases r with
  | ok a θ => exact h1 a θ h
  | exn e ρ θ => exact h2 e ρ θ h
  | bad => exact h
def bnd {α β : Type} (m : M α) (f : α → M β) : M β := fun ρ θ => match m ρ θ with
  | .ok a θ' => f a ρ θ'
  | .exn e ρ' θ' => .exn e ρ' θ'
  | .bad => .bad
def opt {α : Type} : Option α → M α
  | some a => ret a
  | none => bad
theorem post_bnd {α β : Type} {m : M α} {f : α → M β} {ρ : DEnv} {θ : Pot} {ok : β → Pot → Prop} {ex : Exn → DEnv → Pot → Prop} (h : Post (bnd m f ρ θ) ok ex) : Post (m ρ θ) (fun a θ' => Post (f a ρ θ') ok ex) ex := by
  unfold bnd at h
  cases e : m ρ θ with
  | ok a θ' => rw [e] at h; exact h
  | exn x ρ' θ' => rw [e] at h; exact h
  | bad => rw [e] at h; exact h
theorem post_opt {α : Type} {o : Option α} {ρ : DEnv} {θ : Pot} {ok : α → Pot → Prop} {ex : Exn → DEnv → Pot → Prop} (h : Post (opt o ρ θ) ok ex) : ∃ a, o = some a ∧ ok a θ := by
  cases o with
  | none => exact h.elim
  | some a => exact ⟨a, rfl, h⟩

theorem DicK.mono {K : PySem.W.Frag} {H H' : Hp} {ks : List (List Int)} {vs : List Dt} {e : List DE} (s : Same H H') (h : DicK K H ks vs e) : DicK K H' ks vs e := ⟨h.ks, h.at_.mono s, h.vs.mono s⟩
theorem notT_lst {xs : List V} : NotT (.lst xs) := fun ps z => nomatch z
theorem codeO_lst {c : Addr} {q : Str} : ∀ xs : List V, LamX.CodeO c q ≠ .lst xs := fun xs z => by
  unfold LamX.CodeO at z
  cases z
theorem TabOk.keep {T : List (Addr × Str)} {Hs H Hs' H' : Hp} (t : TabOk T Hs H) (k : KeepN H H' Hs Hs') : TabOk T Hs' H' := by
  intro p hp
  obtain ⟨h0, ps, h1, h2, h3⟩ := t p hp
  refine ⟨(k _ _ h1 fun xs z => nomatch z).2.trans h0, ps, (k _ _ h1 fun xs z => nomatch z).1, h2, fun pos cv hc => ?_⟩
  obtain ⟨c, e1, e2, e3⟩ := h3 pos cv hc
  exact ⟨c, e1, (k _ _ e2 codeO_lst).1, (k _ _ e2 codeO_lst).2.trans e3⟩
theorem LamsAt.mono {H H' : Hp} (s : Same H H') {cells : List (Str × Addr)} : ∀ {ks : List Nat} {vs : List V}, LamsAt H cells ks vs → LamsAt H' cells ks vs
  | [], _, h => h
  | k :: ks, _, h => by
    obtain ⟨a, r, x, e, h1, h2, h3⟩ := h
    exact ⟨a, r, x, e, h1, h2.mono s, LamsAt.mono s h3⟩
theorem Grow.refl {Hs H : Hp} (s : Same Hs H) : Grow Hs H Hs H := ⟨.refl _, .refl _, s, fun _ _ => rfl⟩
/-- a new list that is not shared -/
structure Fresh (Hs H H' : Hp) (p : Addr) (xs : List V) : Prop where
  h : Same H H'
  n : H p = none
  at_ : H' p = some (.lst xs)
  i : Same Hs H'
section
variable {K : PySem.W.Frag} {F : Fr0} {σ : L2.St} {H Hs H' Hs' : Hp} {ρ : DEnv} {θ : Pot}
theorem StOk.apH (st : StOk K F σ H Hs ρ θ) {p : Addr} (e : F.ap = some p) : H p ≠ none := by
  rw [st.pot p e]
  exact fun z => nomatch z
theorem StOk.H0H (st : StOk K F σ H Hs ρ θ) {b : Addr} (e : F.H0 b ≠ none) : H b ≠ none := by
  exact st.thr b e
theorem StOk.grow (st : StOk K F σ H Hs ρ θ) (g : Grow Hs H Hs' H') : StOk K F σ H' Hs' ρ θ where
  sub := g.i
  hap := fun p e => (g.n p (st.apH e)).trans (st.hap p e)
  pot := fun p e => g.h _ _ (st.pot p e)
  old := fun b o h1 n h2 => g.h _ _ (st.old b o h1 n h2)
  thr := fun b hb z => st.thr b hb (g.h.free z)
  tab := st.tab.keep fun b o e _ => ⟨g.h _ _ e, g.n b (by rw [e]; exact fun z => nomatch z)⟩
  frs := fun b hb => (g.n b (st.H0H hb)).trans (st.frs b hb)
  dat := fun i d e => by
    obtain ⟨v, e1, e2⟩ := st.dat i d e
    exact ⟨v, e1, Rep.mono g.s d e2⟩
  own := fun i l e => by
    obtain ⟨a, xs, e1, e2, e3, e4, e5, e6⟩ := st.own i l e
    exact ⟨a, xs, e1, g.h _ _ e2, Reps.mono g.s l e3, (g.n a (by rw [e2]; exact fun z => nomatch z)).trans e4, e5, e6⟩
  sep := st.sep
  pt := st.pt
  fx := st.fx
  opn := fun i ks e => by
    obtain ⟨a, xs, e0, e1, e2, e3, e4, e5⟩ := st.opn i ks e
    exact ⟨a, xs, e0, e1, g.h _ _ e2, e3.mono g.s, (g.n a (by rw [e2]; exact fun z => nomatch z)).trans e4, e5⟩
  len := st.len
  dic := fun i w ks vs e => by
    obtain ⟨a, xs, e1, e2, e3, e4, e5, e6⟩ := st.dic i w ks vs e
    exact ⟨a, xs, e1, g.h _ _ e2, e3.mono g.s, (g.n a (by rw [e2]; exact fun z => nomatch z)).trans e4, e5, e6⟩
  sepD := st.sepD
end

theorem ExW.anti {X : Cx} {F : Fr0} {W : WX} {Hs Hs1 : Hp} (s : Same Hs Hs1) : ∀ e ρ θ, ExW X F W Hs e ρ θ → ExW X F W Hs1 e ρ θ := fun _ _ _ h c dd σ' H' Hs' s' => h c dd σ' H' Hs' (s.trans s')
def OkD (X : Cx) (F : Fr0) (σ : L2.St) (ρ : DEnv) (Q : VK) (Hs : Hp) : Dt → Pot → Prop := fun d θ' => ∀ v H' Hs', Same Hs Hs' → StOk X.K F σ H' Hs' ρ θ' → Rep X.K Hs' d v → Q v H'
theorem OkD.anti {X : Cx} {F : Fr0} {σ : L2.St} {ρ : DEnv} {Q : VK} {Hs Hs1 : Hp} (s : Same Hs Hs1) : ∀ d θ, OkD X F σ ρ Q Hs d θ → OkD X F σ ρ Q Hs1 d θ := fun _ _ h v H' Hs' s' => h v H' Hs' (s.trans s')
def tD (X : Cx) (F : Fr0) (W : WX) (m : M Dt) : TE := fun σ H Q => ∃ ρ θ Hs, StOk X.K F σ H Hs ρ θ ∧ Post (m ρ θ) (OkD X F σ ρ Q Hs) (ExW X F W Hs)
def PD (X : Cx) (F : Fr0) (W : WX) (e : Expr) (m : M Dt) : Prop := PE X e (tD X F W m)
/-- a fresh list -/
def OkO (X : Cx) (F : Fr0) (σ : L2.St) (ρ : DEnv) (Q : VK) (Hs : Hp) : List Dt → Pot → Prop := fun l θ' => ∀ a xs H' Hs', Same Hs Hs' → StOk X.K F σ H' Hs' ρ θ' → H' a = some (.lst xs) → Reps X.K Hs' l xs → Hs' a = none → F.H0 a = none → F.ap ≠ some a →
  (∀ (i : Nat) (l : List Dt), ρ[i]? = some (some (.own l)) → σ[i]? ≠ some (some (.ref a))) → Q (.ref a) H'
theorem OkO.anti {X : Cx} {F : Fr0} {σ : L2.St} {ρ : DEnv} {Q : VK} {Hs Hs1 : Hp} (s : Same Hs Hs1) : ∀ d θ, OkO X F σ ρ Q Hs d θ → OkO X F σ ρ Q Hs1 d θ := fun _ _ h a xs H' Hs' s' => h a xs H' Hs' (s.trans s')
def tO (X : Cx) (F : Fr0) (W : WX) (m : M (List Dt)) : TE := fun σ H Q => ∃ ρ θ Hs, StOk X.K F σ H Hs ρ θ ∧ Post (m ρ θ) (OkO X F σ ρ Q Hs) (ExW X F W Hs)
def PO (X : Cx) (F : Fr0) (W : WX) (e : Expr) (m : M (List Dt)) : Prop := PE X e (tO X F W m)
/-- a fresh dict -/
def OkQ (X : Cx) (F : Fr0) (σ : L2.St) (ρ : DEnv) (Q : VK) (Hs : Hp) : List (List Int) × List Dt → Pot → Prop := fun l θ' => ∀ a e H' Hs', Same Hs Hs' → StOk X.K F σ H' Hs' ρ θ' → H' a = some (DicO a e) → DicK X.K Hs' l.1 l.2 e → Hs' a = none → F.H0 a = none → F.ap ≠ some a →
  (∀ (i : Nat) (g : Bool) (ks : List (List Int)) (vs : List Dt), ρ[i]? = some (some (.dic g ks vs)) → σ[i]? ≠ some (some (.ref a))) → Q (.ref a) H'
theorem OkQ.anti {X : Cx} {F : Fr0} {σ : L2.St} {ρ : DEnv} {Q : VK} {Hs Hs1 : Hp} (s : Same Hs Hs1) : ∀ d θ, OkQ X F σ ρ Q Hs d θ → OkQ X F σ ρ Q Hs1 d θ := fun _ _ h a xs H' Hs' s' => h a xs H' Hs' (s.trans s')
def tQ (X : Cx) (F : Fr0) (W : WX) (m : M (List (List Int) × List Dt)) : TE := fun σ H Q => ∃ ρ θ Hs, StOk X.K F σ H Hs ρ θ ∧ Post (m ρ θ) (OkQ X F σ ρ Q Hs) (ExW X F W Hs)
def PQ (X : Cx) (F : Fr0) (W : WX) (e : Expr) (m : M (List (List Int) × List Dt)) : Prop := PE X e (tQ X F W m)
theorem OkT.anti {X : Cx} {F : Fr0} {σ : L2.St} {ρ : DEnv} {Q : Bool → Hp → Prop} {Hs Hs1 : Hp} (s : Same Hs Hs1) : ∀ d θ, OkT X F σ ρ Q Hs d θ → OkT X F σ ρ Q Hs1 d θ := fun _ _ h H' Hs' s' => h H' Hs' (s.trans s')
/-- arguments: data -/
def OkA (X : Cx) (F : Fr0) (σ : L2.St) (ρ : DEnv) (Q : List V → Hp → Prop) (Hs : Hp) : List Dt → Pot → Prop := fun l θ' => ∀ vs H' Hs', Same Hs Hs' → StOk X.K F σ H' Hs' ρ θ' → Reps X.K Hs' l vs → Q vs H'
theorem OkA.anti {X : Cx} {F : Fr0} {σ : L2.St} {ρ : DEnv} {Q : List V → Hp → Prop} {Hs Hs1 : Hp} (s : Same Hs Hs1) : ∀ d θ, OkA X F σ ρ Q Hs d θ → OkA X F σ ρ Q Hs1 d θ := fun _ _ h vs H' Hs' s' => h vs H' Hs' (s.trans s')
def tA (X : Cx) (F : Fr0) (W : WX) (m : M (List Dt)) : TA := fun σ H Q => ∃ ρ θ Hs, StOk X.K F σ H Hs ρ θ ∧ Post (m ρ θ) (OkA X F σ ρ Q Hs) (ExW X F W Hs)
def PAD (X : Cx) (F : Fr0) (W : WX) (es : List Expr) (m : M (List Dt)) : Prop := PA X es (tA X F W m)
/-- statements -/
def OkS (X : Cx) (F : Fr0) (Ds : Ends) (Hs : Hp) : Out → Pot → Prop := fun o θ' => ∀ σ' H' Hs', Same Hs Hs' → match o with
  | .next ρ' => StOk X.K F σ' H' Hs' ρ' θ' → Ds.nx σ' H'
  | .brk ρ' => StOk X.K F σ' H' Hs' ρ' θ' → Ds.bk σ' H'
  | .cnt ρ' => StOk X.K F σ' H' Hs' ρ' θ' → Ds.ct σ' H'
  | .ret (.d d) => ∀ ρ' v, StOk X.K F σ' H' Hs' ρ' θ' → Rep X.K Hs' d v → Ds.rt v H'
  | .ret (.o l) => ∀ ρ' a xs, StOk X.K F σ' H' Hs' ρ' θ' → H' a = some (.lst xs) → Reps X.K Hs' l xs → Hs' a = none → F.H0 a = none → F.ap ≠ some a → Ds.rt (.ref a) H'
  | .ret (.q ks vs) => ∀ ρ' a e, StOk X.K F σ' H' Hs' ρ' θ' → H' a = some (DicO a e) → DicK X.K Hs' ks vs e → Hs' a = none → F.H0 a = none → F.ap ≠ some a → Ds.rt (.ref a) H'
theorem OkS.anti {X : Cx} {F : Fr0} {Ds : Ends} {Hs Hs1 : Hp} (s : Same Hs Hs1) : ∀ o θ, OkS X F Ds Hs o θ → OkS X F Ds Hs1 o θ := fun _ _ h σ' H' Hs' s' => h σ' H' Hs' (s.trans s')
def tS (X : Cx) (F : Fr0) (W : WX) (m : M Out) : TS := fun Ds σ H => ∃ ρ θ Hs, StOk X.K F σ H Hs ρ θ ∧ Post (m ρ θ) (OkS X F Ds Hs) (ExW X F W Hs)
def PSD (X : Cx) (F : Fr0) (W : WX) (st : Stmt) (m : M Out) : Prop := PS X st (tS X F W m)
def PSDs (X : Cx) (F : Fr0) (W : WX) (st : List Stmt) (m : M Out) : Prop := PSs X st (tS X F W m)

theorem pe_imp {X : Cx} {e : Expr} {t t' : TE} (h : PE X e t) (i : ∀ σ H Q, t' σ H Q → t σ H Q) : PE X e t' := ⟨fun pins s σ H Q I q => h.run pins s σ H Q I (i σ H Q q)⟩
theorem pt_imp {X : Cx} {e : Expr} {t t' : TT} (h : PT X e t) (i : ∀ σ H Q, t' σ H Q → t σ H Q) : PT X e t' := ⟨fun pins s σ H Q I q => h.run pins s σ H Q I (i σ H Q q)⟩
theorem pa_imp {X : Cx} {es : List Expr} {t t' : TA} (h : PA X es t) (i : ∀ σ H Q, t' σ H Q → t σ H Q) : PA X es t' := ⟨fun pos pins s σ H Q I q => h.run pos pins s σ H Q I (i σ H Q q)⟩
theorem ps_imp {X : Cx} {st : Stmt} {t t' : TS} (h : PS X st t) (i : ∀ D σ H, t' D σ H → t D σ H) : PS X st t' := ⟨fun pins s σ H D I q => h.run pins s σ H D I (i D σ H q)⟩
theorem pss_imp {X : Cx} {st : List Stmt} {t t' : TS} (h : PSs X st t) (i : ∀ D σ H, t' D σ H → t D σ H) : PSs X st t' := ⟨fun pins s σ H D I q => h.run pins s σ H D I (i D σ H q)⟩

section
variable {X : Cx} {F : Fr0} {W : WX} {σ : L2.St} {H Hs : Hp} {ρ : DEnv} {θ : Pot}
/-- one part of an expression, then the rest: from what is wanted of bnd m f -/
theorem then_D {β : Type} {m : M Dt} {f : Dt → M β} {okb : Hp → β → Pot → Prop} {Q : VK} (anti : ∀ {Hs Hs1}, Same Hs Hs1 → ∀ b θ, okb Hs b θ → okb Hs1 b θ) (st : StOk X.K F σ H Hs ρ θ) (hp : Post (bnd m f ρ θ) (okb Hs) (ExW X F W Hs))
    (k : ∀ v d H' Hs' θ', Same Hs Hs' → StOk X.K F σ H' Hs' ρ θ' → Rep X.K Hs' d v → Post (f d ρ θ') (okb Hs') (ExW X F W Hs') → Q v H') : tD X F W m σ H Q :=
  ⟨ρ, θ, Hs, st, (post_bnd hp).imp (fun d θ' q v H' Hs' s st' r => k v d H' Hs' θ' s st' r (q.imp (anti s) (ExW.anti s))) fun _ _ _ q => q⟩
theorem then_A {β : Type} {m : M (List Dt)} {f : List Dt → M β} {okb : Hp → β → Pot → Prop} {Q : List V → Hp → Prop} (anti : ∀ {Hs Hs1}, Same Hs Hs1 → ∀ b θ, okb Hs b θ → okb Hs1 b θ) (st : StOk X.K F σ H Hs ρ θ) (hp : Post (bnd m f ρ θ) (okb Hs) (ExW X F W Hs))
    (k : ∀ vs l H' Hs' θ', Same Hs Hs' → StOk X.K F σ H' Hs' ρ θ' → Reps X.K Hs' l vs → Post (f l ρ θ') (okb Hs') (ExW X F W Hs') → Q vs H') : tA X F W m σ H Q :=
  ⟨ρ, θ, Hs, st, (post_bnd hp).imp (fun d θ' q v H' Hs' s st' r => k v d H' Hs' θ' s st' r (q.imp (anti s) (ExW.anti s))) fun _ _ _ q => q⟩
theorem then_T {β : Type} {m : M Bool} {f : Bool → M β} {okb : Hp → β → Pot → Prop} {Q : Bool → Hp → Prop} (anti : ∀ {Hs Hs1}, Same Hs Hs1 → ∀ b θ, okb Hs b θ → okb Hs1 b θ) (st : StOk X.K F σ H Hs ρ θ) (hp : Post (bnd m f ρ θ) (okb Hs) (ExW X F W Hs))
    (k : ∀ c H' Hs' θ', Same Hs Hs' → StOk X.K F σ H' Hs' ρ θ' → Post (f c ρ θ') (okb Hs') (ExW X F W Hs') → Q c H') : tT X F W m σ H Q :=
  ⟨ρ, θ, Hs, st, (post_bnd hp).imp (fun d θ' q H' Hs' s st' => k d H' Hs' θ' s st' (q.imp (anti s) (ExW.anti s))) fun _ _ _ q => q⟩
theorem then_O {β : Type} {m : M (List Dt)} {f : List Dt → M β} {okb : Hp → β → Pot → Prop} {Q : VK} (anti : ∀ {Hs Hs1}, Same Hs Hs1 → ∀ b θ, okb Hs b θ → okb Hs1 b θ) (st : StOk X.K F σ H Hs ρ θ) (hp : Post (bnd m f ρ θ) (okb Hs) (ExW X F W Hs))
    (k : ∀ a xs l H' Hs' θ', Same Hs Hs' → StOk X.K F σ H' Hs' ρ θ' → H' a = some (.lst xs) → Reps X.K Hs' l xs → Hs' a = none → F.H0 a = none → F.ap ≠ some a → (∀ (i : Nat) (l : List Dt), ρ[i]? = some (some (.own l)) → σ[i]? ≠ some (some (.ref a))) → Post (f l ρ θ') (okb Hs') (ExW X F W Hs') → Q (.ref a) H') : tO X F W m σ H Q :=
  ⟨ρ, θ, Hs, st, (post_bnd hp).imp (fun d θ' q a xs H' Hs' s st' e1 e2 e3 e4 e5 e6 => k a xs d H' Hs' θ' s st' e1 e2 e3 e4 e5 e6 (q.imp (anti s) (ExW.anti s))) fun _ _ _ q => q⟩
theorem then_Q {β : Type} {m : M (List (List Int) × List Dt)} {f : List (List Int) × List Dt → M β} {okb : Hp → β → Pot → Prop} {Q : VK} (anti : ∀ {Hs Hs1}, Same Hs Hs1 → ∀ b θ, okb Hs b θ → okb Hs1 b θ) (st : StOk X.K F σ H Hs ρ θ) (hp : Post (bnd m f ρ θ) (okb Hs) (ExW X F W Hs))
    (k : ∀ a e l H' Hs' θ', Same Hs Hs' → StOk X.K F σ H' Hs' ρ θ' → H' a = some (DicO a e) → DicK X.K Hs' l.1 l.2 e → Hs' a = none → F.H0 a = none → F.ap ≠ some a → (∀ (i : Nat) (g : Bool) (ks : List (List Int)) (vs : List Dt), ρ[i]? = some (some (.dic g ks vs)) → σ[i]? ≠ some (some (.ref a))) → Post (f l ρ θ') (okb Hs') (ExW X F W Hs') → Q (.ref a) H') : tQ X F W m σ H Q :=
  ⟨ρ, θ, Hs, st, (post_bnd hp).imp (fun d θ' q a xs H' Hs' s st' e1 e2 e3 e4 e5 e6 => k a xs d H' Hs' θ' s st' e1 e2 e3 e4 e5 e6 (q.imp (anti s) (ExW.anti s))) fun _ _ _ q => q⟩
end
end Pd



namespace Pd
open PySem PySem.Spec PyProof.Rows L2
variable [Pd.LamTab]
section
variable {X : Cx} {F : Fr0} {W : WX} {a b c : Expr} {es : List Expr} {pos : Pos}

theorem fin_D {σ : L2.St} {ρ : DEnv} {Q : VK} {H Hs : Hp} {d : Dt} {θ : Pot} {v : V} (h : OkD X F σ ρ Q Hs d θ) (st : StOk X.K F σ H Hs ρ θ) (r : Rep X.K Hs d v) : Q v H := h v H Hs (Same.refl _) st r
def mVar (i : Nat) : M Dt := fun ρ θ => match ρ[i]? with
  | some (some (.dat d)) => .ok d θ
  | _ => .bad
theorem pd_var (i : Nat) {x : Str} (hN : X.N[i]? = some x := by rfl) (hv : Vis X.env.scope x := by first | exact Or.inl rfl | exact Or.inr (Or.inl rfl) | exact Or.inr (Or.inr rfl)) (hd : (x == ("__debug__" : Str)) = false := by decide)
    (hcd : (x == ("__classdict__" : Str)) = false := by decide) : PD X F W (.Name x pos) (mVar i) := by
  refine pe_imp (pe_var hN hv hd hcd) fun σ H Q h => ?_
  obtain ⟨ρ, θ, Hs, st, h⟩ := h
  unfold mVar at h
  split at h
  · rename_i d e
    obtain ⟨v, e1, e2⟩ := st.dat i d e
    exact ⟨v, e1, fin_D h st e2⟩
  · exact h.elim
theorem pd_const {v : V} {d : Dt} {e : Expr} (h : PE X e (tC v)) (r : ∀ H, Rep X.K H d v) : PD X F W e (ret d) := pe_imp h fun σ H Q ⟨ρ, θ, Hs, st, q⟩ => fin_D q st (r _)
theorem pd_int {i : Int} {j p} : PD X F W (.Constant (.int i) j p) (ret (.int i)) := pd_const pe_int fun _ => rfl
theorem pd_bl {i : Bool} {j p} : PD X F W (.Constant (.bool i) j p) (ret (.bl i)) := pd_const pe_bl fun _ => rfl
theorem pd_non {j p} : PD X F W (.Constant .none j p) (ret .non) := pd_const pe_non fun _ => rfl
theorem pd_str {s : Str} {j p} : PD X F W (.Constant (.str s) j p) (ret (.str s)) := pd_const pe_str fun _ => rfl
theorem pd_gint {x : Str} {i : Int} (hm : ∃ t, X.mg x = some (.int i t)) (hg : Gl X x := by rfl) (hd : (x == ("__debug__" : Str)) = false := by decide) : PD X F W (.Name x pos) (ret (.int i)) := by
  obtain ⟨t, e⟩ := hm
  exact pd_const (pe_glob (v := .int i) hg e ⟨t, rfl⟩ hd) fun _ => rfl
/-- a name of the module that stands for data (a written tuple) -/
theorem pd_gdat {x : Str} {a : Addr} {d : Dt} (hm : X.mg x = some (.ref a)) (hr : ∀ H, Rep X.K H d (.ref a)) (hg : Gl X x := by rfl) (hd : (x == ("__debug__" : Str)) = false := by decide) : PD X F W (.Name x pos) (ret d) :=
  pd_const (pe_glob (v := .ref a) hg hm rfl hd) hr

/-- an operator on data: where g tells a value it gives that -/
def OpD (X : Cx) (f : Value → Value → Sem Value) (g : Dt → Dt → Option Dt) : Prop := ∃ r : R2, OpR X f r ∧
  ∀ a b d, g a b = some d → ∀ (Hs H : Hp) (x y : V) (Q : VK), Same Hs H → Rep X.K Hs a x → Rep X.K Hs b y → (∀ v Hs' H', Grow Hs H Hs' H' → Rep X.K Hs' d v → Q v H') → r x y H Q
theorem OpD.or {f : Value → Value → Sem Value} {g g' : Dt → Dt → Option Dt} (h : OpD X f g) (h' : OpD X f g') : OpD X f (fun a b => (g a b).or (g' a b)) := by
  obtain ⟨r, o, k⟩ := h
  obtain ⟨r', o', k'⟩ := h'
  refine ⟨_, o.or o', fun a b d e Hs H x y Q s ra rb q => ?_⟩
  have e : (g a b).or (g' a b) = some d := e
  cases e1 : g a b with
  | some d' =>
    rw [e1] at e
    exact Or.inl (k a b d (e1.trans e) Hs H x y Q s ra rb q)
  | none =>
    rw [e1] at e
    exact Or.inr (k' a b d e Hs H x y Q s ra rb q)
def mOp (g : Dt → Dt → Option Dt) (ma mb : M Dt) : M Dt := bnd ma fun x => bnd mb fun y => opt (g x y)
theorem op_run {f : Value → Value → Sem Value} {g : Dt → Dt → Option Dt} {r : R2} {ma mb : M Dt} (k : ∀ a b d, g a b = some d → ∀ (Hs H : Hp) (x y : V) (Q : VK), Same Hs H → Rep X.K Hs a x → Rep X.K Hs b y → (∀ v Hs' H', Grow Hs H Hs' H' → Rep X.K Hs' d v → Q v H') → r x y H Q)
    {σ : L2.St} {H : Hp} {Q : VK} (h : tD X F W (mOp g ma mb) σ H Q) : tOp r (tD X F W ma) (tD X F W mb) σ H Q := by
  obtain ⟨ρ, θ, Hs, st, h⟩ := h
  refine then_D OkD.anti st h fun x dx H1 Hs1 θ1 s1 st1 r1 h => ?_
  refine then_D OkD.anti st1 h fun y dy H2 Hs2 θ2 s2 st2 r2 h => ?_
  obtain ⟨d, e, q⟩ := post_opt h
  exact k dx dy d e Hs2 H2 x y Q st2.sub (Rep.mono s2 dx r1) r2 fun v Hs' H' g1 r => q v H' Hs' g1.s (st2.grow g1) r
theorem pd_op {op : Operator} {g : Dt → Dt → Option Dt} {ma mb : M Dt} (ho : OpD X (binaryOp op) g) (ha : PD X F W a ma) (hb : PD X F W b mb) : PD X F W (.BinOp a op b pos) (mOp g ma mb) := by
  obtain ⟨r, o, k⟩ := ho
  exact pe_imp (pe_op o ha hb) fun σ H Q h => op_run (f := binaryOp op) k h
theorem pd_cmp {op : CmpOp} {g : Dt → Dt → Option Dt} {ma mb : M Dt} (ho : OpD X (compareOp op) g) (ha : PD X F W a ma) (hb : PD X F W b mb) (hm : behindInMarks op b = false := by first | exact nomark _ | rfl) : PD X F W (.Compare a [op] [b] pos) (mOp g ma mb) := by
  obtain ⟨r, o, k⟩ := ho
  exact pe_imp (pe_cmpR o ha hb hm) fun σ H Q h => op_run (f := compareOp op) k h
/-- ints in -/
def gI (c : Int → Int → Bool) (g : Int → Int → Dt) : Dt → Dt → Option Dt
  | .int i, .int j => if c i j = true then some (g i j) else none
  | _, _ => none
theorem gI_some {c : Int → Int → Bool} {g : Int → Int → Dt} {a b d : Dt} (h : gI c g a b = some d) : ∃ i j, a = .int i ∧ b = .int j ∧ c i j = true ∧ d = g i j := by
  unfold gI at h
  split at h
  · rename_i i j
    by_cases q : c i j = true
    · rw [if_pos q] at h
      exact ⟨i, j, rfl, rfl, q, (Option.some.inj h).symm⟩
    · rw [if_neg q] at h
      cases h
  · cases h
theorem opd_I {f : Value → Value → Sem Value} {C : Int → Int → Prop} {c : Int → Int → Bool} {g : Int → Int → V} {gd : Int → Int → Dt} (h : OpR X f (rI C g)) (hc : ∀ i j, c i j = true → C i j) (hr : ∀ i j H, Rep X.K H (gd i j) (g i j)) : OpD X f (gI c gd) := by
  refine ⟨_, h, fun a b d e Hs H x y Q s ra rb q => ?_⟩
  obtain ⟨i, j, rfl, rfl, e1, rfl⟩ := gI_some e
  exact ⟨i, j, ra, rb, hc i j e1, q _ Hs H (Grow.refl s) (hr i j Hs)⟩
theorem opd_I0 {f : Value → Value → Sem Value} {g : Int → Int → V} {gd : Int → Int → Dt} (h : OpR X f (rI0 g)) (hr : ∀ i j H, Rep X.K H (gd i j) (g i j)) : OpD X f (gI (fun _ _ => true) gd) := by
  refine ⟨_, h, fun a b d e Hs H x y Q s ra rb q => ?_⟩
  obtain ⟨i, j, rfl, rfl, _, rfl⟩ := gI_some e
  exact ⟨i, j, ra, rb, q _ Hs H (Grow.refl s) (hr i j Hs)⟩
/-- not too big -/
def small (i : Int) : Bool := decide (i.natAbs.log2 < 9000)
abbrev gAdd := gI (fun _ _ => true) fun i j => .int (i + j)
abbrev gSub := gI (fun _ _ => true) fun i j => .int (i - j)
abbrev gMul := gI (fun i j => small i && small j) fun i j => .int (i * j)
abbrev gDiv := gI (fun _ j => decide (j ≠ 0) && small j) fun i j => .int (i.fdiv j)
abbrev gMod := gI (fun _ j => decide (j ≠ 0)) fun i j => .int (i.fmod j)
abbrev gPow := gI (fun i j => decide (0 ≤ j) && (decide (j ≤ 10000) && decide (i.natAbs < 2 ^ 64))) fun i j => .int (i ^ j.toNat)
abbrev gLt := gI (fun _ _ => true) fun i j => .bl (decide (i < j))
abbrev gLe := gI (fun _ _ => true) fun i j => .bl (decide (i ≤ j))
abbrev gGt := gI (fun _ _ => true) fun i j => .bl (decide (j < i))
abbrev gGe := gI (fun _ _ => true) fun i j => .bl (decide (j ≤ i))
theorem od_add : OpD X (binaryOp .Add) gAdd := opd_I0 op_add fun _ _ _ => rfl
theorem od_sub : OpD X (binaryOp .Sub) gSub := opd_I0 op_sub fun _ _ _ => rfl
theorem od_mul : OpD X (binaryOp .Mult) gMul := opd_I op_mulW (fun i j h => by
  obtain ⟨h1, h2⟩ := Bool.and_eq_true_iff.mp h
  have h1 := of_decide_eq_true h1
  have h2 := of_decide_eq_true h2
  show _ + _ < 1000000
  omega) fun _ _ _ => rfl
theorem op_fdivS : OpR X (binaryOp .FloorDiv) (rI (fun _ j => j ≠ 0 ∧ j.natAbs.log2 < 9000) fun i j => .int (i.fdiv j)) := opI fun _ _ _ _ _ _ _ hc q => floordiv_int hc.1 q (.inl (PyProof.noPylong_of_log2 hc.2))
theorem od_div : OpD X (binaryOp .FloorDiv) gDiv := opd_I op_fdivS (fun i j h => by
  obtain ⟨h1, h2⟩ := Bool.and_eq_true_iff.mp h
  exact ⟨of_decide_eq_true h1, of_decide_eq_true h2⟩) fun _ _ _ => rfl
theorem od_mod : OpD X (binaryOp .Mod) gMod := opd_I op_modN (fun i j h => of_decide_eq_true h) fun _ _ _ => rfl
theorem od_pow : OpD X (binaryOp .Pow) gPow := opd_I op_pow (fun i j h => by
  obtain ⟨h1, h2⟩ := Bool.and_eq_true_iff.mp h
  obtain ⟨h2, h3⟩ := Bool.and_eq_true_iff.mp h2
  have h2 := of_decide_eq_true h2
  exact ⟨of_decide_eq_true h1, by omega, of_decide_eq_true h3⟩) fun _ _ _ => rfl
theorem od_lt : OpD X (compareOp .Lt) gLt := opd_I0 op_lt fun _ _ _ => rfl
theorem od_le : OpD X (compareOp .LtE) gLe := opd_I0 op_le fun _ _ _ => rfl
theorem od_gt : OpD X (compareOp .Gt) gGt := opd_I0 op_gt fun _ _ _ => rfl
theorem od_ge : OpD X (compareOp .GtE) gGe := opd_I0 op_ge fun _ _ _ => rfl
/-- == of data -/
def deq (a b : Dt) : Option Bool := match toP a, toP b with
  | some p, some q => if (SeqAt.shaped p && SeqAt.shaped q) = true then some (PyData.eqv p q) else none
  | _, _ => none
theorem deq_some {a b : Dt} {k : Bool} (h : deq a b = some k) : ∃ p q, toP a = some p ∧ toP b = some q ∧ SeqAt.shaped p = true ∧ SeqAt.shaped q = true ∧ k = PyData.eqv p q := by
  unfold deq at h
  split at h
  · rename_i p q e1 e2
    by_cases z : (SeqAt.shaped p && SeqAt.shaped q) = true
    · rw [if_pos z] at h
      obtain ⟨z1, z2⟩ := Bool.and_eq_true_iff.mp z
      exact ⟨p, q, e1, e2, z1, z2, (Option.some.inj h).symm⟩
    · rw [if_neg z] at h
      cases h
  · cases h
def gEqS : Dt → Dt → Option Dt
  | .str x, .str y => some (.bl (decide (x = y)))
  | _, _ => none
def gNeS : Dt → Dt → Option Dt
  | .str x, .str y => some (.bl (!decide (x = y)))
  | _, _ => none
def gEq (a b : Dt) : Option Dt := (gEqS a b).or ((deq a b).map Dt.bl)
def gNe (a b : Dt) : Option Dt := (gNeS a b).or ((deq a b).map fun k => Dt.bl (!k))
theorem od_eqS : OpD X (compareOp .Eq) gEqS := by
  refine ⟨_, op_eq, fun a b d e Hs H x y Q s ra rb q => ?_⟩
  unfold gEqS at e
  split at e
  · rename_i i j
    cases e
    rw [show x = _ from ra, show y = _ from rb]
    exact ⟨rfl, q _ Hs H (Grow.refl s) (show V.bl _ = V.bl _ by simp)⟩
  · cases e
theorem od_neS : OpD X (compareOp .NotEq) gNeS := by
  refine ⟨_, op_ne, fun a b d e Hs H x y Q s ra rb q => ?_⟩
  unfold gNeS at e
  split at e
  · rename_i i j
    cases e
    rw [show x = _ from ra, show y = _ from rb]
    exact ⟨rfl, q _ Hs H (Grow.refl s) (show V.bl _ = V.bl _ by simp)⟩
  · cases e
theorem od_eqD {k : Nat} (hr : Room k X.A) : OpD X (compareOp .Eq) (fun a b => (deq a b).map Dt.bl) := by
  refine ⟨_, op_eqD hr.units, fun a b d e Hs H x y Q s ra rb q => ?_⟩
  obtain ⟨k, e0, rfl⟩ := Option.map_eq_some_iff.mp (show (deq a b).map Dt.bl = _ from e)
  obtain ⟨p, p', e1, e2, s1, s2, rfl⟩ := deq_some e0
  exact ⟨p, p', Rep.dp a (Rep.mono s a ra) e1, Rep.dp b (Rep.mono s b rb) e2, s1, s2, q _ Hs H (Grow.refl s) rfl⟩
theorem od_neD {k : Nat} (hr : Room k X.A) : OpD X (compareOp .NotEq) (fun a b => (deq a b).map fun k => Dt.bl (!k)) := by
  refine ⟨_, op_neD hr.units, fun a b d e Hs H x y Q s ra rb q => ?_⟩
  obtain ⟨k, e0, rfl⟩ := Option.map_eq_some_iff.mp (show (deq a b).map (fun k => Dt.bl (!k)) = _ from e)
  obtain ⟨p, p', e1, e2, s1, s2, rfl⟩ := deq_some e0
  exact ⟨p, p', Rep.dp a (Rep.mono s a ra) e1, Rep.dp b (Rep.mono s b rb) e2, s1, s2, q _ Hs H (Grow.refl s) rfl⟩
theorem od_eq {k : Nat} (hr : Room k X.A) : OpD X (compareOp .Eq) gEq := od_eqS.or (od_eqD hr)
theorem od_ne {k : Nat} (hr : Room k X.A) : OpD X (compareOp .NotEq) gNe := od_neS.or (od_neD hr)
/-- is None -/
def isNon : Dt → Option Bool
  | .non => some true
  | .raw _ => none
  | .cls _ _ => none
  | _ => some false
def gIs (a b : Dt) : Option Dt := match b with
  | .non => (isNon a).map Dt.bl
  | _ => none
def gIsNot (a b : Dt) : Option Dt := match b with
  | .non => (isNon a).map fun k => Dt.bl (!k)
  | _ => none
theorem isNon_ok {K : PySem.W.Frag} {H : Hp} {a : Dt} {x : V} {k : Bool} (h : isNon a = some k) (r : Rep K H a x) : k = decide (x = .non) := by
  cases a with
  | non => cases h; rw [show x = _ from r]; rfl
  | bl b => cases h; rw [show x = _ from r]; rfl
  | int b => cases h; rw [show x = _ from r]; rfl
  | str b => cases h; rw [show x = _ from r]; rfl
  | lst l => cases h; obtain ⟨p, xs, rfl, _⟩ := r; rfl
  | tup l => cases h; obtain ⟨p, xs, rfl, _⟩ := r; rfl
  | raw v => cases h
  | cls k t => cases h
  | dct ks vs => cases h; obtain ⟨p, e, rfl, _⟩ := r; rfl
theorem od_is : OpD X (compareOp .Is) gIs := by
  refine ⟨_, op_isN, fun a b d e Hs H x y Q s ra rb q => ?_⟩
  cases b <;> try (cases e)
  obtain ⟨k, e1, rfl⟩ := Option.map_eq_some_iff.mp (show (isNon a).map Dt.bl = _ from e)
  refine ⟨rb, ?_⟩
  rw [← isNon_ok e1 ra]
  exact q _ Hs H (Grow.refl s) rfl
theorem od_isnot : OpD X (compareOp .IsNot) gIsNot := by
  refine ⟨_, op_notN, fun a b d e Hs H x y Q s ra rb q => ?_⟩
  cases b <;> try (cases e)
  obtain ⟨k, e1, rfl⟩ := Option.map_eq_some_iff.mp (show (isNon a).map (fun k => Dt.bl (!k)) = _ from e)
  refine ⟨rb, ?_⟩
  rw [← isNon_ok e1 ra]
  exact q _ Hs H (Grow.refl s) rfl
/-- -x -/
def mNeg (ma : M Dt) : M Dt := bnd ma fun x => match x with
  | .int i => ret (.int (-i))
  | _ => bad
theorem pd_neg {ma : M Dt} (ha : PD X F W a ma) : PD X F W (.UnaryOp .USub a pos) (mNeg ma) := by
  refine pe_imp (pe_un un_neg ha) fun σ H Q h => ?_
  obtain ⟨ρ, θ, Hs, st, h⟩ := h
  refine then_D OkD.anti st h fun x dx H1 Hs1 θ1 s1 st1 r1 h => ?_
  cases dx <;> try exact h.elim
  exact ⟨_, r1, fin_D h st1 rfl⟩

theorem fin_T {σ : L2.St} {ρ : DEnv} {Q : Bool → Hp → Prop} {H Hs : Hp} {d : Bool} {θ : Pot} (h : OkT X F σ ρ Q Hs d θ) (st : StOk X.K F σ H Hs ρ θ) : Q d H := h H Hs (Same.refl _) st
def mBool (ma : M Dt) : M Bool := bnd ma fun x => match x with
  | .bl k => ret k
  | _ => bad
theorem bool_run {ma : M Dt} {σ : L2.St} {H : Hp} {Q : Bool → Hp → Prop} (h : tT X F W (mBool ma) σ H Q) : tD X F W ma σ H fun x H1 => ∃ c, x = .bl c ∧ Q c H1 := by
  obtain ⟨ρ, θ, Hs, st, h⟩ := h
  refine then_D OkT.anti st h fun x dx H1 Hs1 θ1 s1 st1 r1 h => ?_
  cases dx <;> try exact h.elim
  exact ⟨_, r1, fin_T h st1⟩
/-- an expression whose value is a bool: a name, a call, a subscript -/
theorem pt_bool {ma : M Dt} (ha : PD X F W a ma) (he : ∀ whole, isTrue a X.env whole = (do let v ← whole; standAt a.pos; holding [v] (truthy v)) := by intro _; rfl) : PTD X F W a (mBool ma) := pt_imp (pt_val ha he) fun σ H Q h => bool_run h
theorem pt_cmp1 {op : CmpOp} {g : Dt → Dt → Option Dt} {ma mb : M Dt} (ho : OpD X (compareOp op) g) (ha : PD X F W a ma) (hb : PD X F W b mb) (hm : behindInMarks op b = false := by first | exact nomark _ | rfl) : PTD X F W (.Compare a [op] [b] pos) (mBool (mOp g ma mb)) := by
  obtain ⟨r, o, k⟩ := ho
  refine pt_imp (pt_cmpR o ha hb hm) fun σ H Q h => ?_
  exact op_run (f := compareOp op) (F := F) (W := W) k (bool_run h)
def mNot (ma : M Bool) : M Bool := bnd ma fun k => ret (!k)
theorem ptd_not {ma : M Bool} (ha : PTD X F W a ma) : PTD X F W (.UnaryOp .Not a pos) (mNot ma) := by
  refine pt_imp (pt_not ha) fun σ H Q h => ?_
  obtain ⟨ρ, θ, Hs, st, h⟩ := h
  exact then_T OkT.anti st h fun k H1 Hs1 θ1 s1 st1 h => fin_T h st1
theorem pw_imp {e : Expr} {t t' : TT} (h : PW X e t) (i : ∀ σ H Q, t' σ H Q → t σ H Q) : PW X e t' := ⟨fun wh pins s σ H Q I q => h.run wh pins s σ H Q I (i σ H Q q)⟩
def mAnd (ma mb : M Bool) : M Bool := bnd ma fun k => if k = true then mb else ret false
def mOr (ma mb : M Bool) : M Bool := bnd ma fun k => if k = true then ret true else mb
theorem pw_a1 {ma : M Bool} (ha : PTD X F W a ma) : PWD X F W (.BoolOp .And [a] pos) ma := pw_and1 ha
theorem pw_o1 {ma : M Bool} (ha : PTD X F W a ma) : PWD X F W (.BoolOp .Or [a] pos) ma := pw_or1 ha
theorem pw_a {ma mb : M Bool} (ha : PTD X F W a ma) (hb : PWD X F W (.BoolOp .And (b :: es) pos) mb) : PWD X F W (.BoolOp .And (a :: b :: es) pos) (mAnd ma mb) := by
  refine pw_imp (pw_and ha hb) fun σ H Q h => ?_
  obtain ⟨ρ, θ, Hs, st, h⟩ := h
  refine then_T OkT.anti st h fun k H1 Hs1 θ1 s1 st1 h => ?_
  cases k with
  | true => exact ⟨ρ, θ1, Hs1, st1, h⟩
  | false => exact fin_T h st1
theorem pw_o {ma mb : M Bool} (ha : PTD X F W a ma) (hb : PWD X F W (.BoolOp .Or (b :: es) pos) mb) : PWD X F W (.BoolOp .Or (a :: b :: es) pos) (mOr ma mb) := by
  refine pw_imp (pw_or ha hb) fun σ H Q h => ?_
  obtain ⟨ρ, θ, Hs, st, h⟩ := h
  refine then_T OkT.anti st h fun k H1 Hs1 θ1 s1 st1 h => ?_
  cases k with
  | false => exact ⟨ρ, θ1, Hs1, st1, h⟩
  | true => exact fin_T h st1
/-- as values, all bools -/
def mAndV (ma mb : M Dt) : M Dt := bnd ma fun x => match x with
  | .bl true => mb
  | .bl false => ret (.bl false)
  | _ => bad
def mOrV (ma mb : M Dt) : M Dt := bnd ma fun x => match x with
  | .bl false => mb
  | .bl true => ret (.bl true)
  | _ => bad
theorem pd_one {op} {ma : M Dt} (ha : PD X F W a ma) : PD X F W (.BoolOp op [a] pos) ma := pe_one ha
theorem pd_and {ma mb : M Dt} (ha : PD X F W a ma) (hb : PD X F W (.BoolOp .And (b :: es) pos) mb) : PD X F W (.BoolOp .And (a :: b :: es) pos) (mAndV ma mb) := by
  refine pe_imp (pe_and ha hb) fun σ H Q h => ?_
  obtain ⟨ρ, θ, Hs, st, h⟩ := h
  refine then_D OkD.anti st h fun x dx H1 Hs1 θ1 s1 st1 r1 h => ?_
  cases dx with
  | bl k =>
    refine ⟨k, r1, ?_⟩
    cases k with
    | true => exact ⟨ρ, θ1, Hs1, st1, h⟩
    | false => exact fin_D h st1 rfl
  | _ => exact h.elim
def mNotV (ma : M Dt) : M Dt := bnd ma fun x => match x with
  | .bl k => ret (.bl (!k))
  | _ => bad
theorem pd_not {ma : M Dt} (ha : PD X F W a ma) : PD X F W (.UnaryOp .Not a pos) (mNotV ma) := by
  refine pe_imp (pe_not ha) fun σ H Q h => ?_
  obtain ⟨ρ, θ, Hs, st, h⟩ := h
  refine then_D OkD.anti st h fun x dx H1 Hs1 θ1 s1 st1 r1 h => ?_
  cases dx <;> try exact h.elim
  exact ⟨_, r1, fin_D h st1 rfl⟩
def mIte {α : Type} (mc : M Bool) (ma mb : M α) : M α := bnd mc fun k => if k = true then ma else mb
theorem pd_ife {mc : M Bool} {ma mb : M Dt} (hc : PTD X F W c mc) (ha : PD X F W a ma) (hb : PD X F W b mb) : PD X F W (.IfExp c a b pos) (mIte mc ma mb) := by
  refine pe_imp (pe_ifExp hc ha hb) fun σ H Q h => ?_
  obtain ⟨ρ, θ, Hs, st, h⟩ := h
  refine then_T OkD.anti st h fun k H1 Hs1 θ1 s1 st1 h => ?_
  cases k with
  | true => exact ⟨ρ, θ1, Hs1, st1, h⟩
  | false => exact ⟨ρ, θ1, Hs1, st1, h⟩
/-- chains of two, three -/
def mChain (g g' : Dt → Dt → Option Dt) (ma mb mc : M Dt) : M Dt := bnd ma fun x => bnd mb fun y => bnd (opt (g x y)) fun z => match z with
  | .bl true => bnd mc fun w => opt (g' y w)
  | .bl false => ret (.bl false)
  | _ => bad
def mNil : M (List Dt) := ret []
def mCons (ma : M Dt) (mr : M (List Dt)) : M (List Dt) := bnd ma fun x => bnd mr fun l => ret (x :: l)
theorem pad_nil : PAD X F W [] mNil := by
  refine pa_imp pa_nil fun σ H Q h => ?_
  obtain ⟨ρ, θ, Hs, st, h⟩ := h
  exact h [] H Hs (Same.refl _) st rfl
theorem pad_cons {ma : M Dt} {mr : M (List Dt)} (ha : PD X F W a ma) (hr : PAD X F W es mr) (hs : starEach (a :: es) X.env = (false, eval a X.env) :: starEach es X.env := by rfl) : PAD X F W (a :: es) (mCons ma mr) := by
  refine pa_imp (pa_cons ha hr hs) fun σ H Q h => ?_
  obtain ⟨ρ, θ, Hs, st, h⟩ := h
  refine then_D OkA.anti st h fun x dx H1 Hs1 θ1 s1 st1 r1 h => ?_
  refine then_A OkA.anti st1 h fun xs l H2 Hs2 θ2 s2 st2 r2 h => ?_
  exact h (x :: xs) H2 Hs2 (Same.refl _) st2 (Reps.cons (Rep.mono s2 dx r1) r2)
/-- how many -/
def Len (m : M (List Dt)) (n : Nat) : Prop := ∀ ρ θ l θ', m ρ θ = .ok l θ' → l.length = n
theorem len_nil : Len mNil 0 := fun ρ θ l θ' e => by cases e; rfl
theorem bnd_ok {α β : Type} {m : M α} {f : α → M β} {ρ : DEnv} {θ θ' : Pot} {b : β} (h : bnd m f ρ θ = .ok b θ') : ∃ a θ1, m ρ θ = .ok a θ1 ∧ f a ρ θ1 = .ok b θ' := by
  unfold bnd at h
  cases e : m ρ θ with
  | ok a θ1 => rw [e] at h; exact ⟨a, θ1, rfl, h⟩
  | exn x ρ' θ' => rw [e] at h; cases h
  | bad => rw [e] at h; cases h
theorem len_cons {ma : M Dt} {mr : M (List Dt)} {n : Nat} (h : Len mr n) : Len (mCons ma mr) (n + 1) := fun ρ θ l θ' e => by
  obtain ⟨d, θ1, _, e2⟩ := bnd_ok e
  obtain ⟨l2, θ2, e3, e4⟩ := bnd_ok e2
  cases e4
  rw [List.length_cons, h ρ θ1 l2 _ e3]
theorem Post.both {α : Type} {r : Res α} {ok : α → Pot → Prop} {ex : Exn → DEnv → Pot → Prop} (h : Post r ok ex) : Post r (fun a θ => r = .ok a θ ∧ ok a θ) ex := by
  cases r with
  | ok a θ => exact ⟨rfl, h⟩
  | exn e ρ θ => exact h
  | bad => exact h
def mTup (ml : M (List Dt)) : M Dt := bnd ml fun l => ret (.tup l)
theorem pd_tup {ml : M (List Dt)} {n : Nat} {x1} (h : PAD X F W es ml) (hl : Len ml n) (hn : n ≤ sizeLine := by decide) : PD X F W (.Tuple es x1 pos) (mTup ml) := by
  refine pe_imp (pe_tup h) fun σ H Q q => ?_
  obtain ⟨ρ, θ, Hs, st, q⟩ := q
  refine ⟨ρ, θ, Hs, st, (post_bnd q).both.imp (fun l θ' ⟨e, k⟩ xs H' Hs' s st' r => ?_) fun _ _ _ z => z⟩
  refine ⟨by rw [← r.length, hl _ _ _ _ e]; exact hn, fun p np => ?_⟩
  have g := Grow.new (o := .tup xs) st'.sub np
  exact k (.ref p) _ _ (s.trans g.s) (st'.grow g) ⟨p, xs, rfl, SqT.of upd_same, Reps.mono g.s l r⟩
theorem own_ne {σ : L2.St} {ρ : DEnv} {H Hs : Hp} {θ : Pot} {p : Addr} (st : StOk X.K F σ H Hs ρ θ) (np : H p = none) : ∀ (i : Nat) (l : List Dt), ρ[i]? = some (some (.own l)) → σ[i]? ≠ some (some (.ref p)) := fun i l e z => by
  obtain ⟨a, xs, e1, e2, _⟩ := st.own i l e
  rw [z] at e1
  cases e1
  rw [np] at e2
  cases e2
theorem h0_none {σ : L2.St} {ρ : DEnv} {H Hs : Hp} {θ : Pot} {p : Addr} (st : StOk X.K F σ H Hs ρ θ) (np : H p = none) : F.H0 p = none := by
  cases e : F.H0 p with
  | none => rfl
  | some o => exact absurd np (st.H0H (by rw [e]; exact fun z => nomatch z))
theorem ap_ne {σ : L2.St} {ρ : DEnv} {H Hs : Hp} {θ : Pot} {p : Addr} (st : StOk X.K F σ H Hs ρ θ) (np : H p = none) : F.ap ≠ some p := fun e => st.apH e np
/-- the state with a fresh list beside it -/
theorem st_new {σ : L2.St} {ρ : DEnv} {H Hs : Hp} {θ : Pot} {p : Addr} {o : HO} (st : StOk X.K F σ H Hs ρ θ) (np : H p = none) : StOk X.K F σ (upd H p o) Hs ρ θ where
  sub := st.sub.trans (same_upd np)
  hap := st.hap
  pot := fun q e => same_upd np _ _ (st.pot q e)
  old := fun b u h1 n h2 => same_upd np _ _ (st.old b u h1 n h2)
  thr := fun b hb z => st.thr b hb ((same_upd np).free z)
  tab := st.tab.keep fun b u e _ => ⟨same_upd np _ _ e, rfl⟩
  frs := st.frs
  dat := st.dat
  own := fun i l e => by
    obtain ⟨a, xs, e1, e2, e3, e4, e5, e6⟩ := st.own i l e
    exact ⟨a, xs, e1, same_upd np _ _ e2, e3, e4, e5, e6⟩
  sep := st.sep
  pt := st.pt
  fx := st.fx
  opn := fun i ks e => by
    obtain ⟨a, xs, e0, e1, e2, e3⟩ := st.opn i ks e
    exact ⟨a, xs, e0, e1, same_upd np _ _ e2, e3⟩
  len := st.len
  dic := fun i g ks vs e => by
    obtain ⟨a, xs, e1, e2, e3⟩ := st.dic i g ks vs e
    exact ⟨a, xs, e1, same_upd np _ _ e2, e3⟩
  sepD := st.sepD
theorem po_lst {ml : M (List Dt)} {n : Nat} (h : PAD X F W es ml) (hl : Len ml n) (hn : n ≤ sizeLine := by decide) : PO X F W (.List es pos) ml := by
  refine pe_imp (pe_lst h) fun σ H Q q => ?_
  obtain ⟨ρ, θ, Hs, st, q⟩ := q
  refine ⟨ρ, θ, Hs, st, q.both.imp (fun l θ' ⟨e, k⟩ xs H' Hs' s st' r => ?_) fun _ _ _ z => z⟩
  refine ⟨by rw [← r.length, hl _ _ _ _ e]; exact hn, fun p np => ?_⟩
  exact k p xs _ Hs' s (st_new st' np) upd_same r (st'.sub.free np) (h0_none st' np) (ap_ne st' np) (own_ne st' np)
/-- a fresh list becomes data -/
theorem st_freeze {σ : L2.St} {ρ : DEnv} {H Hs : Hp} {θ : Pot} {p : Addr} {xs : List V} (st : StOk X.K F σ H Hs ρ θ) (hp : H p = some (.lst xs)) (n1 : Hs p = none) (n2 : F.H0 p = none) (n3 : F.ap ≠ some p)
    (n4 : ∀ (i : Nat) (l : List Dt), ρ[i]? = some (some (.own l)) → σ[i]? ≠ some (some (.ref p))) : StOk X.K F σ H (upd Hs p (.lst xs)) ρ θ where
  sub := fun b u e => by
    by_cases z : b = p
    · subst z
      rw [upd_same] at e
      cases e
      exact hp
    · rw [upd_ne z] at e
      exact st.sub _ _ e
  hap := fun q e => by
    have z : q ≠ p := fun z => n3 (by rw [← z]; exact e)
    rw [upd_ne z]
    exact st.hap q e
  pot := st.pot
  old := st.old
  thr := st.thr
  tab := st.tab.keep fun b u e n => ⟨e, upd_ne fun z => by rw [z, hp] at e; cases e; exact n xs rfl⟩
  frs := fun b hb => by
    have z : b ≠ p := fun z => hb (by rw [z]; exact n2)
    rw [upd_ne z]
    exact st.frs b hb
  dat := fun i d e => by
    obtain ⟨v, e1, e2⟩ := st.dat i d e
    exact ⟨v, e1, Rep.mono (same_upd n1) d e2⟩
  own := fun i l e => by
    obtain ⟨a, ys, e1, e2, e3, e4, e5, e6⟩ := st.own i l e
    have z : a ≠ p := fun z => n4 i l e (by rw [← z]; exact e1)
    exact ⟨a, ys, e1, e2, Reps.mono (same_upd n1) l e3, by rw [upd_ne z]; exact e4, e5, e6⟩
  sep := st.sep
  pt := st.pt
  fx := st.fx
  opn := fun i ks e => by
    obtain ⟨a, ys, e0, e1, e2, e3, e4, e5, e6⟩ := st.opn i ks e
    have z : a ≠ p := fun z => by rw [z, n2] at e5; cases e5
    exact ⟨a, ys, e0, e1, e2, e3.mono (same_upd n1), by rw [upd_ne z]; exact e4, e5, e6⟩
  len := st.len
  dic := fun i g ks vs e => by
    obtain ⟨a, ys, e1, e2, e3, e4, e5⟩ := st.dic i g ks vs e
    have z : a ≠ p := fun z => by rw [z, hp] at e2; exact dicO_lst _ (Option.some.inj e2).symm
    exact ⟨a, ys, e1, e2, e3.mono (same_upd n1), by rw [upd_ne z]; exact e4, e5⟩
  sepD := st.sepD
def mLst (ml : M (List Dt)) : M Dt := bnd ml fun l => ret (.lst l)
theorem pd_frz {ml : M (List Dt)} (h : PO X F W a ml) : PD X F W a (mLst ml) := by
  refine pe_imp h fun σ H Q q => ?_
  obtain ⟨ρ, θ, Hs, st, q⟩ := q
  refine then_O OkD.anti st q fun p xs l H1 Hs1 θ1 s1 st1 e1 e2 e3 e4 e5 e6 h => ?_
  exact h (.ref p) H1 _ (same_upd e3) (st_freeze st1 e1 e3 e4 e5 e6) ⟨p, xs, rfl, SqL.of upd_same, Reps.mono (same_upd e3) l e2⟩
end
end Pd



namespace Pd
open PySem PySem.Spec PyProof.Rows L2
variable [Pd.LamTab]
theorem set_at_q {ρ : DEnv} {i j : Nat} {x : Ent} {g : Bool} {ks : List (List Int)} {vs : List Dt} (hx : ∀ g ks vs, x ≠ .dic g ks vs) (e : (ρ.set i (some x))[j]? = some (some (.dic g ks vs))) : i ≠ j ∧ ρ[j]? = some (some (.dic g ks vs)) := by
  by_cases z : i = j
  · subst z
    rw [List.getElem?_set] at e
    by_cases q : i < ρ.length
    · simp only [q, if_true] at e
      cases e
      exact absurd rfl (hx g ks vs)
    · simp only [q, if_false, if_true] at e
      cases e
  · rw [List.getElem?_set_ne z] at e
    exact ⟨z, e⟩
section
variable {K : PySem.W.Frag} {F : Fr0} {σ : L2.St} {H Hs : Hp} {ρ : DEnv} {θ : Pot}
theorem set_at_ne {ρ : DEnv} {i j : Nat} {x : Ent} {ks : List Nat} (hx : ∀ ks, x ≠ .opn ks) (e : (ρ.set i (some x))[j]? = some (some (.opn ks))) : i ≠ j ∧ ρ[j]? = some (some (.opn ks)) := by
  by_cases z : i = j
  · subst z
    rw [List.getElem?_set] at e
    by_cases q : i < ρ.length
    · simp only [q, if_true] at e
      cases e
      exact absurd rfl (hx ks)
    · simp only [q, if_false, if_true] at e
      cases e
  · rw [List.getElem?_set_ne z] at e
    exact ⟨z, e⟩
theorem st_set (st : StOk K F σ H Hs ρ θ) (i : Nat) {v : V} {d : Dt} (r : Rep K Hs d v) : StOk K F (σ.set i (some v)) H Hs (ρ.set i (some (.dat d))) θ where
  sub := st.sub
  hap := st.hap
  pot := st.pot
  old := st.old
  thr := st.thr
  tab := st.tab
  frs := st.frs
  dat := fun j d' e => by
    by_cases z : i = j
    · subst z
      rw [List.getElem?_set] at e
      rw [List.getElem?_set, ← st.len]
      by_cases q : i < ρ.length
      · simp only [q, if_true] at e ⊢
        cases e
        exact ⟨v, rfl, r⟩
      · simp only [q, if_false, if_true] at e
        cases e
    · rw [List.getElem?_set_ne z] at e
      rw [List.getElem?_set_ne z]
      exact st.dat j d' e
  own := fun j l e => by
    by_cases z : i = j
    · subst z
      rw [List.getElem?_set] at e
      by_cases q : i < ρ.length
      · simp only [q, if_true] at e
        cases e
      · simp only [q, if_false, if_true] at e
        cases e
    · rw [List.getElem?_set_ne z] at e
      rw [List.getElem?_set_ne z]
      exact st.own j l e
  sep := fun j k l m a e1 e2 e3 e4 => by
    have nj : ∀ {j l}, (ρ.set i (some (.dat d)))[j]? = some (some (.own l)) → i ≠ j := fun {j l} e z => by
      subst z
      rw [List.getElem?_set] at e
      by_cases q : i < ρ.length
      · simp only [q, if_true] at e
        cases e
      · simp only [q, if_false, if_true] at e
        cases e
    have n1 := nj e1
    have n2 := nj e2
    rw [List.getElem?_set_ne n1] at e1 e3
    rw [List.getElem?_set_ne n2] at e2 e4
    exact st.sep j k l m a e1 e2 e3 e4
  pt := fun j e => by
    by_cases z : i = j
    · subst z
      rw [List.getElem?_set] at e
      by_cases q : i < ρ.length
      · simp only [q, if_true] at e
        cases e
      · simp only [q, if_false, if_true] at e
        cases e
    · rw [List.getElem?_set_ne z] at e
      rw [List.getElem?_set_ne z]
      exact st.pt j e
  fx := fun j n e => by
    by_cases z : i = j
    · subst z
      rw [List.getElem?_set] at e
      by_cases q : i < ρ.length
      · simp only [q, if_true] at e
        cases e
      · simp only [q, if_false, if_true] at e
        cases e
    · rw [List.getElem?_set_ne z] at e
      rw [List.getElem?_set_ne z]
      exact st.fx j n e
  opn := fun j ks e => by
    obtain ⟨z, e⟩ := set_at_ne (by intro ks z; cases z) e
    rw [List.getElem?_set_ne z]
    exact st.opn j ks e
  len := by rw [List.length_set, List.length_set]; exact st.len
  dic := fun j g ks vs e => by
    obtain ⟨z, e⟩ := set_at_q (by intro g ks vs z; cases z) e
    rw [List.getElem?_set_ne z]
    exact st.dic j g ks vs e
  sepD := fun j k g g' ks ks' vs vs' b q1 q2 q3 q4 => by
    obtain ⟨z1, q1⟩ := set_at_q (by intro g ks vs z; cases z) q1
    obtain ⟨z2, q2⟩ := set_at_q (by intro g ks vs z; cases z) q2
    rw [List.getElem?_set_ne z1] at q3
    rw [List.getElem?_set_ne z2] at q4
    exact st.sepD j k g g' ks ks' vs vs' b q1 q2 q3 q4
theorem st_setO (st : StOk K F σ H Hs ρ θ) (i : Nat) {a : Addr} {xs : List V} {m : List Dt} (e1 : H a = some (.lst xs)) (e2 : Reps K Hs m xs) (e3 : Hs a = none) (e4 : F.H0 a = none) (e5 : F.ap ≠ some a)
    (e6 : ∀ (j : Nat) (l : List Dt), j ≠ i → ρ[j]? = some (some (.own l)) → σ[j]? ≠ some (some (.ref a))) : StOk K F (σ.set i (some (.ref a))) H Hs (ρ.set i (some (.own m))) θ where
  sub := st.sub
  hap := st.hap
  pot := st.pot
  old := st.old
  thr := st.thr
  tab := st.tab
  frs := st.frs
  dat := fun j d' e => by
    by_cases z : i = j
    · subst z
      rw [List.getElem?_set] at e
      by_cases q : i < ρ.length
      · simp only [q, if_true] at e
        cases e
      · simp only [q, if_false, if_true] at e
        cases e
    · rw [List.getElem?_set_ne z] at e
      rw [List.getElem?_set_ne z]
      exact st.dat j d' e
  own := fun j l e => by
    by_cases z : i = j
    · subst z
      rw [List.getElem?_set] at e
      rw [List.getElem?_set, ← st.len]
      by_cases q : i < ρ.length
      · simp only [q, if_true] at e ⊢
        cases e
        exact ⟨a, xs, rfl, e1, e2, e3, e4, e5⟩
      · simp only [q, if_false, if_true] at e
        cases e
    · rw [List.getElem?_set_ne z] at e
      rw [List.getElem?_set_ne z]
      exact st.own j l e
  sep := fun j k l m' b q1 q2 q3 q4 => by
    by_cases z1 : i = j
    · by_cases z2 : i = k
      · exact z1.symm.trans z2
      · subst z1
        rw [List.getElem?_set_ne z2] at q2 q4
        rw [List.getElem?_set, ← st.len] at q3
        by_cases q : i < ρ.length
        · simp only [q, if_true] at q3
          cases q3
          exact absurd q4 (e6 k m' (fun z => z2 z.symm) q2)
        · simp only [q, if_false, if_true] at q3
          cases q3
    · by_cases z2 : i = k
      · subst z2
        rw [List.getElem?_set_ne z1] at q1 q3
        rw [List.getElem?_set, ← st.len] at q4
        by_cases q : i < ρ.length
        · simp only [q, if_true] at q4
          cases q4
          exact absurd q3 (e6 j l (fun z => z1 z.symm) q1)
        · simp only [q, if_false, if_true] at q4
          cases q4
      · rw [List.getElem?_set_ne z1] at q1 q3
        rw [List.getElem?_set_ne z2] at q2 q4
        exact st.sep j k l m' b q1 q2 q3 q4
  pt := fun j e => by
    by_cases z : i = j
    · subst z
      rw [List.getElem?_set] at e
      by_cases q : i < ρ.length
      · simp only [q, if_true] at e
        cases e
      · simp only [q, if_false, if_true] at e
        cases e
    · rw [List.getElem?_set_ne z] at e
      rw [List.getElem?_set_ne z]
      exact st.pt j e
  fx := fun j n e => by
    by_cases z : i = j
    · subst z
      rw [List.getElem?_set] at e
      by_cases q : i < ρ.length
      · simp only [q, if_true] at e
        cases e
      · simp only [q, if_false, if_true] at e
        cases e
    · rw [List.getElem?_set_ne z] at e
      rw [List.getElem?_set_ne z]
      exact st.fx j n e
  opn := fun j ks e => by
    obtain ⟨z, e⟩ := set_at_ne (by intro ks z; cases z) e
    rw [List.getElem?_set_ne z]
    exact st.opn j ks e
  len := by rw [List.length_set, List.length_set]; exact st.len
  dic := fun j g ks vs e => by
    obtain ⟨z, e⟩ := set_at_q (by intro g ks vs z; cases z) e
    rw [List.getElem?_set_ne z]
    exact st.dic j g ks vs e
  sepD := fun j k g g' ks ks' vs vs' b q1 q2 q3 q4 => by
    obtain ⟨z1, q1⟩ := set_at_q (by intro g ks vs z; cases z) q1
    obtain ⟨z2, q2⟩ := set_at_q (by intro g ks vs z; cases z) q2
    rw [List.getElem?_set_ne z1] at q3
    rw [List.getElem?_set_ne z2] at q4
    exact st.sepD j k g g' ks ks' vs vs' b q1 q2 q3 q4
theorem set_at {ρ : DEnv} {i j : Nat} {x y : Ent} (e : (ρ.set i (some x))[j]? = some (some y)) : (i = j ∧ i < ρ.length ∧ x = y) ∨ (i ≠ j ∧ ρ[j]? = some (some y)) := by
  by_cases z : i = j
  · subst z
    rw [List.getElem?_set] at e
    by_cases q : i < ρ.length
    · simp only [q, if_true] at e
      cases e
      exact Or.inl ⟨rfl, q, rfl⟩
    · simp only [q, if_false, if_true] at e
      cases e
  · rw [List.getElem?_set_ne z] at e
    exact Or.inr ⟨z, e⟩
/-- a dict that may be written comes into a slot -/
theorem st_setQ (st : StOk K F σ H Hs ρ θ) (i : Nat) {a : Addr} {g : Bool} {e : List DE} {ks : List (List Int)} {vs : List Dt} (e1 : H a = some (DicO a e)) (e2 : DicK K Hs ks vs e) (e3 : Hs a = none) (e4 : FreeA F g a) (e5 : F.ap ≠ some a)
    (e6 : ∀ (j : Nat) (g : Bool) (ks : List (List Int)) (vs : List Dt), j ≠ i → ρ[j]? = some (some (.dic g ks vs)) → σ[j]? ≠ some (some (.ref a))) : StOk K F (σ.set i (some (.ref a))) H Hs (ρ.set i (some (.dic g ks vs))) θ := by
  have at_ : ∀ {j : Nat} {y : Ent}, (ρ.set i (some (.dic g ks vs)))[j]? = some (some y) → (∀ g ks vs, y ≠ .dic g ks vs) → (σ.set i (some (V.ref a)))[j]? = σ[j]? ∧ ρ[j]? = some (some y) := fun {j y} w n => by
    rcases set_at w with ⟨_, _, z⟩ | ⟨z, w⟩
    · exact absurd z.symm (n g ks vs)
    · exact ⟨List.getElem?_set_ne z, w⟩
  refine ⟨st.sub, st.hap, st.pot, st.old, st.thr, st.tab, st.frs, fun j d w => ?_, fun j l w => ?_, fun j k l m b w1 w2 w3 w4 => ?_, fun j w => ?_, fun j n w => ?_, fun j n w => ?_, ?_, fun j g' ks' vs' w => ?_, fun j k g1 g2 k1 k2 v1 v2 b w1 w2 w3 w4 => ?_⟩
  · obtain ⟨z, w⟩ := at_ w (by intro _ _ _ z; cases z)
    rw [z]
    exact st.dat j d w
  · obtain ⟨z, w⟩ := at_ w (by intro _ _ _ z; cases z)
    rw [z]
    exact st.own j l w
  · obtain ⟨z1, w1⟩ := at_ w1 (by intro _ _ _ z; cases z)
    obtain ⟨z2, w2⟩ := at_ w2 (by intro _ _ _ z; cases z)
    rw [z1] at w3
    rw [z2] at w4
    exact st.sep j k l m b w1 w2 w3 w4
  · obtain ⟨z, w⟩ := at_ w (by intro _ _ _ z; cases z)
    rw [z]
    exact st.pt j w
  · obtain ⟨z, w⟩ := at_ w (by intro _ _ _ z; cases z)
    rw [z]
    exact st.fx j n w
  · obtain ⟨z, w⟩ := at_ w (by intro _ _ _ z; cases z)
    rw [z]
    exact st.opn j n w
  · rw [List.length_set, List.length_set]
    exact st.len
  · rcases set_at w with ⟨rfl, hl, z⟩ | ⟨z, w⟩
    · cases z
      rw [List.getElem?_set, ← st.len]
      simp only [hl, if_true]
      exact ⟨a, e, rfl, e1, e2, e3, e4, e5⟩
    · rw [List.getElem?_set_ne z]
      exact st.dic j g' ks' vs' w
  · rcases set_at w1 with ⟨z1, hl, y1⟩ | ⟨z1, w1⟩
    · rcases set_at w2 with ⟨z2, _, y2⟩ | ⟨z2, w2⟩
      · exact z1.symm.trans z2
      · subst z1
        rw [List.getElem?_set_ne z2] at w4
        rw [List.getElem?_set, ← st.len] at w3
        simp only [hl, if_true] at w3
        cases w3
        exact absurd w4 (e6 k g2 k2 v2 (fun z => z2 z.symm) w2)
    · rcases set_at w2 with ⟨z2, hl, y2⟩ | ⟨z2, w2⟩
      · subst z2
        rw [List.getElem?_set_ne z1] at w3
        rw [List.getElem?_set, ← st.len] at w4
        simp only [hl, if_true] at w4
        cases w4
        exact absurd w3 (e6 j g1 k1 v1 (fun z => z1 z.symm) w1)
      · rw [List.getElem?_set_ne z1] at w3
        rw [List.getElem?_set_ne z2] at w4
        exact st.sepD j k g1 g2 k1 k2 v1 v2 b w1 w2 w3 w4
end

section
variable {X : Cx} {F : Fr0} {W : WX} {e : Expr} {st : Stmt} {sts : List Stmt} {pos : Pos}
def goN (ρ : DEnv) : M Out := fun _ θ => .ok (.next ρ) θ
def mNext : M Out := fun ρ θ => .ok (.next ρ) θ
def mSeq (m n : M Out) : M Out := fun ρ θ => match m ρ θ with
  | .ok (.next ρ') θ' => n ρ' θ'
  | r => r
theorem psd_nil : PSDs X F W [] mNext := by
  refine pss_imp pss_nil fun D σ H h => ?_
  obtain ⟨ρ, θ, Hs, st, h⟩ := h
  exact h σ H Hs (Same.refl _) st
theorem psd_one {m : M Out} (h : PSD X F W st m) : PSDs X F W [st] m := pss_one h
theorem psd_cons {m n : M Out} (h : PSD X F W st m) (g : PSDs X F W sts n) : PSDs X F W (st :: sts) (mSeq m n) := by
  refine pss_imp (pss_cons h g) fun D σ H q => ?_
  obtain ⟨ρ, θ, Hs, st, q⟩ := q
  refine ⟨ρ, θ, Hs, st, ?_⟩
  unfold mSeq at q
  cases e : m ρ θ with
  | ok o θ1 =>
    rw [e] at q
    cases o with
    | next ρ1 => exact fun σ' H' Hs' s st' => ⟨ρ1, θ1, Hs', st', Post.imp q (OkS.anti s) (ExW.anti s)⟩
    | ret r =>
      cases r with
      | d d => exact q
      | o l => exact q
      | q k l => exact q
    | brk ρ1 => exact q
    | cnt ρ1 => exact q
  | exn x ρ1 θ1 => rw [e] at q; exact q
  | bad => rw [e] at q; exact q
/-- code that is never come to -/
theorem psd_never : PSD X F W st (fun _ _ => .bad) := ps_imp ps_never fun D σ H h => by
  obtain ⟨ρ, θ, Hs, st, h⟩ := h
  exact h
def mSet (i : Nat) (ma : M Dt) : M Out := bnd ma fun d ρ θ => .ok (.next (ρ.set i (some (.dat d)))) θ
theorem psd_set {ma : M Dt} (i : Nat) {x : Str} {pos' : Pos} (hN : X.N.Nodup) (ha : PD X F W e ma) (hi : X.N[i]? = some x := by rfl) (hx : Loc X.env.scope x := by first | exact Or.inl rfl | exact Or.inr rfl) (hs : swapsWith e (some (.Name x pos')) pos.line X.env = pure false := by rfl)
    (hf : X.fn x = true ∨ X.env.scope.names.lookup x = some .local := by first | exact .inl rfl | exact .inr rfl) : PSD X F W (.Assign [.Name x pos'] e pos) (mSet i ma) := by
  refine ps_imp (ps_set hN hi hx ha hs hf) fun D σ H q => ?_
  obtain ⟨ρ, θ, Hs, st, q⟩ := q
  exact then_D OkS.anti st q fun v d H1 Hs1 θ1 s1 st1 r1 h => h _ H1 Hs1 (Same.refl _) (st_set st1 i r1)
def mSetO (i : Nat) (ma : M (List Dt)) : M Out := bnd ma fun l ρ θ => .ok (.next (ρ.set i (some (.own l)))) θ
theorem psd_setO {ma : M (List Dt)} (i : Nat) {x : Str} {pos' : Pos} (hN : X.N.Nodup) (ha : PO X F W e ma) (hi : X.N[i]? = some x := by rfl) (hx : Loc X.env.scope x := by first | exact Or.inl rfl | exact Or.inr rfl) (hs : swapsWith e (some (.Name x pos')) pos.line X.env = pure false := by rfl)
    (hf : X.fn x = true ∨ X.env.scope.names.lookup x = some .local := by first | exact .inl rfl | exact .inr rfl) : PSD X F W (.Assign [.Name x pos'] e pos) (mSetO i ma) := by
  refine ps_imp (ps_set hN hi hx ha hs hf) fun D σ H q => ?_
  obtain ⟨ρ, θ, Hs, st, q⟩ := q
  exact then_O OkS.anti st q fun a xs l H1 Hs1 θ1 s1 st1 e1 e2 e3 e4 e5 e6 h => h _ H1 Hs1 (Same.refl _) (st_setO st1 i e1 e2 e3 e4 e5 fun j l _ => e6 j l)
abbrev KD := List (List Int) × List Dt
def mSetQ (i : Nat) (ma : M KD) : M Out := bnd ma fun l ρ θ => .ok (.next (ρ.set i (some (.dic false l.1 l.2)))) θ
theorem psd_setQ {ma : M KD} (i : Nat) {x : Str} {pos' : Pos} (hN : X.N.Nodup) (ha : PQ X F W e ma) (hi : X.N[i]? = some x := by rfl) (hx : Loc X.env.scope x := by first | exact Or.inl rfl | exact Or.inr rfl) (hs : swapsWith e (some (.Name x pos')) pos.line X.env = pure false := by rfl)
    (hf : X.fn x = true ∨ X.env.scope.names.lookup x = some .local := by first | exact .inl rfl | exact .inr rfl) : PSD X F W (.Assign [.Name x pos'] e pos) (mSetQ i ma) := by
  refine ps_imp (ps_set hN hi hx ha hs hf) fun D σ H q => ?_
  obtain ⟨ρ, θ, Hs, st, q⟩ := q
  exact then_Q OkS.anti st q fun a xs l H1 Hs1 θ1 s1 st1 e1 e2 e3 e4 e5 e6 h => h _ H1 Hs1 (Same.refl _) (st_setQ st1 i e1 e2 e3 e4 e5 fun j g ks vs _ => e6 j g ks vs)
/-- a, b = x, y and three, by plain local names -/
def mPar (is : List Nat) (ml : M (List Dt)) : M Out := bnd ml fun l ρ θ => if l.length = is.length then .ok (.next ((is.zip l).foldl (fun ρ p => ρ.set p.1 (some (.dat p.2))) ρ)) θ else .bad
theorem psd_par {i j : Nat} {x y : Str} {a b : Expr} {ml : M (List Dt)} {px py pt : Pos} {kt k2 pt2} (hc : X.calm = true) (hN : X.N.Nodup) (ha : PAD X F W [a, b] ml)
    (hi : X.N[i]? = some x := by rfl) (hj : X.N[j]? = some y := by rfl) (hij : i ≠ j := by decide)
    (hx : X.env.scope.names.lookup x = some .local := by rfl) (hy : X.env.scope.names.lookup y = some .local := by rfl)
    (hw : swappedStores [.Tuple [.Name x px, .Name y py] kt pt] (.Tuple [a, b] k2 pt2) X.env = pure (some [x, y]) := by rfl)
    (hs : swapsWithSole [.Tuple [.Name x px, .Name y py] kt pt] (.Tuple [a, b] k2 pt2) pos.line X.env = pure false := by rfl) :
    PSD X F W (.Assign [.Tuple [.Name x px, .Name y py] kt pt] (.Tuple [a, b] k2 pt2) pos) (mPar [i, j] ml) := by
  refine ps_imp (ps_par hc hN hi hj hij hx hy ha hw hs) fun D σ H q => ?_
  obtain ⟨ρ, θ, Hs, st, q⟩ := q
  refine then_A OkS.anti st q fun vs l H1 Hs1 θ1 s1 st1 r1 h => ?_
  by_cases z : l.length = [i, j].length
  · rw [if_pos z] at h
    match l, z, r1, h with
    | [d1, d2], _, r1, h =>
      obtain ⟨v1, r, rfl, q1, v2, r', rfl, q2, rfl⟩ := r1
      exact ⟨v1, v2, rfl, h _ H1 Hs1 (Same.refl _) (st_set (st_set st1 i q1) j q2)⟩
  · rw [if_neg z] at h
    exact h.elim
def mRet (ma : M Dt) : M Out := bnd ma fun d _ θ => .ok (.ret (.d d)) θ
theorem psd_ret {ma : M Dt} (ha : PD X F W e ma) : PSD X F W (.Return (some e) pos) (mRet ma) := by
  refine ps_imp (ps_ret ha) fun D σ H q => ?_
  obtain ⟨ρ, θ, Hs, st, q⟩ := q
  exact then_D OkS.anti st q fun v d H1 Hs1 θ1 s1 st1 r1 h => h σ H1 Hs1 (Same.refl _) ρ v st1 r1
def mRetO (ma : M (List Dt)) : M Out := bnd ma fun l _ θ => .ok (.ret (.o l)) θ
theorem psd_retO {ma : M (List Dt)} (ha : PO X F W e ma) : PSD X F W (.Return (some e) pos) (mRetO ma) := by
  refine ps_imp (ps_ret ha) fun D σ H q => ?_
  obtain ⟨ρ, θ, Hs, st, q⟩ := q
  exact then_O OkS.anti st q fun a xs l H1 Hs1 θ1 s1 st1 e1 e2 e3 e4 e5 e6 h => h σ H1 Hs1 (Same.refl _) ρ a xs st1 e1 e2 e3 e4 e5
def mRetQ (ma : M KD) : M Out := bnd ma fun l _ θ => .ok (.ret (.q l.1 l.2)) θ
/-- return of a name that holds a list of one's own -/
def mRetV (i : Nat) : M Out := fun ρ θ => match ρ[i]? with
  | some (some (.own l)) => .ok (.ret (.o l)) θ
  | some (some (.dat d)) => .ok (.ret (.d d)) θ
  | _ => .bad
theorem psd_retV (i : Nat) {x : Str} {p : Pos} (hN : X.N[i]? = some x := by rfl) (hv : Vis X.env.scope x := by first | exact Or.inl rfl | exact Or.inr (Or.inl rfl) | exact Or.inr (Or.inr rfl)) (hd : (x == ("__debug__" : Str)) = false := by decide)
    (hcd : (x == ("__classdict__" : Str)) = false := by decide) : PSD X F W (.Return (some (.Name x p)) pos) (mRetV i) := by
  refine ps_imp (ps_ret (pe_var hN hv hd hcd)) fun D σ H q => ?_
  obtain ⟨ρ, θ, Hs, st, q⟩ := q
  unfold mRetV at q
  split at q
  · rename_i l e
    obtain ⟨a, xs, e1, e2, e3, e4, e5, e6⟩ := st.own i l e
    exact ⟨_, e1, q σ H Hs (Same.refl _) ρ a xs st e2 e3 e4 e5 e6⟩
  · rename_i d e
    obtain ⟨v, e1, e2⟩ := st.dat i d e
    exact ⟨v, e1, q σ H Hs (Same.refl _) ρ v st e2⟩
  · exact q.elim
def mRetN : M Out := fun _ θ => .ok (.ret (.d .non)) θ
def mIf (mc : M Bool) (m n : M Out) : M Out := bnd mc fun k => if k = true then m else n
theorem psd_if {c : Expr} {a b : List Stmt} {mc : M Bool} {m n : M Out} (hc : PTD X F W c mc) (ha : PSDs X F W a m) (hb : PSDs X F W b n) : PSD X F W (.If c a b pos) (mIf mc m n) := by
  refine ps_imp (ps_if hc ha hb) fun D σ H h => ?_
  obtain ⟨ρ, θ, Hs, st, h⟩ := h
  refine then_T OkS.anti st h fun k H1 Hs1 θ1 s1 st1 h => ?_
  cases k with
  | true => exact ⟨ρ, θ1, Hs1, st1, h⟩
  | false => exact ⟨ρ, θ1, Hs1, st1, h⟩
def mExpr (ma : M Dt) : M Out := bnd ma fun _ ρ θ => .ok (.next ρ) θ
theorem psd_expr {ma : M Dt} (ha : PD X F W e ma) (hs : swapsWith e none pos.line X.env = pure false := by rfl) : PSD X F W (.Expr e pos) (mExpr ma) := by
  refine ps_imp (ps_expr ha hs) fun D σ H q => ?_
  obtain ⟨ρ, θ, Hs, st, q⟩ := q
  exact then_D OkS.anti st q fun v d H1 Hs1 θ1 s1 st1 r1 h => h σ H1 Hs1 (Same.refl _) st1
def mBrk : M Out := fun ρ θ => .ok (.brk ρ) θ
def mCnt : M Out := fun ρ θ => .ok (.cnt ρ) θ
end

/-- a def's mirror by its body's -/
def mFn (n : Nat) (m : M Out) : Mir := fun es θ => match m (es.map some ++ List.replicate (n - es.length) none) θ with
  | .ok (.next _) θ' => .ok (.d .non) θ'
  | .ok (.ret r) θ' => .ok r θ'
  | .exn e _ θ' => .exn e [] θ'
  | _ => .bad
theorem ents_len {K : PySem.W.Frag} {ap : Option Addr} {Hs : Hp} : ∀ {es : List Ent} {vs : List V}, Ents K ap Hs es vs → es.length = vs.length
  | [], _, h => by rw [show _ = _ from h]; rfl
  | .dat d :: es, _, h => by
    obtain ⟨v, r, rfl, _, h2⟩ := h
    rw [List.length_cons, List.length_cons, ents_len h2]
  | .pot :: es, _, h => by
    obtain ⟨v, r, rfl, _, h2⟩ := h
    rw [List.length_cons, List.length_cons, ents_len h2]
  | .own _ :: _, _, h => h.elim
  | .fix _ :: _, _, h => h.elim
  | .opn _ :: _, _, h => h.elim
  | .dic _ _ _ :: _, _, h => h.elim
theorem ents_dat {K : PySem.W.Frag} {ap : Option Addr} {Hs : Hp} : ∀ {es : List Ent} {vs : List V} {i : Nat} {d : Dt}, Ents K ap Hs es vs → es[i]? = some (.dat d) → ∃ v, vs[i]? = some v ∧ Rep K Hs d v
  | [], _, _, _, _, e => by simp at e
  | .dat d :: es, _, 0, _, h, e => by
    obtain ⟨v, r, rfl, h1, h2⟩ := h
    simp at e
    subst e
    exact ⟨v, rfl, h1⟩
  | .pot :: es, _, 0, _, h, e => by simp at e
  | .own _ :: _, _, _, _, h, _ => h.elim
  | .fix _ :: _, _, _, _, h, _ => h.elim
  | .opn _ :: _, _, _, _, h, _ => h.elim
  | .dic _ _ _ :: _, _, _, _, h, _ => h.elim
  | .dat d :: es, _, i + 1, _, h, e => by
    obtain ⟨v, r, rfl, h1, h2⟩ := h
    obtain ⟨u, e1, e2⟩ := ents_dat h2 (by simpa using e)
    exact ⟨u, by simpa using e1, e2⟩
  | .pot :: es, _, i + 1, _, h, e => by
    obtain ⟨v, r, rfl, h1, h2⟩ := h
    obtain ⟨u, e1, e2⟩ := ents_dat h2 (by simpa using e)
    exact ⟨u, by simpa using e1, e2⟩
theorem ents_pot {K : PySem.W.Frag} {ap : Option Addr} {Hs : Hp} : ∀ {es : List Ent} {vs : List V} {i : Nat}, Ents K ap Hs es vs → es[i]? = some .pot → ∃ p, ap = some p ∧ vs[i]? = some (.ref p)
  | [], _, _, _, e => by simp at e
  | .pot :: es, _, 0, h, e => by
    obtain ⟨p, r, rfl, h1, h2⟩ := h
    exact ⟨p, h1, rfl⟩
  | .dat d :: es, _, 0, h, e => by simp at e
  | .own _ :: _, _, _, h, _ => h.elim
  | .fix _ :: _, _, _, h, _ => h.elim
  | .opn _ :: _, _, _, h, _ => h.elim
  | .dic _ _ _ :: _, _, _, h, _ => h.elim
  | .dat d :: es, _, i + 1, h, e => by
    obtain ⟨v, r, rfl, h1, h2⟩ := h
    obtain ⟨u, e1, e2⟩ := ents_pot h2 (by simpa using e)
    exact ⟨u, e1, by simpa using e2⟩
  | .pot :: es, _, i + 1, h, e => by
    obtain ⟨v, r, rfl, h1, h2⟩ := h
    obtain ⟨u, e1, e2⟩ := ents_pot h2 (by simpa using e)
    exact ⟨u, e1, by simpa using e2⟩
theorem ents_fix {K : PySem.W.Frag} {ap : Option Addr} {Hs : Hp} : ∀ {es : List Ent} {vs : List V} {i n : Nat}, Ents K ap Hs es vs → es[i]? = some (.fix n) → False
  | [], _, _, _, _, e => by simp at e
  | .dat d :: es, _, 0, _, h, e => by simp at e
  | .pot :: es, _, 0, _, h, e => by simp at e
  | .own _ :: _, _, _, _, h, _ => h.elim
  | .fix _ :: _, _, _, _, h, _ => h.elim
  | .opn _ :: _, _, _, _, h, _ => h.elim
  | .dic _ _ _ :: _, _, _, _, h, _ => h.elim
  | .dat d :: es, _, i + 1, _, h, e => by
    obtain ⟨v, r, rfl, h1, h2⟩ := h
    exact ents_fix h2 (by simpa using e)
  | .pot :: es, _, i + 1, _, h, e => by
    obtain ⟨v, r, rfl, h1, h2⟩ := h
    exact ents_fix h2 (by simpa using e)
theorem ents_opn {K : PySem.W.Frag} {ap : Option Addr} {Hs : Hp} : ∀ {es : List Ent} {vs : List V} {i : Nat} {n : List Nat}, Ents K ap Hs es vs → es[i]? = some (.opn n) → False
  | [], _, _, _, _, e => by simp at e
  | .dat d :: es, _, 0, _, h, e => by simp at e
  | .pot :: es, _, 0, _, h, e => by simp at e
  | .own _ :: _, _, _, _, h, _ => h.elim
  | .fix _ :: _, _, _, _, h, _ => h.elim
  | .opn _ :: _, _, _, _, h, _ => h.elim
  | .dic _ _ _ :: _, _, _, _, h, _ => h.elim
  | .dat d :: es, _, i + 1, _, h, e => by
    obtain ⟨v, r, rfl, h1, h2⟩ := h
    exact ents_opn h2 (by simpa using e)
  | .pot :: es, _, i + 1, _, h, e => by
    obtain ⟨v, r, rfl, h1, h2⟩ := h
    exact ents_opn h2 (by simpa using e)
theorem ents_own {K : PySem.W.Frag} {ap : Option Addr} {Hs : Hp} : ∀ {es : List Ent} {vs : List V} {i : Nat} {l : List Dt}, Ents K ap Hs es vs → es[i]? = some (.own l) → False
  | [], _, _, _, _, e => by simp at e
  | .own _ :: _, _, _, _, h, _ => h.elim
  | .fix _ :: _, _, _, _, h, _ => h.elim
  | .opn _ :: _, _, _, _, h, _ => h.elim
  | .dic _ _ _ :: _, _, _, _, h, _ => h.elim
  | .dat d :: es, _, 0, _, h, e => by simp at e
  | .pot :: es, _, 0, _, h, e => by simp at e
  | .dat d :: es, _, i + 1, _, h, e => by
    obtain ⟨v, r, rfl, h1, h2⟩ := h
    exact ents_own h2 (by simpa using e)
  | .pot :: es, _, i + 1, _, h, e => by
    obtain ⟨v, r, rfl, h1, h2⟩ := h
    exact ents_own h2 (by simpa using e)
theorem ents_dic {K : PySem.W.Frag} {ap : Option Addr} {Hs : Hp} : ∀ {es : List Ent} {vs : List V} {i : Nat} {g : Bool} {k : List (List Int)} {l : List Dt}, Ents K ap Hs es vs → es[i]? = some (.dic g k l) → False
  | [], _, _, _, _, _, _, e => by simp at e
  | .own _ :: _, _, _, _, _, _, h, _ => h.elim
  | .fix _ :: _, _, _, _, _, _, h, _ => h.elim
  | .opn _ :: _, _, _, _, _, _, h, _ => h.elim
  | .dic _ _ _ :: _, _, _, _, _, _, h, _ => h.elim
  | .dat d :: es, _, 0, _, _, _, h, e => by simp at e
  | .pot :: es, _, 0, _, _, _, h, e => by simp at e
  | .dat d :: es, _, i + 1, _, _, _, h, e => by
    obtain ⟨v, r, rfl, h1, h2⟩ := h
    exact ents_dic h2 (by simpa using e)
  | .pot :: es, _, i + 1, _, _, _, h, e => by
    obtain ⟨v, r, rfl, h1, h2⟩ := h
    exact ents_dic h2 (by simpa using e)
theorem start_at {es : List Ent} {n i : Nat} {x : Ent} (h : (es.map some ++ List.replicate (n - es.length) none)[i]? = some (some x)) : es[i]? = some x := by
  by_cases q : i < es.length
  · rw [List.getElem?_append_left (by simpa using q), List.getElem?_map] at h
    cases e : es[i]? with
    | none => rw [e] at h; cases h
    | some y => rw [e] at h; cases h; rfl
  · rw [List.getElem?_append_right (by simpa using q), List.getElem?_replicate] at h
    split at h <;> cases h
theorem start_val {N : List Str} {vs : List V} {i : Nat} {v : V} (h : vs[i]? = some v) : (L2.start N vs)[i]? = some (some v) := by
  have q : i < vs.length := (List.getElem?_eq_some_iff.mp h).1
  unfold L2.start
  rw [List.getElem?_append_left (by simpa using q), List.getElem?_map, h]
  rfl
/-- THE RULE of a def -/
theorem fnpL {P : Program} {w : World} {K : PySem.W.Frag} {mg : Str → Option Value} {base : Heap} {k : Nat} {f : Addr} {fd : FuncData} {x qual : Str} {params : Arguments} {body : List Stmt} {scope : Scope} {dvs : List V} {kws : List (Str × V)} {N ps : List Str} {m : M Out}
    (T : FunD K x qual params body scope dvs kws f fd) (S : FnScope N ps scope)
    (hb : ∀ (cdv : Value) (A : Around) (outer : List Env) (s : Shared) (H : Hp) (E : XK) (F : Fr0), Room k (A.deeper (envOfC qual scope s.heap.objs.size f cdv)) → (A.deeper (envOfC qual scope s.heap.objs.size f cdv)).guards = some [] → F.cells = (envOfC qual scope s.heap.objs.size f cdv).cells → (PySem.W.codeIn K cdv qual = true ∧ ∃ oc od fd' osl, K.lookup f = some ⟨oc, od, .func fd', osl⟩ ∧ fd'.code = cdv) →
      PSDs (cxOf (L2.CX P w) P w K mg base N qual scope f cdv A outer s H E) F (fun c d _ H' => E c d H') body m) : FnP P w K mg base (k + 1) f fd ps (mFn N.length m) := by
  obtain ⟨oc, od, dV, kV, doc, pm, an, cdv, ct, osl, rfl, lk, hcd, _, _⟩ := T.ex
  refine ⟨fun A outer s H args us vs Q E hr hg e0 hbd r hsp => ?_⟩
  obtain ⟨hl, ap, Hs, es, θ, hsub, htab, hap, hpot, hes, post⟩ := hsp
  have KX : K.In s.heap := e0.mod.kin.keeps fun b o z => (e0.bs b o z).1
  have lim : s.heap.NoLimit := e0.mod.nolimit.keeps fun b o z => (e0.bs b o z).1
  have kinds : ∀ y ∈ ps.zip us, scope.names.lookup y.1 = some .local ∨ (scope.names.lookup y.1 = some .cell ∧ ((cellsFrom (s.heap.objs.size + 1) scope.names []).lookup y.1).isSome = true) := by
    rintro ⟨n, v⟩ hy
    refine (S.par n (List.of_mem_zip hy).1).imp id fun q => ⟨q, ?_⟩
    exact PySem.W.cellsFrom_some _ _ _ (Or.inl q)
  refine codeAny_call_function hr.depth (KX _ _ lk) rfl S.co S.gen rfl (PySem.W.codeRec_of KX hcd) (hbd _ _ _ _ ?_)
  refine wpAny_newFunctionEnv_cells S.kind kinds fun env he s1 x1 => ?_
  cases he
  refine ⟨lim.keeps x1.toInCall.keep, codeAny_func ?_⟩
  have I := inv_start (CX := L2.CX P w) (E := E) S hr.hd e0 hl r x1
  have gd : (A.deeper (envOfC qual scope s.heap.objs.size f cdv)).guards = some [] := hg
  have B := hb cdv A outer s H E ⟨ap, H, Hs, (envOfC qual scope s.heap.objs.size f cdv).cells, fun _ => none, none⟩ (hr.deeper _) gd rfl ⟨hcd, _, _, _, _, lk, rfl⟩
  have lenS : (L2.start N vs).length = N.length := by
    have hpl : ps.length ≤ N.length := by
      have z := congrArg List.length S.pre
      rw [List.length_take] at z
      omega
    unfold L2.start
    rw [List.length_append, List.length_map, List.length_replicate]
    omega
  have le := ents_len hes
  have st0 : StOk K ⟨ap, H, Hs, (envOfC qual scope s.heap.objs.size f cdv).cells, fun _ => none, none⟩ (L2.start N vs) H Hs (es.map some ++ List.replicate (N.length - es.length) none) θ := by
    refine ⟨hsub, hap, hpot, fun b o _ _ z => z, fun b z => z, htab, fun b _ => rfl, fun i d z => ?_, fun i l z => ?_, fun i j l m a z => ?_, fun i z => ?_, fun i n z => ?_, fun i n z => (ents_opn hes (start_at z)).elim, ?_, fun i g k l z => (ents_dic hes (start_at z)).elim, fun i j g g' k k' l l' a z => (ents_dic hes (start_at z)).elim⟩
    · obtain ⟨v, e1, e2⟩ := ents_dat hes (start_at z)
      exact ⟨v, start_val e1, e2⟩
    · exact (ents_own hes (start_at z)).elim
    · exact (ents_own hes (start_at z)).elim
    · obtain ⟨p, e1, e2⟩ := ents_pot hes (start_at z)
      exact ⟨p, e1, start_val e2⟩
    · exact (ents_fix hes (start_at z)).elim
    · rw [lenS, List.length_append, List.length_map, List.length_replicate, le, hl]
      have hpl : ps.length ≤ N.length := by
        have z := congrArg List.length S.pre
        rw [List.length_take] at z
        omega
      omega
  have fe : ∀ {σ' : L2.St} {ρ' : DEnv} {H' Hs' : Hp} {θ' : Pot}, Same Hs Hs' → StOk K ⟨ap, H, Hs, (envOfC qual scope s.heap.objs.size f cdv).cells, fun _ => none, none⟩ σ' H' Hs' ρ' θ' → FnEnd ap (tbK K) Hs H Hs' H' θ' := fun s' st' => ⟨s', st'.sub, st'.hap, st'.pot, st'.old, st'.thr, st'.tab, st'.frs⟩
  have body : tS (cxOf (L2.CX P w) P w K mg base N qual scope f cdv A outer s H E) ⟨ap, H, Hs, (envOfC qual scope s.heap.objs.size f cdv).cells, fun _ => none, none⟩ (fun c d _ H' => E c d H') m { nx := fun _ H' => Q .non H', rt := Q } (L2.start N vs) H := by
    refine ⟨_, θ, Hs, st0, ?_⟩
    unfold mFn at post
    cases em : m (es.map some ++ List.replicate (N.length - es.length) none) θ with
    | ok o θ1 =>
      rw [em] at post
      cases o with
      | next ρ1 => exact fun σ' H' Hs' s' st' => post .non H' Hs' (fe s' st') rfl
      | ret r =>
        cases r with
        | d d => exact fun σ' H' Hs' s' ρ' v st' rv => post v H' Hs' (fe s' st') rv
        | o l => exact fun σ' H' Hs' s' ρ' a xs st' e1 e2 e3 e4 e5 => post (.ref a) H' Hs' (fe s' st') ⟨a, xs, rfl, e1, e2, e3, e4⟩
        | q k l => exact fun σ' H' Hs' s' ρ' a xs st' e1 e2 e3 e4 e5 => post (.ref a) H' Hs' (fe s' st') ⟨a, xs, rfl, e1, e2, e3, e4⟩
      | brk ρ1 => exact post.elim
      | cnt ρ1 => exact post.elim
    | exn e ρ1 θ1 =>
      rw [em] at post
      exact fun c dd σ' H' Hs' s' st' x => post c dd H' Hs' (fe s' st') x
    | bad =>
      rw [em] at post
      exact post.elim
  refine wpAny_mono (B.run [] s1 (L2.start N vs) H _ I body) (fun fl s' hs => ?_) fun e s' hs => hs
  cases fl with
  | ret u =>
    obtain ⟨v, σ', H', J, rv, q⟩ := hs
    exact ⟨v, H', J.os, J.bare, J.base, J.hok, rv, q⟩
  | next =>
    obtain ⟨σ', H', J, q⟩ := hs
    exact ⟨V.non, H', J.os, J.bare, J.base, J.hok, (rfl : (Value.none : Value) = _), q⟩
  | brk =>
    obtain ⟨_, _, _, q⟩ := hs
    exact q.elim
  | cont =>
    obtain ⟨_, _, _, q⟩ := hs
    exact q.elim
theorem fnp {P : Program} {w : World} {K : PySem.W.Frag} {mg : Str → Option Value} {base : Heap} {k : Nat} {f : Addr} {fd : FuncData} {x qual : Str} {params : Arguments} {body : List Stmt} {scope : Scope} {dvs : List V} {kws : List (Str × V)} {N ps : List Str} {m : M Out}
    (T : FunD K x qual params body scope dvs kws f fd) (S : FnScope N ps scope)
    (hb : ∀ (cdv : Value) (A : Around) (outer : List Env) (s : Shared) (H : Hp) (E : XK) (F : Fr0), Room k (A.deeper (envOfC qual scope s.heap.objs.size f cdv)) → (A.deeper (envOfC qual scope s.heap.objs.size f cdv)).guards = some [] →
      PSDs (cxOf (L2.CX P w) P w K mg base N qual scope f cdv A outer s H E) F (fun c d _ H' => E c d H') body m) : FnP P w K mg base (k + 1) f fd ps (mFn N.length m) := fnpL T S fun cdv A outer s H E F hr hg _ _ => hb cdv A outer s H E F hr hg
end Pd



namespace Pd
open PySem PySem.Spec PyProof.Rows L2
variable [Pd.LamTab]
theorem ents_mono {K : PySem.W.Frag} {ap : Option Addr} {Hs Hs' : Hp} (s : Same Hs Hs') : ∀ {es : List Ent} {vs : List V}, Ents K ap Hs es vs → Ents K ap Hs' es vs
  | [], _, h => h
  | .dat d :: es, _, h => by
    obtain ⟨v, r, rfl, h1, h2⟩ := h
    exact ⟨v, r, rfl, Rep.mono s d h1, ents_mono s h2⟩
  | .pot :: es, _, h => by
    obtain ⟨v, r, rfl, h1, h2⟩ := h
    exact ⟨v, r, rfl, h1, ents_mono s h2⟩
  | .own _ :: _, _, h => h.elim
  | .fix _ :: _, _, h => h.elim
  | .opn _ :: _, _, h => h.elim
  | .dic _ _ _ :: _, _, h => h.elim
theorem ents_append {K : PySem.W.Frag} {ap : Option Addr} {Hs : Hp} : ∀ {es fs : List Ent} {vs us : List V}, Ents K ap Hs es vs → Ents K ap Hs fs us → Ents K ap Hs (es ++ fs) (vs ++ us)
  | [], _, _, _, h, g => by rw [show _ = _ from h]; exact g
  | .dat d :: es, _, _, _, h, g => by
    obtain ⟨v, r, rfl, h1, h2⟩ := h
    exact ⟨v, _, rfl, h1, ents_append h2 g⟩
  | .pot :: es, _, _, _, h, g => by
    obtain ⟨v, r, rfl, h1, h2⟩ := h
    exact ⟨v, _, rfl, h1, ents_append h2 g⟩
  | .own _ :: _, _, _, _, h, _ => h.elim
  | .fix _ :: _, _, _, _, h, _ => h.elim
  | .opn _ :: _, _, _, _, h, _ => h.elim
  | .dic _ _ _ :: _, _, _, _, h, _ => h.elim
/-- items by places -/
def pick {α : Type} (is : List Nat) (l : List α) : List α := is.filterMap fun i => l[i]?
theorem ents_one {K : PySem.W.Frag} {ap : Option Addr} {Hs : Hp} {e : Ent} {v : V} {es : List Ent} {vs : List V} {i : Nat} (h : Ents K ap Hs es vs) (q : es[i]? = some e) (p : vs[i]? = some v) {fs : List Ent} {us : List V} (g : Ents K ap Hs fs us) : Ents K ap Hs (e :: fs) (v :: us) := by
  cases e with
  | dat d =>
    obtain ⟨u, e1, e2⟩ := ents_dat h q
    rw [p] at e1
    cases e1
    exact ⟨v, us, rfl, e2, g⟩
  | pot =>
    obtain ⟨a, e1, e2⟩ := ents_pot h q
    rw [p] at e2
    cases e2
    exact ⟨a, us, rfl, e1, g⟩
  | own l => exact (ents_own h q).elim
  | fix n => exact (ents_fix h q).elim
  | opn n => exact (ents_opn h q).elim
  | dic g k l => exact (ents_dic h q).elim
theorem ents_pick {K : PySem.W.Frag} {ap : Option Addr} {Hs : Hp} {es : List Ent} {vs : List V} (h : Ents K ap Hs es vs) : ∀ is : List Nat, Ents K ap Hs (pick is es) (pick is vs)
  | [] => rfl
  | i :: is => by
    have ih := ents_pick h is
    have le := ents_len h
    unfold pick
    rw [List.filterMap_cons, List.filterMap_cons]
    by_cases q : i < es.length
    · have q2 : i < vs.length := by omega
      rw [List.getElem?_eq_getElem q, List.getElem?_eq_getElem q2]
      exact ents_one h (List.getElem?_eq_getElem q) (List.getElem?_eq_getElem q2) ih
    · rw [List.getElem?_eq_none (by omega), List.getElem?_eq_none (by omega)]
      exact ih
theorem vals_pick {vs : List V} {us : List Value} (h : Vals vs us) : ∀ is : List Nat, Vals (pick is vs) (pick is us)
  | [] => .nil
  | i :: is => by
    have ih := vals_pick h is
    have le := h.length
    unfold pick
    rw [List.filterMap_cons, List.filterMap_cons]
    by_cases q : i < vs.length
    · obtain ⟨u, e1, e2⟩ := h.get (List.getElem?_eq_getElem q)
      rw [List.getElem?_eq_getElem q, e1]
      exact .cons e2 ih
    · rw [List.getElem?_eq_none (by omega), List.getElem?_eq_none (by omega)]
      exact ih

section
variable {X : Cx} {F : Fr0} {W : WX} {a b c : Expr} {es : List Expr} {pos p : Pos} {x : Str}
def OkE (X : Cx) (F : Fr0) (σ : L2.St) (ρ : DEnv) (Q : List V → Hp → Prop) (Hs : Hp) : List Ent → Pot → Prop := fun l θ' => ∀ vs H' Hs', Same Hs Hs' → StOk X.K F σ H' Hs' ρ θ' → Ents X.K F.ap Hs' l vs → Q vs H'
theorem OkE.anti {σ : L2.St} {ρ : DEnv} {Q : List V → Hp → Prop} {Hs Hs1 : Hp} (s : Same Hs Hs1) : ∀ d θ, OkE X F σ ρ Q Hs d θ → OkE X F σ ρ Q Hs1 d θ := fun _ _ h vs H' Hs' s' => h vs H' Hs' (s.trans s')
def tE (X : Cx) (F : Fr0) (W : WX) (m : M (List Ent)) : TA := fun σ H Q => ∃ ρ θ Hs, StOk X.K F σ H Hs ρ θ ∧ Post (m ρ θ) (OkE X F σ ρ Q Hs) (ExW X F W Hs)
def PAE (X : Cx) (F : Fr0) (W : WX) (es : List Expr) (m : M (List Ent)) : Prop := PA X es (tE X F W m)
def PKE (X : Cx) (F : Fr0) (W : WX) (kws : List Keyword) (m : M (List Ent)) : Prop := PK X kws (tE X F W m)
theorem pk_imp {kws : List Keyword} {t t' : TA} (h : PK X kws t) (i : ∀ σ H Q, t' σ H Q → t σ H Q) : PK X kws t' := ⟨fun pos pins s σ H Q I q => h.run pos pins s σ H Q I (i σ H Q q)⟩
theorem then_E {β : Type} {m : M (List Ent)} {f : List Ent → M β} {okb : Hp → β → Pot → Prop} {Q : List V → Hp → Prop} {σ : L2.St} {H Hs : Hp} {ρ : DEnv} {θ : Pot} (anti : ∀ {Hs Hs1}, Same Hs Hs1 → ∀ b θ, okb Hs b θ → okb Hs1 b θ) (st : StOk X.K F σ H Hs ρ θ) (hp : Post (bnd m f ρ θ) (okb Hs) (ExW X F W Hs))
    (k : ∀ vs l H' Hs' θ', Same Hs Hs' → StOk X.K F σ H' Hs' ρ θ' → Ents X.K F.ap Hs' l vs → Post (f l ρ θ') (okb Hs') (ExW X F W Hs') → Q vs H') : tE X F W m σ H Q :=
  ⟨ρ, θ, Hs, st, (post_bnd hp).imp (fun d θ' q v H' Hs' s st' r => k v d H' Hs' θ' s st' r (q.imp (anti s) (ExW.anti s))) fun _ _ _ q => q⟩
def mENil : M (List Ent) := ret []
def mECons (ma : M Dt) (mr : M (List Ent)) : M (List Ent) := bnd ma fun d => bnd mr fun l => ret (.dat d :: l)
def mEPot (i : Nat) (mr : M (List Ent)) : M (List Ent) := fun ρ θ => match ρ[i]? with
  | some (some .pot) => bnd mr (fun l => ret (.pot :: l)) ρ θ
  | _ => .bad
theorem pae_nil : PAE X F W [] mENil := by
  refine pa_imp pa_nil fun σ H Q h => ?_
  obtain ⟨ρ, θ, Hs, st, h⟩ := h
  exact h [] H Hs (Same.refl _) st rfl
theorem econs_run {ma : M Dt} {mr : M (List Ent)} {σ : L2.St} {H : Hp} {Q : List V → Hp → Prop} (h : tE X F W (mECons ma mr) σ H Q) : tCons (tD X F W ma) (tE X F W mr) σ H Q := by
  obtain ⟨ρ, θ, Hs, st, h⟩ := h
  refine then_D OkE.anti st h fun x dx H1 Hs1 θ1 s1 st1 r1 h => ?_
  refine then_E OkE.anti st1 h fun xs l H2 Hs2 θ2 s2 st2 r2 h => ?_
  exact h (x :: xs) H2 Hs2 (Same.refl _) st2 ⟨x, xs, rfl, Rep.mono s2 dx r1, r2⟩
theorem epot_run {i : Nat} {mr : M (List Ent)} {σ : L2.St} {H : Hp} {Q : List V → Hp → Prop} (h : tE X F W (mEPot i mr) σ H Q) : tCons (tVar i) (tE X F W mr) σ H Q := by
  obtain ⟨ρ, θ, Hs, st, h⟩ := h
  unfold mEPot at h
  split at h
  · rename_i e
    obtain ⟨q, e1, e2⟩ := st.pt i e
    refine ⟨.ref q, e2, ?_⟩
    refine then_E OkE.anti st h fun xs l H2 Hs2 θ2 s2 st2 r2 h => ?_
    exact h (.ref q :: xs) H2 Hs2 (Same.refl _) st2 ⟨q, xs, rfl, e1, r2⟩
  · exact h.elim
theorem pae_d {ma : M Dt} {mr : M (List Ent)} (ha : PD X F W a ma) (hr : PAE X F W es mr) (hs : starEach (a :: es) X.env = (false, eval a X.env) :: starEach es X.env := by rfl) : PAE X F W (a :: es) (mECons ma mr) :=
  pa_imp (pa_cons ha hr hs) fun _ _ _ h => econs_run h
theorem pae_p (i : Nat) {y : Str} {mr : M (List Ent)} (hr : PAE X F W es mr) (hN : X.N[i]? = some y := by rfl) (hv : Vis X.env.scope y := by first | exact Or.inl rfl | exact Or.inr (Or.inl rfl) | exact Or.inr (Or.inr rfl)) (hd : (y == ("__debug__" : Str)) = false := by decide)
    (hcd : (y == ("__classdict__" : Str)) = false := by decide) (hs : starEach (.Name y p :: es) X.env = (false, eval (.Name y p) X.env) :: starEach es X.env := by rfl) : PAE X F W (.Name y p :: es) (mEPot i mr) :=
  pa_imp (pa_cons (pe_var hN hv hd hcd) hr hs) fun _ _ _ h => epot_run h
theorem pke_nil : PKE X F W [] mENil := by
  refine pk_imp pk_nil fun σ H Q h => ?_
  obtain ⟨ρ, θ, Hs, st, h⟩ := h
  exact h [] H Hs (Same.refl _) st rfl
theorem pke_d {nm : Option Str} {kpos : Pos} {kws : List Keyword} {ma : M Dt} {mr : M (List Ent)} (ha : PD X F W a ma) (hr : PKE X F W kws mr) : PKE X F W (⟨nm, a, kpos⟩ :: kws) (mECons ma mr) :=
  pk_imp (pk_cons ha hr) fun _ _ _ h => econs_run h
def LenE (m : M (List Ent)) (n : Nat) : Prop := ∀ ρ θ l θ', m ρ θ = .ok l θ' → l.length = n
theorem lenE_nil : LenE mENil 0 := fun ρ θ l θ' e => by cases e; rfl
theorem lenE_cons {ma : M Dt} {mr : M (List Ent)} {n : Nat} (h : LenE mr n) : LenE (mECons ma mr) (n + 1) := fun ρ θ l θ' e => by
  obtain ⟨d, θ1, _, e2⟩ := bnd_ok e
  obtain ⟨l2, θ2, e3, e4⟩ := bnd_ok e2
  cases e4
  rw [List.length_cons, h ρ θ1 l2 _ e3]
theorem lenE_pot {i : Nat} {mr : M (List Ent)} {n : Nat} (h : LenE mr n) : LenE (mEPot i mr) (n + 1) := fun ρ θ l θ' e => by
  unfold mEPot at e
  split at e
  · obtain ⟨l2, θ2, e3, e4⟩ := bnd_ok e
    cases e4
    rw [List.length_cons, h ρ θ l2 _ e3]
  · cases e

theorem st_end {σ : L2.St} {ρ : DEnv} {H Hs H' Hs' : Hp} {θ θ' : Pot} (st : StOk X.K F σ H Hs ρ θ) (e : FnEnd F.ap (tbK X.K) Hs H Hs' H' θ') : StOk X.K F σ H' Hs' ρ θ' where
  sub := e.i
  hap := e.hap
  pot := e.pot
  old := fun b o h1 n h2 => e.old b o h1 n (st.old b o h1 n h2)
  thr := fun b hb => e.thr b (st.thr b hb)
  tab := e.tab
  frs := fun b hb => (e.n b (st.H0H hb)).trans (st.frs b hb)
  dat := fun i d z => by
    obtain ⟨v, e1, e2⟩ := st.dat i d z
    exact ⟨v, e1, Rep.mono e.s d e2⟩
  own := fun i l z => by
    obtain ⟨a, xs, e1, e2, e3, e4, e5, e6⟩ := st.own i l z
    exact ⟨a, xs, e1, e.old _ _ e6 notT_lst e2, Reps.mono e.s l e3, (e.n a (by rw [e2]; exact fun z => nomatch z)).trans e4, e5, e6⟩
  sep := st.sep
  pt := st.pt
  fx := st.fx
  opn := fun i ks z => by
    obtain ⟨a, xs, e0, e1, e2, e3, e4, e5, e6⟩ := st.opn i ks z
    exact ⟨a, xs, e0, e1, e.old _ _ e6 notT_lst e2, e3.mono e.s, (e.n a (by rw [e2]; exact fun z => nomatch z)).trans e4, e5, e6⟩
  len := st.len
  dic := fun i g ks vs z => by
    obtain ⟨a, xs, e1, e2, e3, e4, e5, e6⟩ := st.dic i g ks vs z
    exact ⟨a, xs, e1, e.old _ _ e6 dicO_tbl e2, e3.mono e.s, (e.n a (by rw [e2]; exact fun z => nomatch z)).trans e4, e5, e6⟩
  sepD := st.sepD

/-- what a call hands on -/
def callD (f : Mir) (es : List Ent) : M Dt := fun ρ θ => match f es θ with
  | .ok (.d d) θ' => .ok d θ'
  | .ok (.o l) θ' => .ok (.lst l) θ'
  | .ok (.q _ _) _ => .bad
  | .exn e _ θ' => .exn e ρ θ'
  | .bad => .bad
/-- a fresh dict -/
def callQ (f : Mir) (es : List Ent) : M KD := fun ρ θ => match f es θ with
  | .ok (.q k l) θ' => .ok (k, l) θ'
  | .exn e _ θ' => .exn e ρ θ'
  | _ => .bad
def callO (f : Mir) (es : List Ent) : M (List Dt) := fun ρ θ => match f es θ with
  | .ok (.o l) θ' => .ok l θ'
  | .exn e _ θ' => .exn e ρ θ'
  | _ => .bad
theorem callD_sp {f : Mir} {n : Nat} {es : List Ent} {vs : List V} {σ : L2.St} {ρ : DEnv} {H Hs : Hp} {θ : Pot} {Q : VK} (st : StOk X.K F σ H Hs ρ θ) (hl : vs.length = n) (he : Ents X.K F.ap Hs es vs) (h : Post (callD f es ρ θ) (OkD X F σ ρ Q Hs) (ExW X F W Hs)) : spF X.K X.mg n f vs H Q (fun c d H' => W c d σ H') := by
  refine ⟨hl, F.ap, Hs, es, θ, st.sub, st.tab, st.hap, st.pot, he, ?_⟩
  unfold callD at h
  cases e : f es θ with
  | ok r θ1 =>
    rw [e] at h
    cases r with
    | d d => exact fun v H' Hs' fe rv => h v H' Hs' fe.s (st_end st fe) rv
    | o l =>
      rintro v H' Hs' fe ⟨a, xs, rfl, e1, e2, e3, e4⟩
      have st' := st_end st fe
      refine h (.ref a) H' _ (fe.s.trans (same_upd e3)) (st_freeze st' e1 e3 (h0_none st e4) (ap_ne st e4) (own_ne st e4)) ⟨a, xs, rfl, SqL.of upd_same, Reps.mono (same_upd e3) l e2⟩
    | q k l => exact h.elim
  | exn x ρ1 θ1 =>
    rw [e] at h
    exact fun c dd H' Hs' fe xa => h c dd σ H' Hs' fe.s (st_end st fe) xa
  | bad =>
    rw [e] at h
    exact h
theorem callO_sp {f : Mir} {n : Nat} {es : List Ent} {vs : List V} {σ : L2.St} {ρ : DEnv} {H Hs : Hp} {θ : Pot} {Q : VK} (st : StOk X.K F σ H Hs ρ θ) (hl : vs.length = n) (he : Ents X.K F.ap Hs es vs) (h : Post (callO f es ρ θ) (OkO X F σ ρ Q Hs) (ExW X F W Hs)) : spF X.K X.mg n f vs H Q (fun c d H' => W c d σ H') := by
  refine ⟨hl, F.ap, Hs, es, θ, st.sub, st.tab, st.hap, st.pot, he, ?_⟩
  unfold callO at h
  cases e : f es θ with
  | ok r θ1 =>
    rw [e] at h
    cases r with
    | d d => exact h.elim
    | o l =>
      rintro v H' Hs' fe ⟨a, xs, rfl, e1, e2, e3, e4⟩
      exact h a xs H' Hs' fe.s (st_end st fe) e1 e2 e3 (h0_none st e4) (ap_ne st e4) (own_ne st e4)
    | q k l => exact h.elim
  | exn x ρ1 θ1 =>
    rw [e] at h
    exact fun c dd H' Hs' fe xa => h c dd σ H' Hs' fe.s (st_end st fe) xa
  | bad =>
    rw [e] at h
    exact h
theorem dic_ne {σ : L2.St} {ρ : DEnv} {H Hs : Hp} {θ : Pot} {p : Addr} (st : StOk X.K F σ H Hs ρ θ) (np : H p = none) : ∀ (i : Nat) (g : Bool) (ks : List (List Int)) (vs : List Dt), ρ[i]? = some (some (.dic g ks vs)) → σ[i]? ≠ some (some (.ref p)) := fun i g ks vs e z => by
  obtain ⟨a, xs, e1, e2, _⟩ := st.dic i g ks vs e
  rw [z] at e1
  cases e1
  rw [np] at e2
  cases e2
theorem run_p {k : Nat} {f : Addr} {fd : FuncData} {ps : List Str} {m : Mir} {pins : List (Addr × Obj)} {σ : L2.St} {H : Hp} {s : Shared} {Q : VK} {us xs : List Value} {kw : List (Str × Value)} {vs : List V} (G : FnP X.prog X.w X.K X.mg X.base k f fd ps m) (hr : Room k X.A) (hg : X.A.guards = some []) (tk : Takes X W)
    (I : Inv X pins σ H s) (r : Vals vs xs) (bt : BindsTo s fd ⟨us, kw⟩ (ps.zip xs)) (h : spF X.K X.mg ps.length m vs H Q (fun c d H' => W c d σ H')) : wpAny (model X.prog X.w) X.A (call (.ref f) us kw) (EP X pins σ Q) X.xe s := by
  refine wpAny_call (codeAny_mono (G.run X.A X.stack s H ⟨us, kw⟩ xs vs Q _ hr hg I.env0 bt r h) fun z s' hq => ?_)
  cases z with
  | error e => exact tk e s' (XE.of_call I (fun _ _ _ q => q) hq)
  | ok fl =>
    cases fl with
    | ret u => exact I.after hq
    | next => exact hq.elim
    | brk => exact hq.elim
    | cont => exact hq.elim
/-- how a call's values, in the order in which they are written, come to the parameters: n positional ones, the keywords' ks, the defaults ds -/
def Bt (K : PySem.W.Frag) (fd : FuncData) (ps : List Str) (n : Nat) (ks : List Str) (ds : List Value) (is : List Nat) : Prop :=
  ∀ (s : Shared) (us ws : List Value), K.In s.heap → us.length = n → ws.length = ks.length → BindsTo s fd ⟨us, ks.zip ws⟩ (ps.zip (pick is (us ++ (ws ++ ds))))
def mCallD (f : Mir) (des : List Ent) (is : List Nat) (ma mk : M (List Ent)) : M Dt := bnd ma fun l => bnd mk fun r => callD f (pick is (l ++ (r ++ des)))
def mCallO (f : Mir) (des : List Ent) (is : List Nat) (ma mk : M (List Ent)) : M (List Dt) := bnd ma fun l => bnd mk fun r => callO f (pick is (l ++ (r ++ des)))
theorem pick_len {α β : Type} {l : List α} {m : List β} (h : l.length = m.length) : ∀ is : List Nat, (pick is l).length = (pick is m).length
  | [] => rfl
  | i :: is => by
    have ih := pick_len h is
    unfold pick at ih ⊢
    rw [List.filterMap_cons, List.filterMap_cons]
    by_cases q : i < l.length
    · rw [List.getElem?_eq_getElem q, List.getElem?_eq_getElem (show i < m.length by omega)]
      show (_ :: _).length = (_ :: _).length
      rw [List.length_cons, List.length_cons, ih]
    · rw [List.getElem?_eq_none (by omega), List.getElem?_eq_none (by omega)]
      exact ih
section
variable {k : Nat} {f : Addr} {fd : FuncData} {ps ks : List Str} {m : Mir} {n j : Nat} {ds : List Value} {dvs : List V} {des : List Ent} {is : List Nat} {ma mk : M (List Ent)} {kws : List Keyword} {e : Expr}
def tC2 (ta tk : TA) (sp : L2.St → List V → List V → Hp → VK → Prop) : TE := fun σ H Q => ta σ H fun vs H1 => tk σ H1 fun zs H2 => sp σ vs zs H2 Q
theorem call_lens (G : FnP X.prog X.w X.K X.mg X.base k f fd ps m) (bl : ∀ l : List Nat, l.length = n + (ks.length + ds.length) → (pick is l).length = ps.length) {α : Type} {l : List α} (h : l.length = n + (ks.length + ds.length)) : (pick is l).length = ps.length := by
  rw [pick_len (m := List.range l.length) (by rw [List.length_range]) is]
  exact bl _ (by rw [List.length_range]; exact h)
theorem tE_with {σ : L2.St} {H : Hp} {Q : List V → Hp → Prop} {ml : M (List Ent)} {n : Nat} (la : LenE ml n) (h : tE X F W ml σ H fun vs H' => vs.length = n → Q vs H') : tE X F W ml σ H fun vs H' => vs.length = n ∧ Q vs H' := by
  obtain ⟨ρ, θ, Hs, st, h⟩ := h
  refine ⟨ρ, θ, Hs, st, h.both.imp (fun l θ' q vs H' Hs' s' st' r => ?_) fun _ _ _ z => z⟩
  have e : vs.length = n := (ents_len r).symm.trans (la _ _ _ _ q.1)
  exact ⟨e, q.2 vs H' Hs' s' st' r e⟩
theorem callK_go (tk : Takes X W) (G : FnP X.prog X.w X.K X.mg X.base k f fd ps m) (hr : Room k X.A) (hg : X.A.guards = some []) (gl : Gl X x) (hm : X.mg x = some (.ref f)) (kp : PySem.W.keepIn X.K (.ref f) = true) (bt : Bt X.K fd ps n ks ds is) (hd : Vals dvs ds)
    (ha : PAE X F W (e :: es) ma) (hk : PKE X F W kws mk) (la : LenE ma n) (lk : LenE mk ks.length) (hks : (backToKw pos (keywordEach kws X.env)).filterMap (·.1) = ks) (hall : (backToKw pos (keywordEach kws X.env)).all (·.1.isSome) = true)
    (he : starEach (e :: es) X.env = (false, eval e X.env) :: starEach es X.env) (hpl : ((backTo pos (starEach (e :: es) X.env)).any (·.1) || (backToKw pos (keywordEach kws X.env)).any (·.1.isNone)) = false) (hdb : (x == ("__debug__" : Str)) = false) :
    PE X (.Call (.Name x p) (e :: es) kws pos) (tC2 (fun σ H Q => tE X F W ma σ H fun vs H' => vs.length = n → Q vs H') (fun σ H Q => tE X F W mk σ H fun zs H' => zs.length = ks.length → Q zs H') fun σ vs zs H2 Q => spF X.K X.mg ps.length m (pick is (vs ++ (zs ++ dvs))) H2 Q (fun c d H' => W c d σ H')) := by
  refine ⟨fun pins s σ H Q I h => ?_⟩
  refine wpAny_Call_Name_kw (ld_glob I gl hm ?_ hdb)
  refine PySem.W.callWith_KW (h₀ := X.base) I.ok.mod.kin kp hall (thn (ha.run pos pins s σ H _ I (tE_with la h)) fun us s1 ⟨vs, H1, I1, r1, l1, q1⟩ => ?_) hpl he
  refine thn (hk.run pos pins s1 σ H1 _ I1 (tE_with lk q1)) fun ws s2 ⟨zs, H2, I2, r2, lz, q2⟩ => ⟨I2.kIn, ?_⟩
  rw [hks]
  exact run_p G hr hg tk I2 (vals_pick (r1.append (r2.append hd)) is) (bt s2 us ws I2.kIn (r1.length.symm.trans l1) (r2.length.symm.trans lz)) q2
theorem callK0_go (tk : Takes X W) (G : FnP X.prog X.w X.K X.mg X.base k f fd ps m) (hr : Room k X.A) (hg : X.A.guards = some []) (gl : Gl X x) (hm : X.mg x = some (.ref f)) (kp : PySem.W.keepIn X.K (.ref f) = true) (bt : Bt X.K fd ps 0 ks ds is) (hd : Vals dvs ds)
    (hk : PKE X F W kws mk) (lk : LenE mk ks.length) (hks : (backToKw pos (keywordEach kws X.env)).filterMap (·.1) = ks) (hall : (backToKw pos (keywordEach kws X.env)).all (·.1.isSome) = true)
    (hpl : ((backTo pos (starEach [] X.env)).any (·.1) || (backToKw pos (keywordEach kws X.env)).any (·.1.isNone)) = false) (hdb : (x == ("__debug__" : Str)) = false) :
    PE X (.Call (.Name x p) [] kws pos) (fun σ H Q => tE X F W mk σ H fun zs H2 => zs.length = ks.length → spF X.K X.mg ps.length m (pick is ([] ++ (zs ++ dvs))) H2 Q (fun c d H' => W c d σ H')) := by
  refine ⟨fun pins s σ H Q I h => ?_⟩
  refine wpAny_Call_Name_kw (ld_glob I gl hm ?_ hdb)
  refine PySem.W.callWith_KW0 (h₀ := X.base) I.ok.mod.kin kp hall (thn (hk.run pos pins s σ H _ I (tE_with lk h)) fun ws s2 ⟨zs, H2, I2, r2, lz, q2⟩ => ⟨I2.kIn, ?_⟩) hpl
  rw [hks]
  exact run_p G hr hg tk I2 (vals_pick (r2.append hd) is) (bt s2 [] ws I2.kIn rfl (r2.length.symm.trans lz)) q2
/-- f(e, .., k = v, ..) -/
theorem pd_call (tk : Takes X W) (G : FnP X.prog X.w X.K X.mg X.base k f fd ps m) (hr : Room k X.A) (hg : X.A.guards = some []) (hm : X.mg x = some (.ref f)) (kp : PySem.W.keepIn X.K (.ref f) = true) (bt : Bt X.K fd ps n ks ds is) (hd : Vals dvs ds) (hde : ∀ ap Hs, Ents X.K ap Hs des dvs)
    (ha : PAE X F W (e :: es) ma) (hk : PKE X F W kws mk) (la : LenE ma n) (lk : LenE mk ks.length) (bl : ∀ l : List Nat, l.length = n + (ks.length + ds.length) → (pick is l).length = ps.length) (gl : Gl X x := by rfl)
    (hks : (backToKw pos (keywordEach kws X.env)).filterMap (·.1) = ks := by rfl) (hall : (backToKw pos (keywordEach kws X.env)).all (·.1.isSome) = true := by rfl)
    (he : starEach (e :: es) X.env = (false, eval e X.env) :: starEach es X.env := by rfl) (hpl : ((backTo pos (starEach (e :: es) X.env)).any (·.1) || (backToKw pos (keywordEach kws X.env)).any (·.1.isNone)) = false := by rfl) (hdb : (x == ("__debug__" : Str)) = false := by decide) :
    PD X F W (.Call (.Name x p) (e :: es) kws pos) (mCallD m des is ma mk) := by
  refine pe_imp (callK_go tk G hr hg gl hm kp bt hd ha hk la lk hks hall he hpl hdb) fun σ H Q h => ?_
  obtain ⟨ρ, θ, Hs, st, h⟩ := h
  refine then_E OkD.anti st h fun vs l H1 Hs1 θ1 s1 st1 r1 h ln => ?_
  refine then_E OkD.anti st1 h fun zs l2 H2 Hs2 θ2 s2 st2 r2 h lz => ?_
  refine callD_sp st2 (call_lens G bl ?_) (ents_pick (ents_append (ents_mono s2 r1) (ents_append r2 (hde _ _))) is) h
  rw [List.length_append, List.length_append, ln, lz, hd.length]
theorem po_call (tk : Takes X W) (G : FnP X.prog X.w X.K X.mg X.base k f fd ps m) (hr : Room k X.A) (hg : X.A.guards = some []) (hm : X.mg x = some (.ref f)) (kp : PySem.W.keepIn X.K (.ref f) = true) (bt : Bt X.K fd ps n ks ds is) (hd : Vals dvs ds) (hde : ∀ ap Hs, Ents X.K ap Hs des dvs)
    (ha : PAE X F W (e :: es) ma) (hk : PKE X F W kws mk) (la : LenE ma n) (lk : LenE mk ks.length) (bl : ∀ l : List Nat, l.length = n + (ks.length + ds.length) → (pick is l).length = ps.length) (gl : Gl X x := by rfl)
    (hks : (backToKw pos (keywordEach kws X.env)).filterMap (·.1) = ks := by rfl) (hall : (backToKw pos (keywordEach kws X.env)).all (·.1.isSome) = true := by rfl)
    (he : starEach (e :: es) X.env = (false, eval e X.env) :: starEach es X.env := by rfl) (hpl : ((backTo pos (starEach (e :: es) X.env)).any (·.1) || (backToKw pos (keywordEach kws X.env)).any (·.1.isNone)) = false := by rfl) (hdb : (x == ("__debug__" : Str)) = false := by decide) :
    PO X F W (.Call (.Name x p) (e :: es) kws pos) (mCallO m des is ma mk) := by
  refine pe_imp (callK_go tk G hr hg gl hm kp bt hd ha hk la lk hks hall he hpl hdb) fun σ H Q h => ?_
  obtain ⟨ρ, θ, Hs, st, h⟩ := h
  refine then_E OkO.anti st h fun vs l H1 Hs1 θ1 s1 st1 r1 h ln => ?_
  refine then_E OkO.anti st1 h fun zs l2 H2 Hs2 θ2 s2 st2 r2 h lz => ?_
  refine callO_sp st2 (call_lens G bl ?_) (ents_pick (ents_append (ents_mono s2 r1) (ents_append r2 (hde _ _))) is) h
  rw [List.length_append, List.length_append, ln, lz, hd.length]
theorem pd_call0 (tk : Takes X W) (G : FnP X.prog X.w X.K X.mg X.base k f fd ps m) (hr : Room k X.A) (hg : X.A.guards = some []) (hm : X.mg x = some (.ref f)) (kp : PySem.W.keepIn X.K (.ref f) = true) (bt : Bt X.K fd ps 0 ks ds is) (hd : Vals dvs ds) (hde : ∀ ap Hs, Ents X.K ap Hs des dvs)
    (hk : PKE X F W kws mk) (lk : LenE mk ks.length) (bl : ∀ l : List Nat, l.length = 0 + (ks.length + ds.length) → (pick is l).length = ps.length) (gl : Gl X x := by rfl)
    (hks : (backToKw pos (keywordEach kws X.env)).filterMap (·.1) = ks := by rfl) (hall : (backToKw pos (keywordEach kws X.env)).all (·.1.isSome) = true := by rfl)
    (hpl : ((backTo pos (starEach [] X.env)).any (·.1) || (backToKw pos (keywordEach kws X.env)).any (·.1.isNone)) = false := by rfl) (hdb : (x == ("__debug__" : Str)) = false := by decide) :
    PD X F W (.Call (.Name x p) [] kws pos) (mCallD m des is mENil mk) := by
  refine pe_imp (callK0_go tk G hr hg gl hm kp bt hd hk lk hks hall hpl hdb) fun σ H Q h => ?_
  obtain ⟨ρ, θ, Hs, st, h⟩ := h
  refine then_E OkD.anti st h fun zs l2 H2 Hs2 θ2 s2 st2 r2 h lz => ?_
  refine callD_sp st2 (call_lens G bl ?_) (ents_pick (ents_append (es := []) (vs := []) rfl (ents_append r2 (hde _ _))) is) h
  rw [List.nil_append, List.length_append, lz, hd.length]
  omega
end

/-- a built-in whose value is plain: what it takes is read alone -/
def CallS (X : Cx) (fv : Value) (g : List Dt → Option Dt) : Prop := ∃ r, CallR X fv r ∧ ∀ ds d, g ds = some d → ∀ (H : Hp) (xs : List V) (Q : VK), Reps X.K H ds xs → (∀ v, (∀ H', Rep X.K H' d v) → Q v H) → r xs H Q
theorem CallS.or {fv : Value} {g g' : List Dt → Option Dt} (h : CallS X fv g) (h' : CallS X fv g') : CallS X fv (fun l => (g l).or (g' l)) := by
  obtain ⟨r, o, k⟩ := h
  obtain ⟨r', o', k'⟩ := h'
  refine ⟨fun xs H Q => r xs H Q ∨ r' xs H Q, fun pins s σ H xs us Q I rv q => ?_, fun ds d e H xs Q rp q => ?_⟩
  · rcases q with q | q
    · exact o pins s σ H xs us Q I rv q
    · exact o' pins s σ H xs us Q I rv q
  · have e : (g ds).or (g' ds) = some d := e
    cases e1 : g ds with
    | some d' =>
      rw [e1] at e
      exact Or.inl (k ds d (e1.trans e) H xs Q rp q)
    | none =>
      rw [e1] at e
      exact Or.inr (k' ds d e H xs Q rp q)
def mB (g : List Dt → Option Dt) (ml : M (List Dt)) : M Dt := bnd ml fun l => opt (g l)
theorem callS_run {fv : Value} {g : List Dt → Option Dt} {r : List V → Hp → VK → Prop} {ml : M (List Dt)} (k : ∀ ds d, g ds = some d → ∀ (H : Hp) (xs : List V) (Q : VK), Reps X.K H ds xs → (∀ v, (∀ H', Rep X.K H' d v) → Q v H) → r xs H Q)
    {σ : L2.St} {H : Hp} {Q : VK} (h : tD X F W (mB g ml) σ H Q) : tCB r (tA X F W ml) σ H Q := by
  obtain ⟨ρ, θ, Hs, st, h⟩ := h
  refine then_A OkD.anti st h fun xs l H1 Hs1 θ1 s1 st1 r1 h => ?_
  obtain ⟨d, e, q⟩ := post_opt h
  exact k l d e H1 xs Q (Reps.mono st1.sub l r1) fun v rv => fin_D q st1 (rv _)
/-- a list of one's own, lent -/
def mBor (i : Nat) : M (List Dt) := fun ρ θ => match ρ[i]? with
  | some (some (.own l)) => .ok [.lst l] θ
  | _ => .bad
section
variable {id T : String} {g : List Dt → Option Dt} {ml : M (List Dt)} {e : Expr}
theorem pd_B (hc : CallS X (.builtin id) g) (hm : X.mg x = none) (ha : PAD X F W (e :: es) ml) (hv : bootBuiltins x = some (.builtin id) := by decide +kernel) (hg : Gl X x := by rfl) (hn : x ≠ "__name__" := by decide) (hdb : (x == ("__debug__" : Str)) = false := by decide)
    (he : starEach (e :: es) X.env = (false, eval e X.env) :: starEach es X.env := by rfl) (hpl : (backTo pos (starEach es X.env)).any (·.1) = false := by rfl) : PD X F W (.Call (.Name x p) (e :: es) [] pos) (mB g ml) := by
  obtain ⟨r, o, k⟩ := hc
  exact pe_imp (pe_callB o hg hm hv ha hn hdb he hpl) fun σ H Q h => callS_run (fv := .builtin id) k h
theorem pd_Ty (hc : CallS X (.type T) g) (hm : X.mg x = none) (ha : PAD X F W (e :: es) ml) (hv : bootBuiltins x = some (.type T) := by decide +kernel) (hg : Gl X x := by rfl) (hn : x ≠ "__name__" := by decide) (hdb : (x == ("__debug__" : Str)) = false := by decide)
    (he : starEach (e :: es) X.env = (false, eval e X.env) :: starEach es X.env := by rfl) (hpl : (backTo pos (starEach es X.env)).any (·.1) = false := by rfl) : PD X F W (.Call (.Name x p) (e :: es) [] pos) (mB g ml) := by
  obtain ⟨r, o, k⟩ := hc
  exact pe_imp (pe_callTy o hg hm hv ha hn hdb he hpl) fun σ H Q h => callS_run (fv := .type T) k h
theorem pd_Bm (hc : CallS X (.builtin id) g) (hm : X.mg x = some (.builtin id)) (ha : PAD X F W (e :: es) ml) (hg : Gl X x := by rfl) (hdb : (x == ("__debug__" : Str)) = false := by decide)
    (he : starEach (e :: es) X.env = (false, eval e X.env) :: starEach es X.env := by rfl) (hpl : (backTo pos (starEach es X.env)).any (·.1) = false := by rfl) : PD X F W (.Call (.Name x p) (e :: es) [] pos) (mB g ml) := by
  obtain ⟨r, o, k⟩ := hc
  exact pe_imp (pe_callBfun o hg hm ha hdb he hpl) fun σ H Q h => callS_run (fv := .builtin id) k h
end
end
end Pd



namespace Pd
open PySem PySem.Spec PyProof.Rows L2
variable [Pd.LamTab]
section
variable {X : Cx}
theorem rep1 {K : PySem.W.Frag} {H : Hp} {d : Dt} {xs : List V} (h : Reps K H [d] xs) : ∃ x, xs = [x] ∧ Rep K H d x := by
  obtain ⟨x, r, rfl, h1, rfl⟩ := h
  exact ⟨x, rfl, h1⟩
theorem rep2 {K : PySem.W.Frag} {H : Hp} {d e : Dt} {xs : List V} (h : Reps K H [d, e] xs) : ∃ x y, xs = [x, y] ∧ Rep K H d x ∧ Rep K H e y := by
  obtain ⟨x, r, rfl, h1, y, r2, rfl, h2, rfl⟩ := h
  exact ⟨x, y, rfl, h1, h2⟩
def gAbs : List Dt → Option Dt
  | [.int i] => some (.int (if i < 0 then -i else i))
  | _ => none
theorem cs_abs : CallS X (.builtin "abs") gAbs := by
  refine ⟨_, call_abs, fun ds d e H xs Q r q => ?_⟩
  unfold gAbs at e
  split at e
  · cases e
    obtain ⟨x, rfl, h1⟩ := rep1 r
    exact ⟨_, by rw [show x = _ from h1], q _ fun _ => rfl⟩
  · cases e
def gMax2 : List Dt → Option Dt
  | [.int i, .int j] => some (.int (if j > i then j else i))
  | _ => none
def gMin2 : List Dt → Option Dt
  | [.int i, .int j] => some (.int (if j < i then j else i))
  | _ => none
theorem cs_max2 (hc : X.calm = true) : CallS X (.builtin "max") gMax2 := by
  refine ⟨_, call_max2 hc, fun ds d e H xs Q r q => ?_⟩
  unfold gMax2 at e
  split at e
  · cases e
    obtain ⟨x, y, rfl, h1, h2⟩ := rep2 r
    exact ⟨_, _, by rw [show x = _ from h1, show y = _ from h2], q _ fun _ => rfl⟩
  · cases e
/-- a list of ints, of bools -/
def intsOf : List Dt → Option (List Int)
  | [] => some []
  | .int i :: l => (intsOf l).map (i :: ·)
  | _ => none
theorem intsOf_eq : ∀ {l : List Dt} {ns : List Int}, intsOf l = some ns → l = ns.map Dt.int
  | [], ns, h => by cases h; rfl
  | .int i :: l, ns, h => by
    obtain ⟨ms, e, rfl⟩ := Option.map_eq_some_iff.mp (show (intsOf l).map (i :: ·) = some ns from h)
    rw [intsOf_eq e, List.map_cons]
  | .non :: _, _, h => nomatch h
  | .bl _ :: _, _, h => nomatch h
  | .str _ :: _, _, h => nomatch h
  | .lst _ :: _, _, h => nomatch h
  | .tup _ :: _, _, h => nomatch h
  | .raw _ :: _, _, h => nomatch h
  | .cls _ _ :: _, _, h => nomatch h
  | .dct _ _ :: _, _, h => nomatch h
def boolsOf : List Dt → Option (List Bool)
  | [] => some []
  | .bl i :: l => (boolsOf l).map (i :: ·)
  | _ => none
theorem boolsOf_eq : ∀ {l : List Dt} {ns : List Bool}, boolsOf l = some ns → l = ns.map Dt.bl
  | [], ns, h => by cases h; rfl
  | .bl i :: l, ns, h => by
    obtain ⟨ms, e, rfl⟩ := Option.map_eq_some_iff.mp (show (boolsOf l).map (i :: ·) = some ns from h)
    rw [boolsOf_eq e, List.map_cons]
  | .non :: _, _, h => nomatch h
  | .int _ :: _, _, h => nomatch h
  | .str _ :: _, _, h => nomatch h
  | .lst _ :: _, _, h => nomatch h
  | .tup _ :: _, _, h => nomatch h
  | .raw _ :: _, _, h => nomatch h
  | .cls _ _ :: _, _, h => nomatch h
  | .dct _ _ :: _, _, h => nomatch h
/-- the greatest, the least -/
def maxI : List Int → Int
  | [] => 0
  | i :: l => l.foldl (fun a b => if b > a then b else a) i
def minI : List Int → Int
  | [] => 0
  | i :: l => l.foldl (fun a b => if b < a then b else a) i
theorem foldl_max (l : List Int) (i : Int) : (l.foldl (fun a b => if b > a then b else a) i = i ∨ l.foldl (fun a b => if b > a then b else a) i ∈ l) ∧ i ≤ l.foldl (fun a b => if b > a then b else a) i ∧ ∀ y ∈ l, y ≤ l.foldl (fun a b => if b > a then b else a) i := by
  induction l generalizing i with
  | nil => exact ⟨Or.inl rfl, Int.le_refl _, fun y hy => nomatch hy⟩
  | cons b l ih =>
    obtain ⟨h1, h2, h3⟩ := ih (if b > i then b else i)
    rw [List.foldl_cons]
    refine ⟨?_, ?_, fun y hy => ?_⟩
    · rcases h1 with h1 | h1
      · by_cases z : b > i
        · rw [if_pos z] at h1 ⊢
          exact Or.inr (by rw [h1]; exact List.mem_cons_self)
        · rw [if_neg z] at h1 ⊢
          exact Or.inl h1
      · exact Or.inr (List.mem_cons_of_mem _ h1)
    · by_cases z : b > i
      · rw [if_pos z] at h2 ⊢
        omega
      · rw [if_neg z] at h2 ⊢
        omega
    · rcases List.mem_cons.mp hy with e | hy
      · subst e
        by_cases z : y > i
        · rw [if_pos z] at h2 ⊢
          omega
        · rw [if_neg z] at h2 ⊢
          omega
      · exact h3 y hy
theorem maxI_mem {l : List Int} (h : l ≠ []) : maxI l ∈ l := by
  cases l with
  | nil => exact absurd rfl h
  | cons i l =>
    rcases (foldl_max l i).1 with e | e
    · show l.foldl _ i ∈ _
      rw [e]
      exact List.mem_cons_self
    · exact List.mem_cons_of_mem _ e
theorem maxI_ge {l : List Int} {y : Int} (h : y ∈ l) : y ≤ maxI l := by
  cases l with
  | nil => cases h
  | cons i l =>
    rcases List.mem_cons.mp h with e | e
    · rw [e]
      exact (foldl_max l i).2.1
    · exact (foldl_max l i).2.2 y e
def gMaxL : List Dt → Option Dt
  | [.lst l] => (intsOf l).bind fun ns => if ns.isEmpty then none else some (.int (maxI ns))
  | _ => none
def gMinL : List Dt → Option Dt
  | [.lst l] => (intsOf l).bind fun ns => if ns.isEmpty then none else some (.int (minI ns))
  | _ => none
theorem listArg {K : PySem.W.Frag} {H : Hp} {l : List Dt} {xs : List V} (r : Reps K H [.lst l] xs) : ∃ a ys, xs = [.ref a] ∧ SqL K H a ys ∧ Reps K H l ys := by
  obtain ⟨x, rfl, a, ys, rfl, h1, h2⟩ := rep1 r
  exact ⟨a, ys, rfl, h1, h2⟩
theorem cs_maxL (hc : X.calm = true) : CallS X (.builtin "max") gMaxL := by
  refine ⟨_, cr_max hc, fun ds d e H xs Q r q => ?_⟩
  unfold gMaxL at e
  split at e
  · rename_i l
    obtain ⟨ns, e1, e2⟩ := Option.bind_eq_some_iff.mp e
    cases ns with
    | nil => cases e2
    | cons n ns =>
      cases e2
      obtain ⟨a, ys, rfl, h1, h2⟩ := listArg r
      rw [intsOf_eq e1] at h2
      rw [Reps.ints h2] at h1
      refine ⟨a, n :: ns, rfl, h1, Nat.succ_pos _, fun m hm hle => ?_⟩
      have z : m = maxI (n :: ns) := by
        have z1 := hle _ (maxI_mem (List.cons_ne_nil n ns))
        have z2 := maxI_ge hm
        omega
      rw [z]
      exact q _ fun _ => rfl
  · cases e
def gMax (l : List Dt) : Option Dt := (gMax2 l).or (gMaxL l)
def gMin (l : List Dt) : Option Dt := (gMin2 l).or (gMinL l)
theorem cs_max (hc : X.calm = true) : CallS X (.builtin "max") gMax := (cs_max2 hc).or (cs_maxL hc)
def gSum : List Dt → Option Dt
  | [.lst l] => (intsOf l).map fun ns => .int ns.sum
  | _ => none
theorem cs_sum (hc : X.calm = true) : CallS X (.builtin "sum") gSum := by
  refine ⟨_, cr_sum hc, fun ds d e H xs Q r q => ?_⟩
  unfold gSum at e
  split at e
  · rename_i l
    obtain ⟨ns, e1, rfl⟩ := Option.map_eq_some_iff.mp e
    obtain ⟨a, ys, rfl, h1, h2⟩ := listArg r
    rw [intsOf_eq e1] at h2
    rw [Reps.ints h2] at h1
    exact ⟨a, ns, rfl, h1, q _ fun _ => rfl⟩
  · cases e
def gAll : List Dt → Option Dt
  | [.lst l] => (boolsOf l).map fun ns => .bl (ns.all id)
  | _ => none
def gAny : List Dt → Option Dt
  | [.lst l] => (boolsOf l).map fun ns => .bl (ns.any id)
  | _ => none
theorem cs_all (hc : X.calm = true) : CallS X (.builtin "all") gAll := by
  refine ⟨_, cr_all hc, fun ds d e H xs Q r q => ?_⟩
  unfold gAll at e
  split at e
  · rename_i l
    obtain ⟨ns, e1, rfl⟩ := Option.map_eq_some_iff.mp e
    obtain ⟨a, ys, rfl, h1, h2⟩ := listArg r
    rw [boolsOf_eq e1] at h2
    rw [Reps.bools h2] at h1
    exact ⟨a, ns, rfl, h1, q _ fun _ => rfl⟩
  · cases e
theorem cs_any (hc : X.calm = true) : CallS X (.builtin "any") gAny := by
  refine ⟨_, cr_any hc, fun ds d e H xs Q r q => ?_⟩
  unfold gAny at e
  split at e
  · rename_i l
    obtain ⟨ns, e1, rfl⟩ := Option.map_eq_some_iff.mp e
    obtain ⟨a, ys, rfl, h1, h2⟩ := listArg r
    rw [boolsOf_eq e1] at h2
    rw [Reps.bools h2] at h1
    exact ⟨a, ns, rfl, h1, q _ fun _ => rfl⟩
  · cases e
def gLen : List Dt → Option Dt
  | [.lst l] => some (.int l.length)
  | [.tup l] => some (.int l.length)
  | [.str s] => if s.length ≤ sizeLine then some (.int s.length) else none
  | _ => none
theorem cs_len : CallS X (.builtin "len") gLen := by
  refine ⟨_, call_len, fun ds d e H xs Q r q => ?_⟩
  unfold gLen at e
  split at e
  · rename_i l
    cases e
    obtain ⟨x, rfl, a, ys, rfl, h1, h2⟩ := rep1 r
    refine ⟨_, l.length, rfl, Or.inl ⟨ys, h1, h2.length⟩, q _ fun _ => rfl⟩
  · rename_i l
    cases e
    obtain ⟨x, rfl, a, ys, rfl, h1, h2⟩ := rep1 r
    refine ⟨_, l.length, rfl, Or.inr ⟨ys, h1, h2.length⟩, q _ fun _ => rfl⟩
  · rename_i s
    by_cases z : s.length ≤ sizeLine
    · rw [if_pos z] at e
      cases e
      obtain ⟨x, rfl, h1⟩ := rep1 r
      rw [show x = _ from h1]
      exact ⟨_, s.length, rfl, ⟨z, rfl⟩, q _ fun _ => rfl⟩
    · rw [if_neg z] at e
      cases e
  · cases e
def gInt : List Dt → Option Dt
  | [.int i] => some (.int i)
  | [.bl b] => some (.int (if b then 1 else 0))
  | _ => none
theorem cs_int : CallS X (.type "int") gInt := by
  refine ⟨_, call_int1, fun ds d e H xs Q r q => ?_⟩
  unfold gInt at e
  split at e
  · cases e
    obtain ⟨x, rfl, h1⟩ := rep1 r
    exact Or.inl ⟨_, by rw [show x = _ from h1], q _ fun _ => rfl⟩
  · cases e
    obtain ⟨x, rfl, h1⟩ := rep1 r
    exact Or.inr ⟨_, by rw [show x = _ from h1], q _ fun _ => rfl⟩
  · cases e
def gGcd : List Dt → Option Dt
  | [.int i, .int j] => some (.int ((Nat.gcd i.natAbs j.natAbs : Nat) : Int))
  | _ => none
theorem cs_gcd : CallS X (.builtin "math.gcd") gGcd := by
  refine ⟨_, cr_gcd, fun ds d e H xs Q r q => ?_⟩
  unfold gGcd at e
  split at e
  · cases e
    obtain ⟨x, y, rfl, h1, h2⟩ := rep2 r
    exact ⟨_, _, by rw [show x = _ from h1, show y = _ from h2], q _ fun _ => rfl⟩
  · cases e
def gIsqrt : List Dt → Option Dt
  | [.int i] => if (decide (0 ≤ i) && decide (i.toNat.log2 < 13000)) = true then some (.int ((Float64.isqrt i.toNat : Nat) : Int)) else none
  | _ => none
/-- repr: of data without dicts, nothing being shown -/
def shw (d : Dt) : Option Str := match toP d with
  | some p => if (p.showable && (!p.hasDict && (decide (p.depth ≤ 60) && decide (p.shown.length ≤ sizeLine)))) = true then some p.shown else none
  | none => none
def gRepr : List Dt → Option Dt
  | [d] => (shw d).map Dt.str
  | _ => none
theorem cs_reprU (hu : X.A.units + 178 < cLine) (hg : X.A.guards = some []) : CallS X (.builtin "repr") gRepr := by
  refine ⟨fun xs H Q => ∃ a p, xs = [a] ∧ Dp X.K H a p ∧ p.showable = true ∧ p.hasDict = false ∧ p.depth ≤ 60 ∧ p.shown.length ≤ sizeLine ∧ Q (.str p.shown) H, ?_, fun ds d e H xs Q r q => ?_⟩
  · intro pins s σ H xs us Q I r h
    obtain ⟨a, p, rfl, hd, h1, h2, h3, h4, q⟩ := h
    obtain ⟨u, rfl, ru⟩ := vals1 r
    obtain ⟨as, rd⟩ := Dp.reads I p _ u hd ru
    have big : ∀ a : Addr, u = .ref a → wpAny (model X.prog X.w) X.A (call (.builtin "repr") [u]) (EP X pins σ Q) X.xe s := fun a e => by
      subst e
      exact PySem.repr_of_reads' rd h1 (PySem.PyData.noDict_hsm h2) hg (by omega) (fun _ _ z => z) (fun h' u tk kk => ⟨.str p.shown, H, I.kept kk, ⟨_, rfl⟩, q⟩) h4
    have kk : Inv X pins σ H { s with toks := s.toks + 1 } := I.kept fun b o e => e
    cases hd with
    | non =>
      obtain rfl : u = .none := ru
      simp only [PyData.shown] at q
      exact PySem.P.repr_of_none ⟨.str _, H, kk, ⟨_, rfl⟩, q⟩
    | bl b =>
      obtain rfl : u = .bool b := ru
      simp only [PyData.shown] at q
      exact PySem.P.repr_of_bool ⟨.str _, H, kk, ⟨_, rfl⟩, q⟩
    | int i =>
      obtain ⟨t, rfl⟩ := (show ∃ t, u = .int i t from ru)
      simp only [PyData.shown] at q
      exact PySem.P.repr_of_int (of_decide_eq_true h1) ⟨.str _, H, kk, ⟨_, rfl⟩, q⟩
    | str x =>
      obtain ⟨t, rfl⟩ := (show ∃ t, u = .str x t from ru)
      simp only [PyData.shown] at q h4
      exact PySem.P.repr_of_str ⟨.str _, H, kk, ⟨_, rfl⟩, q⟩ h4
    | lst _ _ => exact big _ ru
    | tup _ _ => exact big _ ru
  · unfold gRepr at e
    split at e
    · rename_i d0
      obtain ⟨x, rfl, rx⟩ := rep1 r
      obtain ⟨s, e1, rfl⟩ := Option.map_eq_some_iff.mp e
      unfold shw at e1
      split at e1
      · rename_i p e2
        by_cases z : (p.showable && (!p.hasDict && (decide (p.depth ≤ 60) && decide (p.shown.length ≤ sizeLine)))) = true
        · rw [if_pos z] at e1
          cases e1
          obtain ⟨z1, z⟩ := Bool.and_eq_true_iff.mp z
          obtain ⟨z2, z⟩ := Bool.and_eq_true_iff.mp z
          obtain ⟨z3, z4⟩ := Bool.and_eq_true_iff.mp z
          exact ⟨x, p, rfl, Rep.dp _ rx e2, z1, by simpa using z2, of_decide_eq_true z3, of_decide_eq_true z4, q _ fun _ => rfl⟩
        · rw [if_neg z] at e1
          cases e1
      · cases e1
    · cases e
end

def tyName : Dt → Option String
  | .non => some "NoneType"
  | .bl _ => some "bool"
  | .int _ => some "int"
  | .str _ => some "str"
  | .lst _ => some "list"
  | .tup _ => some "tuple"
  | .raw _ => none
  | .cls _ _ => none
  | .dct _ _ => some "dict"
/-- a value's type: a dict's, too -/
inductive TyD (K : PySem.W.Frag) (H : Hp) : V → Value → Prop where
  | of {v : V} {t : Value} (h : TyX K H v t) : TyD K H v t
  | dic {a : Addr} {e : List DE} (h : DicL H a e) : TyD K H (.ref a) (.type "dict")
theorem dicL_obj {X : Cx} {pins : List (Addr × Obj)} {σ : L2.St} {H : Hp} {s : Shared} {a : Addr} {e : List DE} (I : Inv X pins σ H s) (h : DicL H a e) : DicW a e ∧ ∃ o, H a = some (.frz o (DicO a e)) ∧ s.heap.get? a = some o ∧ DicObj e o := by
  obtain ⟨o, h⟩ := h
  obtain ⟨hg, ⟨w, o', ho, hd⟩, _⟩ := (show ObjOk X.prog X.w H s.heap a (.frz o (DicO a e)) from I.hok a _ h)
  rw [hg] at ho
  cases ho
  exact ⟨w, o, h, hg, hd⟩
theorem kit_ofD {X : Cx} {pins : List (Addr × Obj)} {σ : L2.St} {H : Hp} {s : Shared} {x : V} {u t : Value} (I : Inv X pins σ H s) (rx : RelV x u) (ty : TyD X.K H x t) : ∃ P : Heap → Prop, PySem.W.KitX X.K u t P ∧ P s.heap ∧ u ≠ .builtin "__main__.__loader__#opaque" := by
  cases ty with
  | of h => exact kit_of I rx h
  | @dic a e h =>
    cases (show u = Value.ref a from rx)
    obtain ⟨_, o, _, h1, h2, _⟩ := dicL_obj I h
    exact ⟨_, PySem.W.kitx_dict, ⟨o, h1, h2.1⟩, fun z => nomatch z⟩
def rIsiD (K : PySem.W.Frag) : List V → Hp → VK → Prop := fun xs H Q => ∃ (x c : V) (t u : Value) (b : Bool), xs = [x, c] ∧ ClsV c u ∧ TyD K H x t ∧ PySem.W.kitOne K t u = some b ∧ Q (.bl b) H
theorem call_isiD {X : Cx} : CallR X (.builtin "isinstance") (rIsiD X.K) := by
  intro pins s σ H xs us Q I r h
  obtain ⟨x, c, t, u, b, rfl, k, ty, e, q⟩ := h
  obtain ⟨u1, u2, rfl, r1, r2⟩ := vals2 r
  have e2 := k.eq r2
  subst e2
  obtain ⟨P, Z, p, hx⟩ := kit_ofD I r1 ty
  exact PySem.W.kia_one Z I.kIn p e hx fun tk => ⟨.bl b, H, I.tok tk, rfl, q⟩
theorem tyName_ok {K : PySem.W.Frag} {H : Hp} {d : Dt} {v : V} {n : String} (r : Rep K H d v) (e : tyName d = some n) : TyD K H v (.type n) := by
  cases d with
  | non => cases e; rw [show v = _ from r]; exact .of <| .base .non
  | bl b => cases e; rw [show v = _ from r]; exact .of <| .base (.bl b)
  | int b => cases e; rw [show v = _ from r]; exact .of <| .base (.int b)
  | str b => cases e; rw [show v = _ from r]; exact .of <| .base (.str b)
  | lst l =>
    cases e
    obtain ⟨a, xs, rfl, h, _⟩ := r
    rcases h with (h | ⟨o, h⟩) | ⟨o, its, m, h1, h2, _⟩
    · exact .of <| .base (.lst h)
    · exact .of <| .base (.frz h)
    · exact .of <| .kList h1 h2
  | tup l =>
    cases e
    obtain ⟨a, xs, rfl, h, _⟩ := r
    rcases h with (h | ⟨o, h⟩) | ⟨o, its, m, h1, h2, _⟩
    · exact .of <| .base (.tup h)
    · exact .of <| .fTuple h
    · exact .of <| .kTuple h1 h2
  | raw u => cases e
  | cls k t => cases e
  | dct ks vs => cases e; obtain ⟨a, es, rfl, h, _⟩ := r; exact .dic h
section
variable {X : Cx} {F : Fr0} {W : WX} {a b : Expr} {pos p q : Pos} {x T : Str}
def isT (n : String) (d : Dt) : Option Bool := (tyName d).bind fun m => kitB m n
def mIsi (n : String) (ma : M Dt) : M Dt := bnd ma fun d => opt ((isT n d).map Dt.bl)
theorem pd_isi {n : String} {ma : M Dt} (hm : X.mg "isinstance" = none) (hT : X.mg T = none) (ha : PD X F W a ma) (hvT : bootBuiltins T = some (.type n) := by decide +kernel) (hg : Gl X "isinstance" := by rfl) (hgT : Gl X T := by rfl) (hnT : T ≠ "__name__" := by decide) (hdT : (T == ("__debug__" : Str)) = false := by decide)
    (he : starEach (a :: [.Name T q]) X.env = (false, eval a X.env) :: starEach [.Name T q] X.env := by rfl) (he2 : starEach [.Name T q] X.env = (false, eval (.Name T q) X.env) :: starEach [] X.env := by rfl) (hpl : (backTo pos (starEach [.Name T q] X.env)).any (·.1) = false := by rfl) :
    PD X F W (.Call (.Name "isinstance" p) [a, .Name T q] [] pos) (mIsi n ma) := by
  refine pe_imp (pe_callB call_isiD hg hm (by decide +kernel) (pa_cons ha (pa_cons (pe_bltn (v := .ty n) hgT hT hvT rfl hnT hdT) pa_nil he2) he) (by decide) (by decide) he hpl) fun σ H Q h => ?_
  obtain ⟨ρ, θ, Hs, st, h⟩ := h
  refine then_D OkD.anti st h fun v d H1 Hs1 θ1 s1 st1 r1 h => ?_
  obtain ⟨d', e, q'⟩ := post_opt h
  obtain ⟨k, e0, rfl⟩ := Option.map_eq_some_iff.mp e
  obtain ⟨m, e1, e2⟩ := Option.bind_eq_some_iff.mp e0
  exact ⟨v, .ty n, .type m, .type n, k, rfl, .ty n, tyName_ok (Rep.mono st1.sub d r1) e1, kit_ty e2, fin_D q' st1 rfl⟩

theorem reps_atI {K : PySem.W.Frag} {H : Hp} {l : List Dt} {xs : List V} {i : Int} {d : Dt} (h : Reps K H l xs) (e : atI l i = some d) : ∃ v, atI xs i = some v ∧ Rep K H d v := by
  unfold atI at e ⊢
  rw [h.length] at e
  obtain ⟨j, e1, e2⟩ := Option.bind_eq_some_iff.mp e
  obtain ⟨v, e3, e4⟩ := h.get e2
  exact ⟨v, by rw [e1]; exact e3, e4⟩
def gIx : Dt → Dt → Option Dt
  | .lst l, .int i => atI l i
  | .tup l, .int i => atI l i
  | .str z, .int i => if z.length ≤ sizeLine then (atI z.cps.toList i).map fun c => .str ⟨#[c]⟩ else none
  | _, _ => none
theorem gIx_run {K : PySem.W.Frag} (a b d : Dt) (e : gIx a b = some d) (Hs H : Hp) (x y : V) (Q : VK) (s : Same Hs H) (ra : Rep K Hs a x) (rb : Rep K Hs b y) (q : ∀ v Hs' H', Grow Hs H Hs' H' → Rep K Hs' d v → Q v H') : rIx K x y H Q := by
  unfold gIx at e
  split at e
  · obtain ⟨p, xs, rfl, h1, h2⟩ := ra
    obtain ⟨v, e1, e2⟩ := reps_atI h2 e
    exact Or.inl ⟨p, xs, _, v, rfl, rb, s.seq h1, e1, q v Hs H (Grow.refl s) e2⟩
  · obtain ⟨p, xs, rfl, h1, h2⟩ := ra
    obtain ⟨v, e1, e2⟩ := reps_atI h2 e
    exact Or.inr (Or.inl ⟨p, xs, _, v, rfl, rb, sqt_mono s h1, e1, q v Hs H (Grow.refl s) e2⟩)
  · rename_i z i
    by_cases hz : z.length ≤ sizeLine
    · rw [if_pos hz] at e
      obtain ⟨c, e1, rfl⟩ := Option.map_eq_some_iff.mp e
      exact Or.inr (Or.inr ⟨z, i, c, ra, rb, hz, e1, q _ Hs H (Grow.refl s) rfl⟩)
    · rw [if_neg hz] at e
      cases e
  · cases e
theorem pd_ix {ma mb : M Dt} (ha : PD X F W a ma) (hb : PD X F W b mb) (hs : PlainIx b := by intro _ _; rfl) : PD X F W (.Subscript a b pos) (mOp gIx ma mb) :=
  pe_imp (pe_ix ix_seq ha hb hs) fun σ H Q h => op_run (f := binaryOp .Add) gIx_run h
end
end Pd



namespace Pd
open PySem PySem.Spec PyProof.Rows L2
variable [Pd.LamTab]
inductive Tgt where
  | n (i : Nat) | t (is : List Nat) | m (ts : List Tg1)
def bind1 : Tg1 → Dt → DEnv → Option DEnv
  | .n i, d, ρ => some (ρ.set i (some (.dat d)))
  | .t is, .tup l, ρ => if l.length = is.length then some ((is.zip l).foldl (fun ρ p => ρ.set p.1 (some (.dat p.2))) ρ) else none
  | .t _, _, _ => none
def bindM : List Tg1 → List Dt → DEnv → Option DEnv
  | [], [], ρ => some ρ
  | t :: ts, d :: ds, ρ => (bind1 t d ρ).bind (bindM ts ds)
  | _, _, _ => none
def bindT : Tgt → Dt → DEnv → Option DEnv
  | .n i, d, ρ => some (ρ.set i (some (.dat d)))
  | .t is, .tup l, ρ => if l.length = is.length then some ((is.zip l).foldl (fun ρ p => ρ.set p.1 (some (.dat p.2))) ρ) else none
  | .m ts, .tup l, ρ => bindM ts l ρ
  | _, _, _ => none
def in1 : Tg1 → Nat → Prop
  | .n k, i => i = k
  | .t is, i => i ∈ is
def inT : Tgt → Nat → Prop
  | .n k, i => i = k
  | .t is, i => i ∈ is
  | .m ts, i => ∃ t ∈ ts, in1 t i
/-- a target with its reading -/
def PGT (X : Cx) (tg : Expr) (T : Tgt) : Prop := ∃ g : TG, PG X tg g ∧ ∀ (F : Fr0) (σ : L2.St) (H Hs : Hp) (ρ ρ' : DEnv) (θ : Pot) (d : Dt) (v : V) (Q : L2.St → Hp → Prop), StOk X.K F σ H Hs ρ θ → Rep X.K Hs d v → bindT T d ρ = some ρ' → (∀ σ', StOk X.K F σ' H Hs ρ' θ → (∀ j, (∀ i, inT T i → i ≠ j) → σ'[j]? = σ[j]?) → σ'.length = σ.length → Q σ' H) → g v σ H Q
def PGTs (X : Cx) (es : List Expr) (is : List Nat) : Prop := PGs X es (gNs is)
section
variable {X : Cx} {es : List Expr} {pos : Pos}
theorem pgts_nil : PGTs X [] [] := pgs_nil
theorem pgts_cons {i : Nat} {x : Str} {is : List Nat} (hN : X.N.Nodup) (h : PGTs X es is) (hi : X.N[i]? = some x := by rfl) (hx : Loc X.env.scope x := by first | exact Or.inl rfl | exact Or.inr rfl)
    (hf : X.fn x = true ∨ X.env.scope.names.lookup x = some .local := by first | exact .inl rfl | exact .inr rfl)
    (hs : (assignEach (.Name x pos :: es) X.env).map (·.2) = assign (.Name x pos) X.env :: (assignEach es X.env).map (·.2) := by rfl) : PGTs X (.Name x pos :: es) (i :: is) := pgs_cons (pg_name hN hi hx hf) h hs
theorem pgt_name {i : Nat} {x : Str} (hN : X.N.Nodup) (hi : X.N[i]? = some x := by rfl) (hx : Loc X.env.scope x := by first | exact Or.inl rfl | exact Or.inr rfl)
    (hf : X.fn x = true ∨ X.env.scope.names.lookup x = some .local := by first | exact .inl rfl | exact .inr rfl) : PGT X (.Name x pos) (.n i) := by
  refine ⟨_, pg_name hN hi hx hf, fun F σ H Hs ρ ρ' θ d v Q st r e q => ?_⟩
  cases e
  exact q _ (st_set st i r) (fun j hj => List.getElem?_set_ne (hj i rfl)) (List.length_set ..)
theorem gNs_run {K : PySem.W.Frag} {F : Fr0} : ∀ {is : List Nat} {l : List Dt} {xs : List V} {σ : L2.St} {H Hs : Hp} {ρ : DEnv} {θ : Pot} {Q : L2.St → Hp → Prop}, Reps K Hs l xs → l.length = is.length → StOk K F σ H Hs ρ θ →
    (∀ σ', StOk K F σ' H Hs ((is.zip l).foldl (fun ρ p => ρ.set p.1 (some (.dat p.2))) ρ) θ → (∀ j, (∀ i, i ∈ is → i ≠ j) → σ'[j]? = σ[j]?) → σ'.length = σ.length → Q σ' H) → gNs is xs σ H Q
  | [], l, xs, σ, H, Hs, ρ, θ, Q, r, e, st, q => by
    match l, e with
    | [], _ =>
      rw [show xs = [] from r]
      exact ⟨rfl, q σ st (fun _ _ => rfl) rfl⟩
  | i :: is, l, xs, σ, H, Hs, ρ, θ, Q, r, e, st, q => by
    match l, e with
    | d :: ds, e =>
      obtain ⟨x, r', rfl, h1, h2⟩ := r
      refine ⟨x, r', rfl, ?_⟩
      exact gNs_run (K := K) (F := F) h2 (by simpa using e) (st_set st i h1) fun σ' st' hj hl => q σ' st' (fun j hh => (hj j fun k hk => hh k (List.mem_cons_of_mem _ hk)).trans (List.getElem?_set_ne (hh i List.mem_cons_self))) (hl.trans (List.length_set ..))
theorem pgt_tup {is : List Nat} {k : Nat} {n : Nat} (hc : X.calm = true) (h : PGTs X es is) (hlen : is.length = n := by rfl) (hn : (assignEach es X.env).length = n := by rfl) (hst : (assignEach es X.env).findIdx? (·.1) = none := by rfl) : PGT X (.Tuple es k pos) (.t is) := by
  refine ⟨_, pg_tup hc h hn hst, fun F σ H Hs ρ ρ' θ d v Q st r e q => ?_⟩
  cases d with
  | tup l =>
    have e : (if l.length = is.length then some ((is.zip l).foldl (fun ρ p => ρ.set p.1 (some (.dat p.2))) ρ) else none) = some ρ' := e
    by_cases z : l.length = is.length
    · rw [if_pos z] at e
      cases e
      obtain ⟨a, xs, rfl, h3, h4⟩ := r
      refine ⟨a, xs, rfl, sqt_mono st.sub h3, by rw [← h4.length, z, hlen], ?_⟩
      exact gNs_run h4 z st fun σ' st' hj hl => q σ' st' hj hl
    · rw [if_neg z] at e
      cases e
  | _ => cases e
def gMs (K : PySem.W.Frag) : List Tg1 → TGs
  | [] => gNil
  | t :: ts => gCons (g1 K t) (gMs K ts)
def PGMs (X : Cx) (es : List Expr) (ts : List Tg1) : Prop := PGs X es (gMs X.K ts)
theorem g1_run {K : PySem.W.Frag} {F : Fr0} {t : Tg1} {d : Dt} {v : V} {σ : L2.St} {H Hs : Hp} {ρ ρ' : DEnv} {θ : Pot} {Q : L2.St → Hp → Prop} (st : StOk K F σ H Hs ρ θ) (r : Rep K Hs d v) (e : bind1 t d ρ = some ρ')
    (q : ∀ σ', StOk K F σ' H Hs ρ' θ → (∀ j, (∀ i, in1 t i → i ≠ j) → σ'[j]? = σ[j]?) → σ'.length = σ.length → Q σ' H) : g1 K t v σ H Q := by
  cases t with
  | n i =>
    cases e
    exact q _ (st_set st i r) (fun j hj => List.getElem?_set_ne (hj i rfl)) (List.length_set ..)
  | t is =>
    cases d with
    | tup l =>
      have e : (if l.length = is.length then some ((is.zip l).foldl (fun ρ p => ρ.set p.1 (some (.dat p.2))) ρ) else none) = some ρ' := e
      by_cases z : l.length = is.length
      · rw [if_pos z] at e
        cases e
        obtain ⟨a, xs, rfl, h3, h4⟩ := r
        refine ⟨a, xs, rfl, sqt_mono st.sub h3, by rw [← h4.length, z], ?_⟩
        exact gNs_run h4 z st fun σ' st' hj hl => q σ' st' hj hl
      · rw [if_neg z] at e
        cases e
    | _ => cases e
theorem gMs_run {K : PySem.W.Frag} {F : Fr0} : ∀ {ts : List Tg1} {l : List Dt} {xs : List V} {σ : L2.St} {H Hs : Hp} {ρ ρ' : DEnv} {θ : Pot} {Q : L2.St → Hp → Prop}, Reps K Hs l xs → bindM ts l ρ = some ρ' → StOk K F σ H Hs ρ θ →
    (∀ σ', StOk K F σ' H Hs ρ' θ → (∀ j, (∀ i, (∃ t ∈ ts, in1 t i) → i ≠ j) → σ'[j]? = σ[j]?) → σ'.length = σ.length → Q σ' H) → gMs K ts xs σ H Q
  | [], l, xs, σ, H, Hs, ρ, ρ', θ, Q, r, e, st, q => by
    match l, e with
    | [], e =>
      cases e
      rw [show xs = [] from r]
      exact ⟨rfl, q σ st (fun _ _ => rfl) rfl⟩
    | _ :: _, e => cases e
  | t :: ts, l, xs, σ, H, Hs, ρ, ρ', θ, Q, r, e, st, q => by
    match l, e with
    | [], e => cases e
    | d :: ds, e =>
      obtain ⟨x, r', rfl, h1, h2⟩ := r
      have e : (bind1 t d ρ).bind (bindM ts ds) = some ρ' := e
      obtain ⟨ρ1, e1, e2⟩ := Option.bind_eq_some_iff.mp e
      refine ⟨x, r', rfl, ?_⟩
      refine g1_run st h1 e1 fun σ1 st1 hj1 hl1 => ?_
      exact gMs_run h2 e2 st1 fun σ' st' hj hl => q σ' st' (fun j hh => (hj j fun k hk => hh k (by obtain ⟨u, h1, h2⟩ := hk; exact ⟨u, List.mem_cons_of_mem _ h1, h2⟩)).trans (hj1 j fun k hk => hh k ⟨t, List.mem_cons_self, hk⟩)) (hl.trans hl1)
theorem bindM_len : ∀ {ts : List Tg1} {l : List Dt} {ρ ρ' : DEnv}, bindM ts l ρ = some ρ' → l.length = ts.length
  | [], [], _, _, _ => rfl
  | [], _ :: _, _, _, e => by cases e
  | _ :: _, [], _, _, e => by cases e
  | t :: ts, d :: ds, ρ, ρ', e => by
    have e : (bind1 t d ρ).bind (bindM ts ds) = some ρ' := e
    obtain ⟨ρ1, e1, e2⟩ := Option.bind_eq_some_iff.mp e
    rw [List.length_cons, List.length_cons, bindM_len e2]
/-- target = e -/
def mAsg (T : Tgt) (ma : M Dt) : M Out := bnd ma fun d ρ θ => match bindT T d ρ with
  | some ρ' => .ok (.next ρ') θ
  | none => .bad
end

/-- an iterator gives these items -/
structure ItD (K : PySem.W.Frag) (J : It) (l : List Dt) (Hs0 : Hp) : Prop where
  go : ∀ (i : Nat) (H Hs : Hp), i < l.length → Same Hs0 Hs → Same Hs H → J.go i H
  yld : ∀ (i : Nat) (H Hs : Hp) (x : V) (H' : Hp) (d : Dt), l[i]? = some d → Same Hs0 Hs → Same Hs H → J.yld i H x H' → ∃ Hs', Grow Hs H Hs' H' ∧ Rep K Hs' d x
  stop : ∀ (H Hs : Hp), Same Hs0 Hs → Same Hs H → J.stop l.length H
def OkI (X : Cx) (F : Fr0) (σ : L2.St) (ρ : DEnv) (R : It → Hp → Prop) (Hs : Hp) : List Dt → Pot → Prop := fun l θ' => ∀ J H' Hs', Same Hs Hs' → StOk X.K F σ H' Hs' ρ θ' → ItD X.K J l Hs' → R J H'
theorem OkI.anti {X : Cx} {F : Fr0} {σ : L2.St} {ρ : DEnv} {R : It → Hp → Prop} {Hs Hs1 : Hp} (s : Same Hs Hs1) : ∀ d θ, OkI X F σ ρ R Hs d θ → OkI X F σ ρ R Hs1 d θ := fun _ _ h J H' Hs' s' => h J H' Hs' (s.trans s')
def tI (X : Cx) (F : Fr0) (W : WX) (m : M (List Dt)) : TI := fun σ H R => ∃ ρ θ Hs, StOk X.K F σ H Hs ρ θ ∧ Post (m ρ θ) (OkI X F σ ρ R Hs) (ExW X F W Hs)
def PID (X : Cx) (F : Fr0) (W : WX) (tg iter : Expr) (m : M (List Dt)) : Prop := PI X tg iter (tI X F W m)
theorem pi_imp {X : Cx} {tg iter : Expr} {t t' : TI} (h : PI X tg iter t) (i : ∀ σ H R, t' σ H R → t σ H R) : PI X tg iter t' := ⟨fun pins s σ H R I q => h.run pins s σ H R I (i σ H R q)⟩
section
variable {X : Cx} {F : Fr0} {W : WX} {tg a b c : Expr} {es : List Expr} {pos p : Pos}
/-- a list, a tuple -/
def iSeq (K : PySem.W.Frag) (tl : TE) : TI := fun σ H R => tl σ H fun x H1 => ∃ a, x = .ref a ∧ ((∃ xs, SqL K H1 a xs ∧ R (Itl K a) H1) ∨ (∃ xs, SqT K H1 a xs ∧ R (Itt K a) H1))
theorem pi_seq {l : Expr} {tl : TE} (hl : PE X l tl) : PI X tg l (iSeq X.K tl) := by
  refine ⟨fun pins s σ H R I h => ?_⟩
  refine thn (hl.run pins s σ H _ I h) fun v s1 ⟨x, H1, I1, r1, q1⟩ => ?_
  obtain ⟨a, rfl, q1⟩ := q1
  cases r1
  have fresh : ∀ {o : Obj}, ∀ b ∈ [s1.heap.objs.size], FpOk X pins H1 b := fun {o} b hb => by
    have e := List.mem_singleton.mp hb
    subst e
    exact I1.fpOk (Nat.le_refl _) (I1.hok.fresh (Nat.le_refl _))
  rcases q1 with ⟨xs, hq, q⟩ | ⟨xs, hq, q⟩
  · obtain ⟨its, rv, pl, hz⟩ := I1.list hq
    refine wpAny_pyIter_list pl.isList ?_
    exact ⟨_, [s1.heap.objs.size], _, Itl X.K a, H1, rfl, I1.kept (t' := s1.toks) fun b o z => Heap.get?_push_of_some _ z, turn_list a _, ⟨_, Heap.get?_push_size _ rfl, rfl, rfl⟩, fresh (o := default), q⟩
  · obtain ⟨its, rv, pl, hz⟩ := I1.tuple hq
    refine wpAny_pyIter_tuple (show s1.heap.IsTuple a its.toArray from pl) ?_
    exact ⟨_, [s1.heap.objs.size], _, Itt X.K a, H1, rfl, I1.kept (t' := s1.toks) fun b o z => Heap.get?_push_of_some _ z, turn_tuple a _, ⟨_, Heap.get?_push_size _ rfl, rfl, rfl⟩, fresh (o := default), q⟩
def seqOf : Dt → Option (List Dt)
  | .lst l => some l
  | .tup l => some l
  | _ => none
theorem itd_list {K : PySem.W.Frag} {Hs0 : Hp} {q : Addr} {xs : List V} {l : List Dt} (h : SqL K Hs0 q xs) (r : Reps K Hs0 l xs) : ItD K (Itl K q) l Hs0 where
  go := fun i H Hs hi s1 s2 => by
    rw [r.length] at hi
    exact ⟨xs, xs[i], s2.seq (s1.seq h), List.getElem?_eq_getElem hi⟩
  yld := fun i H Hs x H' d e s1 s2 y => by
    obtain ⟨rfl, y⟩ := y
    obtain ⟨v, e1, e2⟩ := r.get e
    have z := y xs (s2.seq (s1.seq h))
    rw [e1] at z
    cases z
    exact ⟨Hs, Grow.refl s2, Rep.mono s1 d e2⟩
  stop := fun H Hs s1 s2 => ⟨xs, s2.seq (s1.seq h), Nat.le_of_eq r.length.symm⟩
theorem itd_tup {K : PySem.W.Frag} {Hs0 : Hp} {q : Addr} {xs : List V} {l : List Dt} (h : SqT K Hs0 q xs) (r : Reps K Hs0 l xs) : ItD K (Itt K q) l Hs0 where
  go := fun i H Hs hi s1 s2 => by
    rw [r.length] at hi
    exact ⟨xs, xs[i], sqt_mono s2 (sqt_mono s1 h), List.getElem?_eq_getElem hi⟩
  yld := fun i H Hs x H' d e s1 s2 y => by
    obtain ⟨rfl, y⟩ := y
    obtain ⟨v, e1, e2⟩ := r.get e
    have z := y xs (sqt_mono s2 (sqt_mono s1 h))
    rw [e1] at z
    cases z
    exact ⟨Hs, Grow.refl s2, Rep.mono s1 d e2⟩
  stop := fun H Hs s1 s2 => ⟨xs, sqt_mono s2 (sqt_mono s1 h), Nat.le_of_eq r.length.symm⟩
def mSeqI (ma : M Dt) : M (List Dt) := bnd ma fun d => opt (seqOf d)
theorem pid_seq {ma : M Dt} (ha : PD X F W a ma) : PID X F W tg a (mSeqI ma) := by
  refine pi_imp (pi_seq ha) fun σ H R h => ?_
  obtain ⟨ρ, θ, Hs, st, h⟩ := h
  refine then_D OkI.anti st h fun v d H1 Hs1 θ1 s1 st1 r1 h => ?_
  obtain ⟨l, e, q⟩ := post_opt h
  cases d with
  | lst l' =>
    cases e
    obtain ⟨q1, xs, rfl, h1, h2⟩ := r1
    exact ⟨q1, rfl, Or.inl ⟨xs, st1.sub.seq h1, q _ H1 Hs1 (Same.refl _) st1 (itd_list h1 h2)⟩⟩
  | tup l' =>
    cases e
    obtain ⟨q1, xs, rfl, h1, h2⟩ := r1
    exact ⟨q1, rfl, Or.inr ⟨xs, sqt_mono st1.sub h1, q _ H1 Hs1 (Same.refl _) st1 (itd_tup h1 h2)⟩⟩
  | _ => cases e
/-- ranges -/
def rngL (lo : Int) (n : Nat) : List Dt := (List.range n).map fun i : Nat => .int (lo + i)
theorem rngL_at {lo : Int} {n i : Nat} {d : Dt} (h : (rngL lo n)[i]? = some d) : d = .int (lo + i) := by
  unfold rngL at h
  rw [List.getElem?_map] at h
  obtain ⟨j, e1, rfl⟩ := Option.map_eq_some_iff.mp h
  obtain ⟨h1, h2⟩ := List.getElem?_eq_some_iff.mp e1
  rw [List.getElem_range] at h2
  rw [h2]
theorem itd_rng {K : PySem.W.Frag} {Hs0 : Hp} {lo : Int} {n : Nat} : ItD K (Itr lo n) (rngL lo n) Hs0 where
  go := fun i H Hs hi _ _ => by
    have h : i < n := by simpa [rngL] using hi
    exact h
  yld := fun i H Hs x H' d e _ s2 y => by
    obtain ⟨rfl, rfl⟩ := y
    rw [rngL_at e]
    exact ⟨Hs, Grow.refl s2, rfl⟩
  stop := fun H Hs _ _ => by simp [rngL, Itr]
def bnd62 (i : Int) : Bool := decide (-(2 ^ 62) ≤ i) && decide (i < 2 ^ 62)
def rng1 : List Dt → Option (List Dt)
  | [.int j] => if bnd62 j = true then some (rngL 0 j.toNat) else none
  | _ => none
def rng2 : List Dt → Option (List Dt)
  | [.int i, .int j] => if (bnd62 i && bnd62 j) = true then some (rngL i (j - i).toNat) else none
  | _ => none
def mRng (g : List Dt → Option (List Dt)) (ml : M (List Dt)) : M (List Dt) := bnd ml fun l => opt (g l)
theorem bnd62_ok {i : Int} (h : bnd62 i = true) : -(2 ^ 62) ≤ i ∧ i < 2 ^ 62 := by
  obtain ⟨h1, h2⟩ := Bool.and_eq_true_iff.mp h
  exact ⟨of_decide_eq_true h1, of_decide_eq_true h2⟩
theorem pid_rng1 {ml : M (List Dt)} (hm : X.mg "range" = none) (ha : PAD X F W [a] ml) (hg : Gl X "range" := by rfl) (hs : starEach [a] X.env = [(false, eval a X.env)] := by rfl) : PID X F W tg (.Call (.Name "range" p) [a] [] pos) (mRng rng1 ml) := by
  refine pi_imp (pi_range1 hg hm ha hs) fun σ H R h => ?_
  obtain ⟨ρ, θ, Hs, st, h⟩ := h
  refine then_A OkI.anti st h fun xs l H1 Hs1 θ1 s1 st1 r1 h => ?_
  obtain ⟨l', e, q⟩ := post_opt h
  unfold rng1 at e
  split at e
  · rename_i j
    by_cases z : bnd62 j = true
    · rw [if_pos z] at e
      cases e
      obtain ⟨x, rfl, h1⟩ := rep1 r1
      obtain ⟨z1, z2⟩ := bnd62_ok z
      exact ⟨j, by rw [show x = _ from h1], z1, z2, q _ H1 Hs1 (Same.refl _) st1 itd_rng⟩
    · rw [if_neg z] at e
      cases e
  · cases e
def forGo (T : Tgt) (body : M Out) : List Dt → M Out
  | [] => mNext
  | d :: ds => fun ρ θ => match bindT T d ρ with
    | none => .bad
    | some ρ1 => match body ρ1 θ with
      | .ok (.next ρ2) θ2 => forGo T body ds ρ2 θ2
      | .ok (.cnt ρ2) θ2 => forGo T body ds ρ2 θ2
      | .ok (.brk ρ2) θ2 => .ok (.next ρ2) θ2
      | r => r
def mFor (T : Tgt) (ms : M (List Dt)) (body : M Out) : M Out := bnd ms fun l => forGo T body l
theorem psd_for {iter : Expr} {body : List Stmt} {T : Tgt} {ms : M (List Dt)} {mb : M Out} (hp : PassesOwn (model X.prog X.w) X.A X.env X.xe) (hc : X.calm = true) (hi : PID X F W tg iter ms) (hg : PGT X tg T) (hb : PSDs X F W body mb)
    (hs : ∀ x, foldedSetIterable iter X.env x = pure x := by intro _; rfl) : PSD X F W (.For tg iter body [] pos) (mFor T ms mb) := by
  obtain ⟨g, pg, k⟩ := hg
  refine ps_imp (ps_for hp hc hi pg hb hs) fun Ds σ H h => ?_
  obtain ⟨ρ, θ, Hs, st, h⟩ := h
  refine ⟨ρ, θ, Hs, st, (post_bnd h).imp (fun l θ1 q J H1 Hs1 s1 st1 it => ?_) fun _ _ _ z => z⟩
  refine ⟨fun i m σ' H' => m = l.length - i ∧ i ≤ l.length ∧ ∃ Hs' ρ' θ', Same Hs1 Hs' ∧ StOk X.K F σ' H' Hs' ρ' θ' ∧ Post (forGo T mb (l.drop i) ρ' θ') (OkS X F Ds Hs') (ExW X F W Hs'), ⟨l.length, rfl, Nat.zero_le _, Hs1, ρ, θ1, Same.refl _, st1, q.imp (OkS.anti s1) (ExW.anti s1)⟩, ?_⟩
  rintro i m σ' H' ⟨rfl, hi', Hs', ρ', θ', s2, st2, q2⟩
  by_cases hlt : i < l.length
  · refine Or.inr ⟨it.go i H' Hs' hlt s2 st2.sub, fun σ3 H3 => ∃ Hs3 ρ3 θ3, Same Hs1 Hs3 ∧ StOk X.K F σ3 H3 Hs3 ρ3 θ3 ∧ Post (forGo T mb (l.drop (i + 1)) ρ3 θ3) (OkS X F Ds Hs3) (ExW X F W Hs3), fun σ3 H3 h3 => ⟨l.length - (i + 1), by omega, rfl, hlt, h3⟩, fun x H4 y => ?_⟩
    obtain ⟨Hs4, g4, r4⟩ := it.yld i H' Hs' x H4 l[i] (List.getElem?_eq_getElem hlt) s2 st2.sub y
    have st4 := st2.grow g4
    rw [List.drop_eq_getElem_cons hlt] at q2
    unfold forGo at q2
    cases eb : bindT T l[i] ρ' with
    | none => rw [eb] at q2; exact q2.elim
    | some ρ5 =>
      rw [eb] at q2
      refine k F σ' H4 Hs4 ρ' ρ5 θ' l[i] x _ st4 r4 eb fun σ5 st5 _ _ => ⟨ρ5, θ', Hs4, st5, ?_⟩
      dsimp only at q2
      have s4 := s2.trans g4.s
      cases em : mb ρ5 θ' with
      | ok o θ6 =>
        rw [em] at q2
        cases o with
        | next ρ6 => exact fun σ7 H7 Hs7 s7 st7 => ⟨Hs7, ρ6, θ6, s4.trans s7, st7, q2.imp (OkS.anti (g4.s.trans s7)) (ExW.anti (g4.s.trans s7))⟩
        | cnt ρ6 => exact fun σ7 H7 Hs7 s7 st7 => ⟨Hs7, ρ6, θ6, s4.trans s7, st7, q2.imp (OkS.anti (g4.s.trans s7)) (ExW.anti (g4.s.trans s7))⟩
        | brk ρ6 => exact fun σ7 H7 Hs7 s7 st7 => q2 σ7 H7 Hs7 (g4.s.trans s7) st7
        | ret r =>
          cases r with
          | d d => exact fun σ7 H7 Hs7 s7 => q2 σ7 H7 Hs7 (g4.s.trans s7)
          | o l => exact fun σ7 H7 Hs7 s7 => q2 σ7 H7 Hs7 (g4.s.trans s7)
          | q k l => exact fun σ7 H7 Hs7 s7 => q2 σ7 H7 Hs7 (g4.s.trans s7)
      | exn x6 ρ6 θ6 => rw [em] at q2; exact ExW.anti g4.s _ _ _ q2
      | bad => rw [em] at q2; exact q2.elim
  · have e : i = l.length := by omega
    subst e
    rw [List.drop_length] at q2
    exact Or.inl ⟨it.stop H' Hs' s2 st2.sub, q2 σ' H' Hs' (Same.refl _) st2⟩

def whileGo (c : M Bool) (body : M Out) : Nat → M Out
  | 0 => bad
  | n + 1 => fun ρ θ => match c ρ θ with
    | .ok true θ1 => match body ρ θ1 with
      | .ok (.next ρ2) θ2 => whileGo c body n ρ2 θ2
      | .ok (.cnt ρ2) θ2 => whileGo c body n ρ2 θ2
      | .ok (.brk ρ2) θ2 => .ok (.next ρ2) θ2
      | r => r
    | .ok false θ1 => .ok (.next ρ) θ1
    | .exn e ρ' θ' => .exn e ρ' θ'
    | .bad => .bad
theorem psd_while (n : Nat) {c : Expr} {body : List Stmt} {mc : M Bool} {mb : M Out} (hp : PassesOwn (model X.prog X.w) X.A X.env X.xe) (hc : PTD X F W c mc) (hb : PSDs X F W body mb) : PSD X F W (.While c body [] pos) (whileGo mc mb n) := by
  refine ps_imp (ps_while hp hc hb) fun Ds σ H h => ?_
  obtain ⟨ρ, θ, Hs, st, h⟩ := h
  refine ⟨fun m σ' H' => ∃ Hs' ρ' θ', Same Hs Hs' ∧ StOk X.K F σ' H' Hs' ρ' θ' ∧ Post (whileGo mc mb m ρ' θ') (OkS X F Ds Hs') (ExW X F W Hs'), ⟨n, Hs, ρ, θ, Same.refl _, st, h⟩, ?_⟩
  rintro m σ' H' ⟨Hs', ρ', θ', s1, st1, q⟩
  cases m with
  | zero => exact q.elim
  | succ m =>
    unfold whileGo at q
    refine ⟨ρ', θ', Hs', st1, ?_⟩
    cases ec : mc ρ' θ' with
    | ok b θ1 =>
      rw [ec] at q
      intro H2 Hs2 s2 st2
      cases b with
      | false => exact iteF (q σ' H2 Hs2 s2 st2)
      | true =>
        refine iteT ⟨fun σ3 H3 => ∃ Hs3 ρ3 θ3, Same Hs Hs3 ∧ StOk X.K F σ3 H3 Hs3 ρ3 θ3 ∧ Post (whileGo mc mb m ρ3 θ3) (OkS X F Ds Hs3) (ExW X F W Hs3), fun σ3 H3 h3 => ⟨m, Nat.lt_succ_self _, h3⟩, ρ', θ1, Hs2, st2, ?_⟩
        dsimp only at q
        cases em : mb ρ' θ1 with
        | ok o θ6 =>
          rw [em] at q
          cases o with
          | next ρ6 => exact fun σ7 H7 Hs7 s7 st7 => ⟨Hs7, ρ6, θ6, (s1.trans s2).trans s7, st7, q.imp (OkS.anti (s2.trans s7)) (ExW.anti (s2.trans s7))⟩
          | cnt ρ6 => exact fun σ7 H7 Hs7 s7 st7 => ⟨Hs7, ρ6, θ6, (s1.trans s2).trans s7, st7, q.imp (OkS.anti (s2.trans s7)) (ExW.anti (s2.trans s7))⟩
          | brk ρ6 => exact fun σ7 H7 Hs7 s7 st7 => q σ7 H7 Hs7 (s2.trans s7) st7
          | ret r =>
            cases r with
            | d d => exact fun σ7 H7 Hs7 s7 => q σ7 H7 Hs7 (s2.trans s7)
            | o l => exact fun σ7 H7 Hs7 s7 => q σ7 H7 Hs7 (s2.trans s7)
            | q k l => exact fun σ7 H7 Hs7 s7 => q σ7 H7 Hs7 (s2.trans s7)
        | exn x6 ρ6 θ6 => rw [em] at q; exact ExW.anti s2 _ _ _ q
        | bad => rw [em] at q; exact q.elim
    | exn x6 ρ6 θ6 => rw [ec] at q; exact q
    | bad => rw [ec] at q; exact q.elim

def mFrz (i : Nat) (m : M Out) : M Out := fun ρ θ => m (frz i ρ) θ
theorem getElem?_set_self_of {α : Type} {l : List α} {i : Nat} {x : α} (h : l[i]? = some x) : l.set i x = l := by
  apply List.ext_getElem?
  intro j
  by_cases e : i = j
  · subst e
    rw [List.getElem?_set]
    have q : i < l.length := (List.getElem?_eq_some_iff.mp h).1
    simp only [q, if_true]
    exact h.symm
  · rw [List.getElem?_set_ne e]
theorem set_none_at {ρ : DEnv} {i j : Nat} {x : Ent} (q : (ρ.set i none)[j]? = some (some x)) : i ≠ j ∧ ρ[j]? = some (some x) := by
  by_cases k : i = j
  · subst k
    rw [List.getElem?_set] at q
    by_cases z : i < ρ.length
    · simp only [z, if_true] at q
      cases q
    · simp only [z, if_false, if_true] at q
      cases q
  · rw [List.getElem?_set_ne k] at q
    exact ⟨k, q⟩
theorem LamAt.monoN {H H' : Hp} (s : ∀ b o, H b = some o → (∀ xs, o ≠ .lst xs) → H' b = some o) {k : Nat} {cl : List (Str × Addr)} {a : Addr} (h : LamAt H k cl a) : LamAt H' k cl a := by
  obtain ⟨r, c, e, h1, h2⟩ := h
  exact ⟨r, c, e, s _ _ h1 (fun xs z => nomatch z), s _ _ h2 codeO_lst⟩
theorem LamsAt.monoN {H H' : Hp} (s : ∀ b o, H b = some o → (∀ xs, o ≠ .lst xs) → H' b = some o) {cells : List (Str × Addr)} : ∀ {ks : List Nat} {vs : List V}, LamsAt H cells ks vs → LamsAt H' cells ks vs
  | [], _, h => h
  | k :: ks, _, h => by
    obtain ⟨a, r, x, e, h1, h2, h3⟩ := h
    exact ⟨a, r, x, e, h1, h2.monoN s, LamsAt.monoN s h3⟩
theorem st_frz (i : Nat) {σ : L2.St} {H Hs : Hp} {ρ : DEnv} {θ : Pot} (st : StOk X.K F σ H Hs ρ θ) : ∃ Hs', Same Hs Hs' ∧ StOk X.K F σ H Hs' (frz i ρ) θ := by
  unfold frz
  split
  · rename_i l e
    obtain ⟨a, xs, e1, e2, e3, e4, e5, e6⟩ := st.own i l e
    have st1 : StOk X.K F σ H Hs (ρ.set i none) θ := by
      exact ⟨st.sub, st.hap, st.pot, st.old, st.thr, st.tab, st.frs, fun j d z => st.dat j d (set_none_at z).2, fun j m z => st.own j m (set_none_at z).2, fun j k m m' b z1 z2 => st.sep j k m m' b (set_none_at z1).2 (set_none_at z2).2, fun j z => st.pt j (set_none_at z).2, fun j n z => st.fx j n (set_none_at z).2, fun j n z => st.opn j n (set_none_at z).2, by rw [List.length_set]; exact st.len, fun j g ks vs z => st.dic j g ks vs (set_none_at z).2, fun j k g g' ks ks' vs vs' b z1 z2 => st.sepD j k g g' ks ks' vs vs' b (set_none_at z1).2 (set_none_at z2).2⟩
    have st2 := st_freeze st1 e2 e4 e5 e6 fun j m z q => by
      obtain ⟨k, z⟩ := set_none_at z
      exact k (st.sep i j l m a e z e1 q)
    have st3 := st_set st2 i (d := .lst l) (v := .ref a) ⟨a, xs, rfl, SqL.of upd_same, Reps.mono (same_upd e4) l e3⟩
    rw [List.set_set] at st3
    rw [getElem?_set_self_of e1] at st3
    exact ⟨_, same_upd e4, st3⟩
  · exact ⟨Hs, Same.refl _, st⟩
theorem psd_frz (i : Nat) {st : Stmt} {m : M Out} (h : PSD X F W st m) : PSD X F W st (mFrz i m) := by
  refine ps_imp h fun D σ H q => ?_
  obtain ⟨ρ, θ, Hs, st0, q⟩ := q
  obtain ⟨Hs1, s1, st1⟩ := st_frz i st0
  exact ⟨_, θ, Hs1, st1, q.imp (OkS.anti s1) (ExW.anti s1)⟩
/-- a change of a list of one's own in slot i -/
theorem st_own {σ : L2.St} {H Hs : Hp} {ρ : DEnv} {θ : Pot} (st : StOk X.K F σ H Hs ρ θ) {i : Nat} {l m : List Dt} {a : Addr} {xs ys : List V} (e : ρ[i]? = some (some (.own l))) (e1 : σ[i]? = some (some (.ref a))) (e2 : H a = some (.lst xs)) (r : Reps X.K Hs m ys) :
    StOk X.K F σ (upd H a (.lst ys)) Hs (ρ.set i (some (.own m))) θ := by
  obtain ⟨a', xs', f1, f2, f3, f4, f5, f6⟩ := st.own i l e
  rw [e1] at f1
  cases f1
  have z : ∀ b u, Hs b = some u → b ≠ a := fun b u q k => by rw [k, f4] at q; cases q
  have st1 : StOk X.K F σ (upd H a (.lst ys)) Hs (ρ.set i none) θ := by
    refine ⟨fun b u q => by rw [upd_ne (z b u q)]; exact st.sub b u q, st.hap, fun p q => ?_, fun b o h1 nt h2 => ?_, fun b hb z => ?_, st.tab.keep (KeepN.upd e2), st.frs, fun j d q => st.dat j d (set_none_at q).2, fun j m' q => ?_, fun j k m1 m2 b q1 q2 => st.sep j k m1 m2 b (set_none_at q1).2 (set_none_at q2).2, fun j q => st.pt j (set_none_at q).2, fun j n q => st.fx j n (set_none_at q).2, fun j n q => ?_, by rw [List.length_set]; exact st.len, fun j g ks vs q => ?_, fun j k g g' ks ks' vs vs' b z1 z2 => st.sepD j k g g' ks ks' vs vs' b (set_none_at z1).2 (set_none_at z2).2⟩
    · rw [upd_ne (fun k => f6 (by rw [← k]; exact q))]
      exact st.pot p q
    · rw [upd_ne (fun k => by rw [k, f5] at h2; cases h2)]
      exact st.old b o h1 nt h2
    · by_cases k : b = a
      · rw [k, upd_same] at z
        cases z
      · rw [upd_ne k] at z
        exact st.thr b hb z
    · obtain ⟨k, q⟩ := set_none_at q
      obtain ⟨b, zs, g1, g2, g3⟩ := st.own j m' q
      have ne : b ≠ a := fun w => k (st.sep i j l m' a e q e1 (by rw [← w]; exact g1))
      exact ⟨b, zs, g1, by rw [upd_ne ne]; exact g2, g3⟩
    · obtain ⟨k, q⟩ := set_none_at q
      obtain ⟨b, zs, g0, g1, g2, g3, g4, g5, g6⟩ := st.opn j n q
      have ne : b ≠ a := fun w => by rw [w, f5] at g5; cases g5
      exact ⟨b, zs, g0, g1, by rw [upd_ne ne]; exact g2, g3, g4, g5, g6⟩
    · obtain ⟨b, zs, g1, g2, g3⟩ := st.dic j g ks vs (set_none_at q).2
      have ne : b ≠ a := fun w => by rw [w, e2] at g2; exact dicO_lst _ (Option.some.inj g2).symm
      exact ⟨b, zs, g1, by rw [upd_ne ne]; exact g2, g3⟩
  have st2 := st_setO st1 i (a := a) (xs := ys) (m := m) upd_same r f4 f5 f6 fun j m' k q w => by
    rw [List.getElem?_set_ne (Ne.symm k)] at q
    exact k (st.sep i j l m' a e q e1 w).symm
  rw [List.set_set, getElem?_set_self_of e1] at st2
  exact st2
theorem st_own_at {σ : L2.St} {H Hs : Hp} {ρ : DEnv} {θ : Pot} (st : StOk X.K F σ H Hs ρ θ) {i : Nat} {l : List Dt} (e : ρ[i]? = some (some (.own l))) : ∃ a xs, σ[i]? = some (some (.ref a)) ∧ H a = some (.lst xs) ∧ Reps X.K Hs l xs := by
  obtain ⟨a, xs, e1, e2, e3, _⟩ := st.own i l e
  exact ⟨a, xs, e1, e2, e3⟩
def bigL : Nat := 1000000
/-- x.append(e) -/
def mApp (i : Nat) (ma : M Dt) : M Out := fun ρ θ => match ρ[i]? with
  | some (some (.own l)) => bnd ma (fun d ρ θ => if l.length < bigL then .ok (.next (ρ.set i (some (.own (l ++ [d]))))) θ else .bad) ρ θ
  | _ => .bad
theorem bigL_ok {n : Nat} (h : n < bigL) : n < sizeLine := Nat.lt_trans h (by decide)
theorem psd_app (i : Nat) {y : Str} {ma : M Dt} {q : Pos} {apos cpos : Pos} (ha : PD X F W a ma) (hN : X.N[i]? = some y := by rfl) (hv : Vis X.env.scope y := by first | exact Or.inl rfl | exact Or.inr (Or.inl rfl) | exact Or.inr (Or.inr rfl)) (hd : (y == ("__debug__" : Str)) = false := by decide)
    (hcd : (y == ("__classdict__" : Str)) = false := by decide)
    (hbase : attributeBase (.Name y q) "append" X.env (eval (.Name y q) X.env) = eval (.Name y q) X.env := by rfl)
    (hfew : ((backTo cpos (starEach (a :: []) X.env)).all (fun x => !x.1) && (backToKw cpos (keywordEach [] X.env)).all (fun x => x.1.isSome)
      && decide ((a :: []).length + ([] : List Keyword).length + (if ([] : List Keyword).isEmpty then 0 else 1) < 30)) = true := by rfl)
    (hline : (apos.endLine == cpos.line) = true := by rfl) (hs1 : starEach (a :: []) X.env = (false, eval a X.env) :: starEach [] X.env := by rfl) (hplain : (backTo cpos (starEach [] X.env)).any (·.1) = false := by rfl)
    (hs : swapsWith (.Call (.Attribute (.Name y q) "append" apos) [a] [] cpos) none pos.line X.env = pure false := by rfl) : PSD X F W (.Expr (.Call (.Attribute (.Name y q) "append" apos) [a] [] cpos) pos) (mApp i ma) := by
  refine ps_imp (ps_expr (pe_bm PySem.F.plainAttrs_list PySem.F.slot_list_append PySem.F.type_list_append mt_append (pe_var hN hv hd hcd) (pa_cons ha pa_nil hs1) hbase hfew hline hs1 hplain) hs) fun D σ H h => ?_
  obtain ⟨ρ, θ, Hs, st, h⟩ := h
  unfold mApp at h
  split at h
  · rename_i l eo
    obtain ⟨p0, xs0, e1, e2, e3⟩ := st_own_at st eo
    refine ⟨.ref p0, e1, Or.inl ⟨rfl, xs0, SqL.of e2⟩, ?_⟩
    refine then_D OkS.anti st h fun v d H1 Hs1 θ1 s1 st1 r1 h => ?_
    by_cases z : l.length < bigL
    · rw [if_pos z] at h
      obtain ⟨p1, xs, f1, f2, f3⟩ := st_own_at st1 eo
      rw [e1] at f1
      cases f1
      refine ⟨p0, xs, v, rfl, rfl, f2, by rw [← f3.length]; exact bigL_ok z, ?_⟩
      exact h σ _ Hs1 (Same.refl _) (st_own st1 eo e1 f2 (f3.append (Reps.cons r1 Reps.nil)))
    · rw [if_neg z] at h
      exact h.elim
  · exact h.elim
/-- x[e] = v, x a list of one's own -/
def mSetI (i : Nat) (mb ma : M Dt) : M Out := bnd ma fun d => fun ρ θ => match ρ[i]? with
  | some (some (.own l)) => bnd mb (fun k ρ θ => match k with
    | .int j => match ixN l.length j with
      | some n => .ok (.next (ρ.set i (some (.own (l.set n d))))) θ
      | none => .bad
    | _ => .bad) ρ θ
  | _ => .bad
/-- x[e], x a list of one's own -/
def mIxO (i : Nat) (mb : M Dt) : M Dt := fun ρ θ => match ρ[i]? with
  | some (some (.own l)) => bnd mb (fun k => opt (gIx (.lst l) k)) ρ θ
  | _ => .bad
end
end Pd



namespace Pd
open PySem PySem.Spec PyProof.Rows L2
variable [Pd.LamTab]
def hide (ρ : DEnv) : DEnv := ρ.map fun e => match e with
  | some (.own _) => none
  | some (.opn _) => none
  | some (.dic _ _ _) => none
  | e => e
def wipeD (ρ : DEnv) : List Nat → DEnv
  | [] => ρ
  | v :: vs => (wipeD ρ vs).set v none
theorem hide_at {ρ : DEnv} {i : Nat} {x : Ent} (h : (hide ρ)[i]? = some (some x)) : ρ[i]? = some (some x) ∧ (∀ l, x ≠ .own l) ∧ (∀ l, x ≠ .opn l) ∧ ∀ g k l, x ≠ .dic g k l := by
  unfold hide at h
  rw [List.getElem?_map] at h
  cases e : ρ[i]? with
  | none => rw [e] at h; cases h
  | some y =>
    rw [e] at h
    cases y with
    | none => cases h
    | some z =>
      cases z with
      | own l => cases h
      | opn l => cases h
      | dic g k l => cases h
      | dat d => cases h; exact ⟨rfl, fun l => nofun, fun l => nofun, fun g k l => nofun⟩
      | pot => cases h; exact ⟨rfl, fun l => nofun, fun l => nofun, fun g k l => nofun⟩
      | fix n => cases h; exact ⟨rfl, fun l => nofun, fun l => nofun, fun g k l => nofun⟩
theorem wipeD_length (ρ : DEnv) : ∀ vs : List Nat, (wipeD ρ vs).length = ρ.length
  | [] => rfl
  | v :: vs => by unfold wipeD; rw [List.length_set, wipeD_length ρ vs]
theorem wipeD_at {ρ : DEnv} {i : Nat} {x : Ent} : ∀ {vs : List Nat}, (wipeD ρ vs)[i]? = some (some x) → ρ[i]? = some (some x) ∧ i ∉ vs
  | [], h => ⟨h, by simp⟩
  | v :: vs, h => by
    obtain ⟨h1, h2⟩ := set_none_at (ρ := wipeD ρ vs) h
    obtain ⟨h3, h4⟩ := wipeD_at h2
    exact ⟨h3, fun z => (List.mem_cons.mp z).elim (fun e => h1 e.symm) h4⟩
theorem wipe_keep {σ : L2.St} {i : Nat} : ∀ {vs : List Nat}, i ∉ vs → (wipe σ vs)[i]? = σ[i]?
  | [], _ => rfl
  | v :: vs, h => by
    show ((wipe σ vs).set v none)[i]? = _
    rw [List.getElem?_set_ne (fun e => h (by rw [e]; exact List.mem_cons_self)), wipe_keep fun z => h (List.mem_cons_of_mem _ z)]
theorem wipe_in {σ : L2.St} {i : Nat} : ∀ {vs : List Nat}, i ∈ vs → (wipe σ vs)[i]? = if i < σ.length then some none else none
  | v :: vs, h => by
    show ((wipe σ vs).set v none)[i]? = _
    by_cases e : v = i
    · subst e
      rw [List.getElem?_set, wipe_length]
      by_cases q : v < σ.length
      · simp only [q, if_true]
      · simp only [q, if_false, if_true]
    · rw [List.getElem?_set_ne e, wipe_in ((List.mem_cons.mp h).resolve_left fun z => e z.symm)]
/-- only the wiped places differ -/
theorem wipe_same {σ σ' : L2.St} {vs : List Nat} (hl : σ'.length = σ.length) (h : ∀ j, j ∉ vs → σ'[j]? = (wipe σ vs)[j]?) : wipe σ' vs = wipe σ vs := by
  apply List.ext_getElem?
  intro j
  by_cases q : j ∈ vs
  · rw [wipe_in q, wipe_in q, hl]
  · rw [wipe_keep q, h j q]
section
variable {K : PySem.W.Frag} {F : Fr0} {σ : L2.St} {H Hs H' Hs' : Hp} {ρ : DEnv} {θ : Pot}
theorem st_block (st : StOk K F σ H Hs ρ θ) (vs : List Nat) : StOk K ⟨F.ap, H, Hs, F.cells, F.xs, none⟩ (wipe σ vs) H Hs (wipeD (hide ρ) vs) θ where
  sub := st.sub
  hap := st.hap
  pot := st.pot
  old := fun b o _ _ h => h
  thr := fun b h => h
  tab := st.tab
  frs := fun b _ => rfl
  dat := fun i d e => by
    obtain ⟨e1, e2⟩ := wipeD_at e
    obtain ⟨v, e3, e4⟩ := st.dat i d (hide_at e1).1
    exact ⟨v, by rw [wipe_keep e2]; exact e3, e4⟩
  own := fun i l e => absurd rfl ((hide_at (wipeD_at e).1).2.1 l)
  sep := fun i j l m a e => absurd rfl ((hide_at (wipeD_at e).1).2.1 l)
  pt := fun i e => by
    obtain ⟨e1, e2⟩ := wipeD_at e
    obtain ⟨p, e3, e4⟩ := st.pt i (hide_at e1).1
    exact ⟨p, e3, by rw [wipe_keep e2]; exact e4⟩
  fx := fun i n e => by
    obtain ⟨e1, e2⟩ := wipeD_at e
    obtain ⟨p, e3, e4⟩ := st.fx i n (hide_at e1).1
    exact ⟨p, e3, by rw [wipe_keep e2]; exact e4⟩
  opn := fun i l e => absurd rfl ((hide_at (wipeD_at e).1).2.2.1 l)
  dic := fun i g k l e => absurd rfl ((hide_at (wipeD_at e).1).2.2.2 g k l)
  sepD := fun i j g g' k k' l l' a e => absurd rfl ((hide_at (wipeD_at e).1).2.2.2 g k l)
  len := by
    rw [wipeD_length, wipe_length]
    unfold hide
    rw [List.length_map]
    exact st.len
theorem fnEnd_of {σ' : L2.St} {ρ' : DEnv} {θ' : Pot} (s : Same Hs Hs') (st : StOk K ⟨F.ap, H, Hs, F.cells, F.xs, none⟩ σ' H' Hs' ρ' θ') : FnEnd F.ap (tbK K) Hs H Hs' H' θ' := ⟨s, st.sub, st.hap, st.pot, st.old, st.thr, st.tab, st.frs⟩
end
/-- the rest of a comprehension -/
def compGo (T : Tgt) (vs : List Nat) (tt : M Bool) (elt : M Dt) : List Dt → M (List Dt)
  | [] => ret []
  | d :: ds => fun ρ θ => match bindT T d (wipeD (hide ρ) vs) with
    | none => .bad
    | some ρ1 => match tt ρ1 θ with
      | .ok true θ1 => match elt ρ1 θ1 with
        | .ok y θ2 => bnd (compGo T vs tt elt ds) (fun ys => ret (y :: ys)) ρ θ2
        | _ => .bad
      | .ok false θ1 => compGo T vs tt elt ds ρ θ1
      | _ => .bad
def mComp (T : Tgt) (vs : List Nat) (ms : M (List Dt)) (tt : M Bool) (elt : M Dt) : M (List Dt) := bnd ms fun l => if l.length < bigL then compGo T vs tt elt l else bad
abbrev W0 : WX := fun _ _ _ _ => False
def tt1 : M Bool := ret true
def PTsD (X : Cx) (F : Fr0) (W : WX) (es : List Expr) (m : M Bool) : Prop := PTs X es (tT X F W m)
theorem ptsd_nil {X : Cx} {F : Fr0} {W : WX} : PTsD X F W [] tt1 := by
  refine ⟨fun pins s σ H Q I h => ?_⟩
  obtain ⟨ρ, θ, Hs, st, h⟩ := h
  exact pts_nil.run pins s σ H Q I (fin_T h st)
theorem ptsd_one {X : Cx} {F : Fr0} {W : WX} {c : Expr} {m : M Bool} (h : PTD X F W c m) : PTsD X F W [c] m := pts_one h
/-- the targets' places are the block's own -/
def TgtIn (T : Tgt) (vs : List Nat) : Prop := match T with
  | .n i => i ∈ vs
  | .t is => ∀ i ∈ is, i ∈ vs
  | .m ts => ∀ t ∈ ts, ∀ i, in1 t i → i ∈ vs
def gOf (K : PySem.W.Frag) (T : Tgt) : TG := match T with
  | .n k => gName k
  | .t is => gTup K is.length (gNs is)
  | .m ts => gTup K ts.length (gMs K ts)
theorem gOf_run {K : PySem.W.Frag} {F : Fr0} {T : Tgt} {d : Dt} {v : V} {σ : L2.St} {H Hs : Hp} {ρ ρ' : DEnv} {θ : Pot} {Q : L2.St → Hp → Prop} (st : StOk K F σ H Hs ρ θ) (r : Rep K Hs d v) (e : bindT T d ρ = some ρ')
    (q : ∀ σ', StOk K F σ' H Hs ρ' θ → (∀ j, (∀ i, inT T i → i ≠ j) → σ'[j]? = σ[j]?) → σ'.length = σ.length → Q σ' H) : gOf K T v σ H Q := by
  cases T with
  | n k =>
    cases e
    exact q _ (st_set st k r) (fun j hj => List.getElem?_set_ne (hj k rfl)) (List.length_set ..)
  | t is =>
    cases d with
    | tup l => exact g1_run (t := .t is) st r e q
    | _ => cases e
  | m ts =>
    cases d with
    | tup l =>
      have e : bindM ts l ρ = some ρ' := e
      obtain ⟨a, xs, rfl, h3, h4⟩ := r
      exact ⟨a, xs, rfl, sqt_mono st.sub h3, by rw [← h4.length]; exact bindM_len e, gMs_run h4 e st fun σ' st' hj hl => q σ' st' hj hl⟩
    | _ => cases e
section
variable {X : Cx} {F : Fr0} {W : WX} {elt tg iter : Expr} {ifs : List Expr} {scope : Scope} {own : List (Str × Nat)} {pos : Pos} {T : Tgt} {ms : M (List Dt)} {mt : M Bool} {me : M Dt}
theorem comp_run {g : TG} {tt : TT} {te : TE} (hT : TgtIn T (own.map (·.2)))
    (hg : ∀ (F : Fr0) (σ : L2.St) (H Hs : Hp) (ρ ρ' : DEnv) (θ : Pot) (d : Dt) (v : V) (Q : L2.St → Hp → Prop), StOk X.K F σ H Hs ρ θ → Rep X.K Hs d v → bindT T d ρ = some ρ' → (∀ σ', StOk X.K F σ' H Hs ρ' θ → (∀ j, (∀ i, inT T i → i ≠ j) → σ'[j]? = σ[j]?) → σ'.length = σ.length → Q σ' H) → g v σ H Q)
    (ht : ∀ (F : Fr0) (σ : L2.St) (H : Hp) (Q : Bool → Hp → Prop), tT X F W0 mt σ H Q → tt σ H Q) (he : ∀ (F : Fr0) (σ : L2.St) (H : Hp) (Q : VK), tD X F W0 me σ H Q → te σ H Q)
    {σ : L2.St} {H : Hp} {Q : VK} (h : tO X F W (mComp T (own.map (·.2)) ms mt me) σ H Q) : tLc (tI X F W ms) g tt te (own.map (·.2)) σ H Q := by
  obtain ⟨ρ, θ, Hs, st, h⟩ := h
  refine ⟨ρ, θ, Hs, st, (post_bnd h).imp (fun l θ1 q J H1 Hs1 s1 st1 it D nD => ?_) fun _ _ _ z => z⟩
  by_cases hl : l.length < bigL
  · rw [if_pos hl] at q
    -- what holds between two turns
    have stD := st_new (o := .lst []) st1 nD
    refine ⟨fun i m H' => m = l.length - i ∧ i ≤ l.length ∧ ∃ Hs' θ' acc accD, Same Hs1 Hs' ∧ StOk X.K F σ H' Hs' ρ θ' ∧ H' D = some (.lst acc) ∧ Reps X.K Hs' accD acc ∧ Hs' D = none ∧ acc.length ≤ i ∧
      Post (compGo T (own.map (·.2)) mt me (l.drop i) ρ θ') (fun ys θ'' => OkO X F σ ρ Q Hs' (accD ++ ys) θ'') (ExW X F W Hs'), ⟨l.length, rfl, Nat.zero_le _, Hs1, θ1, [], [], Same.refl _, stD, upd_same, rfl, st1.sub.free nD, Nat.le_refl _, q.imp (fun ys θ'' z => OkO.anti s1 _ _ z) (ExW.anti s1)⟩, ?_⟩
    rintro i m H' ⟨rfl, hi', Hs', θ', acc, accD, s2, st2, hD, hacc, nD', la, q2⟩
    by_cases hlt : i < l.length
    · refine Or.inr ⟨it.go i H' Hs' hlt s2 st2.sub, fun H3 => ∃ Hs3 θ3 acc3 accD3, Same Hs1 Hs3 ∧ StOk X.K F σ H3 Hs3 ρ θ3 ∧ H3 D = some (.lst acc3) ∧ Reps X.K Hs3 accD3 acc3 ∧ Hs3 D = none ∧ acc3.length ≤ i + 1 ∧
        Post (compGo T (own.map (·.2)) mt me (l.drop (i + 1)) ρ θ3) (fun ys θ'' => OkO X F σ ρ Q Hs3 (accD3 ++ ys) θ'') (ExW X F W Hs3), fun H3 h3 => ⟨l.length - (i + 1), by omega, rfl, hlt, h3⟩, fun x H4 y => ?_⟩
      obtain ⟨Hs4, g4, r4⟩ := it.yld i H' Hs' x H4 l[i] (List.getElem?_eq_getElem hlt) s2 st2.sub y
      have st4 := st2.grow g4
      have hD4 : H4 D = some (.lst acc) := g4.h _ _ hD
      have nD4 : Hs4 D = none := (g4.n D (by rw [hD]; exact fun z => nomatch z)).trans nD'
      rw [List.drop_eq_getElem_cons hlt] at q2
      unfold compGo at q2
      cases eb : bindT T l[i] (wipeD (hide ρ) (own.map (·.2))) with
      | none => rw [eb] at q2; exact q2.elim
      | some ρ5 =>
        rw [eb] at q2
        refine hg ⟨F.ap, H4, Hs4, F.cells, F.xs, none⟩ _ H4 Hs4 _ ρ5 θ' l[i] x _ (st_block st4 _) r4 eb fun σ5 st5 hj hlen => ⟨?_, ?_⟩
        · refine wipe_same (by rw [hlen, wipe_length]) fun j hj2 => hj j fun k hk e => hj2 ?_
          rw [← e]
          cases T with
          | n k' => exact (show k = k' from hk) ▸ hT
          | t is => exact hT k hk
          | m ts =>
            obtain ⟨u, h1, h2⟩ := (show ∃ t ∈ ts, in1 t k from hk)
            exact hT u h1 k h2
        · dsimp only at q2
          refine ht ⟨F.ap, H4, Hs4, F.cells, F.xs, none⟩ σ5 H4 _ ⟨ρ5, θ', Hs4, st5, ?_⟩
          cases et : mt ρ5 θ' with
          | ok b θ6 =>
            rw [et] at q2
            intro H6 Hs6 s6 st6
            have fe6 := fnEnd_of (F := F) s6 st6
            have stO6 := st_end st4 fe6
            have apD : F.ap ≠ some D := ap_ne st1 nD
            have hD6 : H6 D = some (.lst acc) := fe6.old D _ apD notT_lst hD4
            have nD6 : Hs6 D = none := (fe6.n D (by rw [hD4]; exact fun z => nomatch z)).trans nD4
            cases b with
            | false =>
              refine iteF ?_
              exact ⟨Hs6, θ6, acc, accD, s2.trans (g4.s.trans s6), stO6, hD6, Reps.mono (g4.s.trans s6) accD hacc, nD6, by omega, q2.imp (fun ys θ'' z => OkO.anti (g4.s.trans s6) _ _ z) (ExW.anti (g4.s.trans s6))⟩
            | true =>
              refine iteT ?_
              dsimp only at q2
              refine he ⟨F.ap, H4, Hs4, F.cells, F.xs, none⟩ σ5 H6 _ ⟨ρ5, θ6, Hs6, st6, ?_⟩
              cases ee : me ρ5 θ6 with
              | ok y θ7 =>
                rw [ee] at q2
                intro v H7 Hs7 s7 st7 r7
                have fe7 := fnEnd_of (F := F) (s6.trans s7) st7
                have stO7 := st_end st4 fe7
                have hD7 : H7 D = some (.lst acc) := fe7.old D _ apD notT_lst hD4
                have nD7 : Hs7 D = none := (fe7.n D (by rw [hD4]; exact fun z => nomatch z)).trans nD4
                have s47 := g4.s.trans (s6.trans s7)
                refine ⟨acc, hD7, bigL_ok (by omega), Hs7, θ7, acc ++ [v], accD ++ [y], s2.trans s47, ?_, upd_same, (Reps.mono s47 accD hacc).append (Reps.cons r7 Reps.nil), nD7, by rw [List.length_append, List.length_singleton]; omega, ?_⟩
                · -- the list D has grown
                  have zD : ∀ b u, Hs7 b = some u → b ≠ D := fun b u w k => by rw [k, nD7] at w; cases w
                  have z0 : F.H0 D = none := h0_none st1 nD
                  refine ⟨fun b u w => by rw [upd_ne (zD b u w)]; exact stO7.sub b u w, stO7.hap, fun p w => ?_, fun b o w1 nt w2 => ?_, fun b hb z => ?_, stO7.tab.keep (KeepN.upd hD7), stO7.frs, stO7.dat, fun j m' w => ?_, stO7.sep, stO7.pt, stO7.fx, fun j m' w => ?_, stO7.len, fun j g ks vs w => ?_, stO7.sepD⟩
                  · rw [upd_ne (fun k => apD (by rw [← k]; exact w))]
                    exact stO7.pot p w
                  · rw [upd_ne (fun k => by rw [k, z0] at w2; cases w2)]
                    exact stO7.old b o w1 nt w2
                  · by_cases k : b = D
                    · rw [k, upd_same] at z
                      cases z
                    · rw [upd_ne k] at z
                      exact stO7.thr b hb z
                  · obtain ⟨b, zs, w1, w2, w3⟩ := stO7.own j m' w
                    obtain ⟨b', zs', w1', w2', _⟩ := st1.own j m' w
                    rw [w1] at w1'
                    cases w1'
                    have ne : b ≠ D := fun k => by rw [k, nD] at w2'; cases w2'
                    exact ⟨b, zs, w1, by rw [upd_ne ne]; exact w2, w3⟩
                  · obtain ⟨b, zs, w0, w1, w2, w3, w4, w5, w6⟩ := stO7.opn j m' w
                    have ne : b ≠ D := fun k => by rw [k, z0] at w5; cases w5
                    exact ⟨b, zs, w0, w1, by rw [upd_ne ne]; exact w2, w3, w4, w5, w6⟩
                  · obtain ⟨b, zs, w1, w2, w3⟩ := stO7.dic j g ks vs w
                    have ne : b ≠ D := fun k => by rw [k, hD7] at w2; exact dicO_lst _ (Option.some.inj w2).symm
                    exact ⟨b, zs, w1, by rw [upd_ne ne]; exact w2, w3⟩
                · refine Post.imp (post_bnd q2) (fun ys θ'' z => ?_) fun _ _ _ z => ExW.anti s47 _ _ _ z
                  rw [List.append_assoc]
                  exact OkO.anti s47 _ _ z
              | exn x6 ρ6 θ7 => rw [ee] at q2; exact q2.elim
              | bad => rw [ee] at q2; exact q2.elim
          | exn x6 ρ6 θ6 => rw [et] at q2; exact q2.elim
          | bad => rw [et] at q2; exact q2.elim
    · have e : i = l.length := by omega
      subst e
      rw [List.drop_length] at q2
      have q3 : OkO X F σ ρ Q Hs' (accD ++ []) θ' := q2
      rw [List.append_nil] at q3
      refine Or.inl ⟨it.stop H' Hs' s2 st2.sub, q3 D acc H' Hs' (Same.refl _) st2 hD hacc nD' (h0_none st1 nD) (ap_ne st1 nD) fun j m' w z => own_ne st1 nD j m' w z⟩
  · rw [if_neg hl] at q
    exact q.elim
theorem po_comp (own : List (Str × Nat)) (T : Tgt) (hc : X.calm = true) (hN : X.N.Nodup) (hi : PID X F W tg iter ms) (ok : BlkOk X.N X.env.scope scope own) (hT : TgtIn T (own.map (·.2)))
    (hg : ∀ (s : Shared) (H : Hp) (C : Addr) (cl : List (Str × Addr)) (fp : List Addr), PG (X.blk s H scope (compEnvC scope cl C X.env) fp) tg (gOf X.K T))
    (ht : ∀ (F : Fr0) (s : Shared) (H : Hp) (C : Addr) (cl : List (Str × Addr)) (fp : List Addr), PTsD (X.blk s H scope (compEnvC scope cl C X.env) fp) F W0 ifs mt)
    (he : ∀ (F : Fr0) (s : Shared) (H : Hp) (C : Addr) (cl : List (Str × Addr)) (fp : List Addr), PD (X.blk s H scope (compEnvC scope cl C X.env) fp) F W0 elt me) (hs : ∀ x, foldedSetIterable iter X.env x = pure x := by intro _; rfl) :
    PO X F W (.ListComp elt [⟨tg, iter, ifs, 0⟩] scope pos) (mComp T (own.map (·.2)) ms mt me) := by
  -- one reading for all frames: what holds at some frame
  have ht' : ∀ (s : Shared) (H : Hp) (C : Addr) (cl : List (Str × Addr)) (fp : List Addr), PTs (X.blk s H scope (compEnvC scope cl C X.env) fp) ifs (fun σ H Q => ∃ F, tT X F W0 mt σ H Q) := fun s H C cl fp => ⟨fun pins s1 σ H1 Q I ⟨F1, h⟩ => (ht F1 s H C cl fp).run pins s1 σ H1 Q I h⟩
  have he' : ∀ (s : Shared) (H : Hp) (C : Addr) (cl : List (Str × Addr)) (fp : List Addr), PE (X.blk s H scope (compEnvC scope cl C X.env) fp) elt (fun σ H Q => ∃ F, tD X F W0 me σ H Q) := fun s H C cl fp => ⟨fun pins s1 σ H1 Q I ⟨F1, h⟩ => (he F1 s H C cl fp).run pins s1 σ H1 Q I h⟩
  refine pe_imp (pe_lc hc hN hi ok hg ht' he' hs) fun σ H Q h => ?_
  refine comp_run hT (fun F σ H Hs ρ ρ' θ d v Q st r e q => ?_) (fun F σ H Q h => ⟨F, h⟩) (fun F σ H Q h => ⟨F, h⟩) h
  exact gOf_run st r e q
end

section
variable {X : Cx} {F : Fr0} {W : WX} {a b c : Expr} {pos q : Pos} {x y : Str}
theorem st_pot {σ : L2.St} {H Hs : Hp} {ρ : DEnv} {θ : Pot} (st : StOk X.K F σ H Hs ρ θ) {p : Addr} (e : F.ap = some p) (θ' : Pot) : StOk X.K F σ (upd H p (.lst [.int θ'.1, .int θ'.2])) Hs ρ θ' := by
  have z : ∀ b u, Hs b = some u → b ≠ p := fun b u w k => by rw [k, st.hap p e] at w; cases w
  refine ⟨fun b u w => by rw [upd_ne (z b u w)]; exact st.sub b u w, st.hap, fun r w => ?_, fun b o w1 nt w2 => ?_, fun b hb z => ?_, st.tab.keep (KeepN.upd (st.pot p e)), st.frs, st.dat, fun j l w => ?_, st.sep, st.pt, st.fx, fun j l w => ?_, st.len, fun j g k l w => ?_, st.sepD⟩
  · rw [e] at w
    cases w
    exact upd_same
  · rw [upd_ne (fun k => w1 (by rw [k]; exact e))]
    exact st.old b o w1 nt w2
  · by_cases k : b = p
    · rw [k, upd_same] at z
      cases z
    · rw [upd_ne k] at z
      exact st.thr b hb z
  · obtain ⟨a, xs, e1, e2, e3, e4, e5, e6⟩ := st.own j l w
    exact ⟨a, xs, e1, by rw [upd_ne (fun k => e6 (by rw [k]; exact e))]; exact e2, e3, e4, e5, e6⟩
  · obtain ⟨a, xs, e0, e1, e2, e3, e4, e5, e6⟩ := st.opn j l w
    exact ⟨a, xs, e0, e1, by rw [upd_ne (fun k => e6 (by rw [k]; exact e))]; exact e2, e3, e4, e5, e6⟩
  · obtain ⟨a, xs, e1, e2, e3, e4, e5, e6⟩ := st.dic j g k l w
    exact ⟨a, xs, e1, by rw [upd_ne (fun k => e6 (by rw [k]; exact e))]; exact e2, e3, e4, e5, e6⟩
/-- pot[0], pot[1] -/
def mPotI (i : Nat) (k : Nat) : M Dt := fun ρ θ => match ρ[i]? with
  | some (some .pot) => .ok (.int (if k = 0 then θ.1 else θ.2)) θ
  | _ => .bad
theorem pd_potI (i k : Nat) {j : Nat} {p : Pos} (hk : k < 2 := by decide) (hN : X.N[i]? = some y := by rfl) (hv : Vis X.env.scope y := by first | exact Or.inl rfl | exact Or.inr (Or.inl rfl) | exact Or.inr (Or.inr rfl)) (hd : (y == ("__debug__" : Str)) = false := by decide)
    (hcd : (y == ("__classdict__" : Str)) = false := by decide) (hs : PlainIx (.Constant (.int (k : Int)) j p) := by intro _ _; rfl) : PD X F W (.Subscript (.Name y q) (.Constant (.int (k : Int)) j p) pos) (mPotI i k) := by
  refine pe_imp (pe_ix ix_list (pe_var hN hv hd hcd) pe_int hs) fun σ H Q h => ?_
  obtain ⟨ρ, θ, Hs, st, h⟩ := h
  unfold mPotI at h
  split at h
  · rename_i e
    obtain ⟨p0, e1, e2⟩ := st.pt i e
    refine ⟨_, e2, p0, _, _, .int (if k = 0 then θ.1 else θ.2), rfl, rfl, SqL.of (st.pot p0 e1), atI_nat ?_, fin_D h st rfl⟩
    match k, hk with
    | 0, _ => rfl
    | 1, _ => rfl
  · exact h.elim
/-- pot[1] = e -/
def mPotS (i : Nat) (ma : M Dt) : M Out := bnd ma fun d ρ θ => match d, ρ[i]? with
  | .int n, some (some .pot) => .ok (.next ρ) (θ.1, n)
  | _, _ => .bad
theorem psd_potS (i : Nat) {ma : M Dt} {j : Nat} {p spos : Pos} (ha : PD X F W a ma) (hN : X.N[i]? = some y := by rfl) (hv : Vis X.env.scope y := by first | exact Or.inl rfl | exact Or.inr (Or.inl rfl) | exact Or.inr (Or.inr rfl)) (hd : (y == ("__debug__" : Str)) = false := by decide)
    (hcd : (y == ("__classdict__" : Str)) = false := by decide)
    (has : ∀ v, assign (.Subscript (.Name y q) (.Constant (.int 1) j p) spos) X.env v = (do
      let ov ← holding [v] (eval (.Name y q) X.env)
      let iv ← holding [v, ov] (eval (.Constant (.int 1) j p) X.env)
      standAt spos
      holding [v, ov, iv] (setItem ov iv v)
      release [v, ov, iv] []) := by intro _; rfl)
    (hs : swapsWithSole [.Subscript (.Name y q) (.Constant (.int 1) j p) spos] a pos.line X.env = pure false := by rfl) (hw : swappedStores [.Subscript (.Name y q) (.Constant (.int 1) j p) spos] a X.env = pure none := by rfl)
    (h1 : (assignEach [.Subscript (.Name y q) (.Constant (.int 1) j p) spos] X.env).map (·.2) = [assign (.Subscript (.Name y q) (.Constant (.int 1) j p) spos) X.env] := by rfl) : PSD X F W (.Assign [.Subscript (.Name y q) (.Constant (.int 1) j p) spos] a pos) (mPotS i ma) := by
  refine ps_imp (ps_asg ha (pg_sub (pe_var hN hv hd hcd) pe_int set_list has) hs hw h1) fun D σ H h => ?_
  obtain ⟨ρ, θ, Hs, st, h⟩ := h
  refine then_D OkS.anti st h fun v d H1 Hs1 θ1 s1 st1 r1 h => ?_
  split at h
  · rename_i n e
    obtain ⟨p0, e1, e2⟩ := st1.pt i e
    refine ⟨_, e2, p0, _, 1, 1, rfl, rfl, st1.pot p0 e1, rfl, ?_⟩
    rw [show v = _ from r1]
    exact h σ _ Hs1 (Same.refl _) (st_pot st1 e1 (θ1.1, n))
  · exact h.elim
theorem call_divmodW : CallR X (.builtin "divmod") (fun xs H Q => ∃ i j, xs = [.int i, .int j] ∧ (0 < j ∧ j.natAbs.log2 < 9000) ∧ ∀ p, H p = none → Q (.ref p) (upd H p (.tup [.int (i / j), .int (i % j)]))) := by
  intro pins s σ H xs us Q I r h
  obtain ⟨i, j, rfl, ⟨h1, h2⟩, q⟩ := h
  obtain ⟨u, w', rfl, ⟨t, rfl⟩, ⟨t', rfl⟩⟩ := vals2 r
  have hj : j ≠ 0 := by omega
  refine divmod_int hj ?_ (.inl (PyProof.noPylong_of_log2 h2))
  rw [Int.fdiv_eq_ediv_of_nonneg i (Int.le_of_lt h1), Int.fmod_eq_emod_of_nonneg i (Int.le_of_lt h1)]
  refine ⟨.ref s.heap.objs.size, _, ?_, rfl, q _ (I.hok.fresh (Nat.le_refl _))⟩
  refine I.laid (fun b o e => Heap.get?_push_of_some _ e) (Nat.le_refl _) ⟨by show 2 ≤ sizeLine; decide, [.int (i / j) s.toks, .int (i % j) (s.toks + 1)], .cons ⟨_, rfl⟩ (.cons ⟨_, rfl⟩ .nil), ?_⟩
  exact ⟨_, Heap.get?_push_size s.heap rfl, rfl, 0, rfl⟩
/-- pot[0], x = divmod(pot[0], e) -/
def mPotD (i j : Nat) (mb : M Dt) : M Out := fun ρ θ => match ρ[i]? with
  | some (some .pot) => bnd mb (fun d ρ θ1 => match d with
    | .int n => if (decide (0 < n) && small n) = true then .ok (.next (ρ.set j (some (.dat (.int (θ.1 % n)))))) (θ.1 / n, θ1.2) else .bad
    | _ => .bad) ρ θ
  | _ => .bad
theorem psd_potD (i j : Nat) {mb : M Dt} {z : Str} {k1 k2 : Nat} {p1 p2 p3 p4 p5 p6 p7 p8 p9 : Pos} {kt : Nat} (hc : X.calm = true) (hNd : X.N.Nodup) (hm : X.mg "divmod" = none) (hb : PD X F W b mb) (hN : X.N[i]? = some y := by rfl) (hj : X.N[j]? = some z := by rfl) (hv : Vis X.env.scope y := by first | exact Or.inl rfl | exact Or.inr (Or.inl rfl) | exact Or.inr (Or.inr rfl)) (hd : (y == ("__debug__" : Str)) = false := by decide)
    (hcd : (y == ("__classdict__" : Str)) = false := by decide) (hx : Loc X.env.scope z := by first | exact Or.inl rfl | exact Or.inr rfl) (hf : X.fn z = true ∨ X.env.scope.names.lookup z = some .local := by first | exact .inl rfl | exact .inr rfl) (hg : Gl X "divmod" := by rfl)
    (has : ∀ v, assign (.Subscript (.Name y p1) (.Constant (.int 0) k1 p2) p3) X.env v = (do
      let ov ← holding [v] (eval (.Name y p1) X.env)
      let iv ← holding [v, ov] (eval (.Constant (.int 0) k1 p2) X.env)
      standAt p3
      holding [v, ov, iv] (setItem ov iv v)
      release [v, ov, iv] []) := by intro _; rfl)
    (hpx : PlainIx (.Constant (.int 0) k2 p8) := by intro _ _; rfl)
    (e1 : starEach [.Subscript (.Name y p7) (.Constant (.int 0) k2 p8) p9, b] X.env = (false, eval (.Subscript (.Name y p7) (.Constant (.int 0) k2 p8) p9) X.env) :: starEach [b] X.env := by rfl) (e2 : starEach [b] X.env = (false, eval b X.env) :: starEach [] X.env := by rfl) (hpl : (backTo p6 (starEach [b] X.env)).any (·.1) = false := by rfl)
    (g1 : (assignEach [.Subscript (.Name y p1) (.Constant (.int 0) k1 p2) p3, .Name z p4] X.env).map (·.2) = assign (.Subscript (.Name y p1) (.Constant (.int 0) k1 p2) p3) X.env :: (assignEach [.Name z p4] X.env).map (·.2) := by rfl)
    (g2 : (assignEach [.Name z p4] X.env).map (·.2) = assign (.Name z p4) X.env :: (assignEach [] X.env).map (·.2) := by rfl)
    (g3 : (assignEach [.Subscript (.Name y p1) (.Constant (.int 0) k1 p2) p3, .Name z p4] X.env).length = 2 := by rfl) (g4 : (assignEach [.Subscript (.Name y p1) (.Constant (.int 0) k1 p2) p3, .Name z p4] X.env).findIdx? (·.1) = none := by rfl)
    (hs : swapsWithSole [.Tuple [.Subscript (.Name y p1) (.Constant (.int 0) k1 p2) p3, .Name z p4] kt p5] (.Call (.Name "divmod" q) [.Subscript (.Name y p7) (.Constant (.int 0) k2 p8) p9, b] [] p6) pos.line X.env = pure false := by rfl)
    (hw : swappedStores [.Tuple [.Subscript (.Name y p1) (.Constant (.int 0) k1 p2) p3, .Name z p4] kt p5] (.Call (.Name "divmod" q) [.Subscript (.Name y p7) (.Constant (.int 0) k2 p8) p9, b] [] p6) X.env = pure none := by rfl)
    (h1 : (assignEach [.Tuple [.Subscript (.Name y p1) (.Constant (.int 0) k1 p2) p3, .Name z p4] kt p5] X.env).map (·.2) = [assign (.Tuple [.Subscript (.Name y p1) (.Constant (.int 0) k1 p2) p3, .Name z p4] kt p5) X.env] := by rfl) :
    PSD X F W (.Assign [.Tuple [.Subscript (.Name y p1) (.Constant (.int 0) k1 p2) p3, .Name z p4] kt p5] (.Call (.Name "divmod" q) [.Subscript (.Name y p7) (.Constant (.int 0) k2 p8) p9, b] [] p6) pos) (mPotD i j mb) := by
  have PY : ∀ {r : Pos}, PE X (.Name y r) (tVar i) := pe_var hN hv hd hcd
  refine ps_imp (ps_asg (pe_callB call_divmodW hg hm (by decide +kernel) (pa_cons (pe_ix ix_list PY pe_int hpx) (pa_cons hb pa_nil e2) e1) (by decide) (by decide) e1 hpl)
    (pg_tup hc (pgs_cons (pg_sub PY pe_int set_list has) (pgs_cons (pg_name hNd hj hx hf) pgs_nil g2) g1) g3 g4) hs hw h1) fun D σ H h => ?_
  obtain ⟨ρ, θ, Hs, st, h⟩ := h
  unfold mPotD at h
  split at h
  · rename_i e
    obtain ⟨p0, e3, e4⟩ := st.pt i e
    refine ⟨_, e4, p0, _, _, .int θ.1, rfl, rfl, SqL.of (st.pot p0 e3), rfl, ?_⟩
    refine then_D OkS.anti st h fun v d H1 Hs1 θ1 s1 st1 r1 h => ?_
    split at h
    · rename_i n
      by_cases w : (decide (0 < n) && small n) = true
      · rw [if_pos w] at h
        obtain ⟨w1, w2⟩ := Bool.and_eq_true_iff.mp w
        refine ⟨θ.1, n, by rw [show v = _ from r1], ⟨of_decide_eq_true w1, of_decide_eq_true w2⟩, fun p np => ?_⟩
        have st2 := st_new (o := .tup [.int (θ.1 / n), .int (θ.1 % n)]) st1 np
        refine ⟨p, _, rfl, Or.inl (Or.inl upd_same), rfl, ?_⟩
        refine ⟨_, _, rfl, ?_⟩
        obtain ⟨p1, e5, e6⟩ := st2.pt i e
        refine ⟨_, e6, p1, _, 0, 0, rfl, rfl, st2.pot p1 e5, rfl, ?_⟩
        refine ⟨_, _, rfl, rfl, ?_⟩
        exact h _ _ _ (Same.refl _) (st_set (st_pot st2 e5 (θ.1 / n, θ1.2)) j rfl)
      · rw [if_neg w] at h
        exact h.elim
    · exact h.elim
  · exact h.elim
end
end Pd



namespace Pd
open PySem PySem.Spec PyProof.Rows L2
variable [Pd.LamTab]
structure PCh (X : Cx) (ops : List CmpOp) (es : List Expr) (t : V → TE) : Prop where
  val : ∀ (pos : Pos) (pins : List (Addr × Obj)) (s : Shared) (σ : L2.St) (H : Hp) (x : V) (v : Value) (Q : VK), Inv X pins σ H s → RelV x v → t x σ H Q → wpAny (model X.prog X.w) X.A (compareChain pos v ops (evalEach es X.env)) (EP X pins σ Q) X.xe s
  tst : ∀ (pos : Pos) (pins : List (Addr × Obj)) (s : Shared) (σ : L2.St) (H : Hp) (x : V) (v : Value) (Q : Bool → Hp → Prop), Inv X pins σ H s → RelV x v → t x σ H (fun y H' => ∃ k, y = .bl k ∧ Q k H') → wpAny (model X.prog X.w) X.A (testChain pos v ops (evalEach es X.env)) (TP X pins σ Q) X.xe s
def tLast (r : R2) (tb : TE) : V → TE := fun x σ H Q => tb σ H fun y H2 => r x y H2 Q
def tLink (r : R2) (tb : TE) (u : V → TE) : V → TE := fun x σ H Q => tb σ H fun y H2 => r x y H2 fun z H3 => ∃ k, z = .bl k ∧ (if k = true then u y σ H3 Q else Q (.bl false) H3)
section
variable {X : Cx} {F : Fr0} {W : WX} {a b : Expr} {pos : Pos} {tb ta : TE} {u : V → TE}
theorem pch_last {op : CmpOp} {r : R2} (ho : OpR X (compareOp op) r) (hb : PE X b tb) : PCh X [op] [b] (tLast r tb) where
  val := fun pos pins s σ H x v Q I rx h => chain_last (thn (hb.run pins s σ H _ I h) fun w' s4 ⟨z', H4, I4, r4, q4⟩ => ho pins s4 σ H4 x z' v w' Q I4 rx r4 q4)
  tst := fun pos pins s σ H x v Q I rx h => test_last (thn (hb.run pins s σ H _ I h) fun w' s4 ⟨z', H4, I4, r4, q4⟩ => thn (ho pins s4 σ H4 x z' v w' _ I4 rx r4 q4) fun d' s5 ⟨z2, H5, I5, r5, k2, e2, q5⟩ => by
    subst e2
    cases r5
    exact wpAny_truthy_bool ⟨H5, I5, q5⟩)
theorem pch_link {op op' : CmpOp} {ops : List CmpOp} {e : Expr} {es : List Expr} {r : R2} (ho : OpR X (compareOp op) r) (hb : PE X b tb) (hr : PCh X (op' :: ops) (e :: es) u) : PCh X (op :: op' :: ops) (b :: e :: es) (tLink r tb u) where
  val := fun pos pins s σ H x v Q I rx h => chain_link (thn (hb.run pins s σ H _ I h) fun w s2 ⟨y, H2, I2, r2, q2⟩ => thn (ho pins s2 σ H2 x y v w _ I2 rx r2 q2) fun d s3 ⟨z, H3, I3, r3, k, e, q3⟩ => by
    subst e
    cases r3
    refine wpAny_truthy_bool ?_
    cases k with
    | false => exact ite_ff ⟨.bl false, H3, I3, rfl, q3⟩
    | true => exact ite_tt (hr.val pos pins s3 σ H3 y w Q I3 r2 q3))
  tst := fun pos pins s σ H x v Q I rx h => test_link (thn (hb.run pins s σ H _ I h) fun w s2 ⟨y, H2, I2, r2, q2⟩ => thn (ho pins s2 σ H2 x y v w _ I2 rx r2 q2) fun d s3 ⟨z, H3, I3, r3, k, e, q3⟩ => by
    subst e
    cases r3
    refine wpAny_truthy_bool ?_
    cases k with
    | false =>
      obtain ⟨k', e', q'⟩ := q3
      cases e'
      exact ite_ff ⟨H3, I3, q'⟩
    | true => exact ite_tt (hr.tst pos pins s3 σ H3 y w Q I3 r2 q3))
/-- the same by data -/
def tC3 (X : Cx) (F : Fr0) (W : WX) (c : Dt → M Dt) : V → TE := fun x σ H Q => ∃ d ρ θ Hs, StOk X.K F σ H Hs ρ θ ∧ Rep X.K Hs d x ∧ Post (c d ρ θ) (OkD X F σ ρ Q Hs) (ExW X F W Hs)
def PCD (X : Cx) (F : Fr0) (W : WX) (ops : List CmpOp) (es : List Expr) (c : Dt → M Dt) : Prop := PCh X ops es (tC3 X F W c)
theorem pch_imp {ops : List CmpOp} {es : List Expr} {t t' : V → TE} (h : PCh X ops es t) (i : ∀ x σ H Q, t' x σ H Q → t x σ H Q) : PCh X ops es t' where
  val := fun pos pins s σ H x v Q I rx q => h.val pos pins s σ H x v Q I rx (i _ _ _ _ q)
  tst := fun pos pins s σ H x v Q I rx q => h.tst pos pins s σ H x v Q I rx (i _ _ _ _ q)
def cLast (g : Dt → Dt → Option Dt) (mb : M Dt) : Dt → M Dt := fun x => bnd mb fun y => opt (g x y)
def cLink (g : Dt → Dt → Option Dt) (mb : M Dt) (c : Dt → M Dt) : Dt → M Dt := fun x => bnd mb fun y => bnd (opt (g x y)) fun z => match z with
  | .bl true => c y
  | .bl false => ret (.bl false)
  | _ => bad
theorem pcd_last {op : CmpOp} {g : Dt → Dt → Option Dt} {mb : M Dt} (ho : OpD X (compareOp op) g) (hb : PD X F W b mb) : PCD X F W [op] [b] (cLast g mb) := by
  obtain ⟨r, o, k⟩ := ho
  refine pch_imp (pch_last o hb) fun x σ H Q h => ?_
  obtain ⟨d, ρ, θ, Hs, st, rx, h⟩ := h
  refine then_D OkD.anti st h fun y dy H2 Hs2 θ2 s2 st2 r2 h => ?_
  obtain ⟨dd, e, q⟩ := post_opt h
  exact k d dy dd e Hs2 H2 x y Q st2.sub (Rep.mono s2 d rx) r2 fun v Hs' H' g1 r => q v H' Hs' g1.s (st2.grow g1) r
theorem pcd_link {op op' : CmpOp} {ops : List CmpOp} {e : Expr} {es : List Expr} {g : Dt → Dt → Option Dt} {mb : M Dt} {c : Dt → M Dt} (ho : OpD X (compareOp op) g) (hb : PD X F W b mb) (hr : PCD X F W (op' :: ops) (e :: es) c) : PCD X F W (op :: op' :: ops) (b :: e :: es) (cLink g mb c) := by
  obtain ⟨r, o, k⟩ := ho
  refine pch_imp (pch_link o hb hr) fun x σ H Q h => ?_
  obtain ⟨dx, ρ, θ, Hs, st, rx, h⟩ := h
  refine then_D OkD.anti st h fun y dy H2 Hs2 θ2 s2 st2 r2 h => ?_
  obtain ⟨d, e, q⟩ := post_opt (post_bnd h)
  refine k dx dy d e Hs2 H2 x y _ st2.sub (Rep.mono s2 dx rx) r2 fun v Hs3 H3 g1 r => ?_
  have st3 := st2.grow g1
  cases d with
  | bl kk =>
    refine ⟨kk, r, ?_⟩
    cases kk with
    | true =>
      refine iteT ?_
      exact ⟨dy, ρ, θ2, Hs3, st3, Rep.mono g1.s dy r2, Post.imp q (OkD.anti g1.s) (ExW.anti g1.s)⟩
    | false =>
      refine iteF ?_
      exact OkD.anti g1.s _ _ q _ H3 Hs3 (Same.refl _) st3 rfl
  | _ => exact q.elim
def mChn (ma : M Dt) (c : Dt → M Dt) : M Dt := bnd ma c
theorem pd_chn {op op' : CmpOp} {ops : List CmpOp} {e e' : Expr} {es : List Expr} {ma : M Dt} {c : Dt → M Dt} (ha : PD X F W a ma) (hc : PCD X F W (op :: op' :: ops) (e :: e' :: es) c) (hm : lastMarks (op :: op' :: ops) (e :: e' :: es) = false := by with_unfolding_all rfl) :
    PD X F W (.Compare a (op :: op' :: ops) (e :: e' :: es) pos) (mChn ma c) := by
  refine ⟨fun pins s σ H Q I h => ?_⟩
  obtain ⟨ρ, θ, Hs, st, h⟩ := h
  refine Compare_chain (thn (ha.run pins s σ H _ I (then_D OkD.anti st h fun x dx H1 Hs1 θ1 s1 st1 r1 h => ?_)) fun v s1 ⟨x, H1, I1, r1, q1⟩ => hc.val pos pins s1 σ H1 x v Q I1 r1 q1) hm
  exact ⟨dx, ρ, θ1, Hs1, st1, r1, h⟩
theorem pt_chn {op op' : CmpOp} {ops : List CmpOp} {e e' : Expr} {es : List Expr} {ma : M Dt} {c : Dt → M Dt} (ha : PD X F W a ma) (hc : PCD X F W (op :: op' :: ops) (e :: e' :: es) c) (hm : lastMarks (op :: op' :: ops) (e :: e' :: es) = false := by with_unfolding_all rfl) :
    PTD X F W (.Compare a (op :: op' :: ops) (e :: e' :: es) pos) (mBool (mChn ma c)) := by
  refine ⟨fun pins s σ H Q I h => ?_⟩
  obtain ⟨ρ, θ, Hs, st, h⟩ := bool_run h
  refine isTrue_chain (thn (ha.run pins s σ H _ I (then_D OkD.anti st h fun x dx H1 Hs1 θ1 s1 st1 r1 h => ?_)) fun v s1 ⟨x, H1, I1, r1, q1⟩ => hc.tst pos pins s1 σ H1 x v Q I1 r1 q1) hm
  exact ⟨dx, ρ, θ1, Hs1, st1, r1, h⟩
end
end Pd



namespace Pd
open PySem PySem.Spec PyProof.Rows L2
variable [Pd.LamTab]
section
variable {X : Cx} {F : Fr0} {W : WX} {a b c : Expr} {es : List Expr} {pos p : Pos} {x : Str}
def mLawR (f : Mir) (ml : M (List Dt)) : M Out := bnd ml fun l ρ θ => match l with
  | [.int i, .int j] => match f [.pot] (i, j) with
    | .ok (.d d) _ => .ok (.ret (.d d)) θ
    | _ => .bad
  | _ => .bad
def st_blank {K : PySem.W.Frag} {σ : L2.St} {H Hs H' Hs' : Hp} {ρ : DEnv} {θ θ' : Pot} {q : Addr} {v : V} (st : StOk K F σ H Hs ρ θ) (hap : F.ap ≠ some q) (h0 : F.H0 q = none) (e : FnEnd (some q) (tbK K) Hs H Hs' H' θ') : StOk K F σ H' Hs' (List.replicate ρ.length none) θ where
  sub := e.i
  hap := fun p h => (e.n p (st.apH h)).trans (st.hap p h)
  pot := fun p h => e.old p _ (fun z => hap (by rw [h]; exact z.symm)) notT_lst (st.pot p h)
  old := fun b o h1 n h2 => e.old b o (fun z => by cases z; rw [h0] at h2; cases h2) n (st.old b o h1 n h2)
  thr := fun b hb => e.thr b (st.thr b hb)
  tab := e.tab
  frs := fun b hb => (e.n b (st.H0H hb)).trans (st.frs b hb)
  dat := fun i d z => by rw [List.getElem?_replicate] at z; split at z <;> cases z
  own := fun i l z => by rw [List.getElem?_replicate] at z; split at z <;> cases z
  sep := fun i j l m a z => by rw [List.getElem?_replicate] at z; split at z <;> cases z
  pt := fun i z => by rw [List.getElem?_replicate] at z; split at z <;> cases z
  fx := fun i n z => by rw [List.getElem?_replicate] at z; split at z <;> cases z
  opn := fun i n z => by rw [List.getElem?_replicate] at z; split at z <;> cases z
  len := by rw [List.length_replicate]; exact st.len
  dic := fun i g k l z => by rw [List.getElem?_replicate] at z; split at z <;> cases z
  sepD := fun i j g g' k k' l l' a z => by rw [List.getElem?_replicate] at z; split at z <;> cases z
theorem one_arg {P : Value → Prop} {v : V} {us : List Value} (r : Vals [v] us) (h : ∀ u, RelV v u → us = [u] → P u) : ∃ u, us = [u] ∧ P u := by
  cases r with
  | cons r rr =>
    cases rr
    exact ⟨_, rfl, h _ r rfl⟩
theorem lawR_call {k : Nat} {f : Addr} {fd : FuncData} {ps : List Str} {m : Mir} {ml : M (List Dt)} {e : Expr} (tk : Takes X W) (G : FnP X.prog X.w X.K X.mg X.base k f fd ps m) (hr : Room k X.A) (hg : X.A.guards = some []) (hm : X.mg x = some (.ref f)) (kp : PySem.W.keepIn X.K (.ref f) = true) (bt : Bt X.K fd ps 1 [] [] [0])
    (ha : PO X F W e ml) (hps : ps.length = 1) (gl : Gl X x)
    (hks : (backToKw pos (keywordEach [] X.env)).filterMap (·.1) = []) (hall : (backToKw pos (keywordEach [] X.env)).all (·.1.isSome) = true)
    (he : starEach [e] X.env = (false, eval e X.env) :: starEach [] X.env) (hpl : ((backTo pos (starEach [e] X.env)).any (·.1) || (backToKw pos (keywordEach [] X.env)).any (·.1.isNone)) = false) (hdb : (x == ("__debug__" : Str)) = false) :
    PE X (.Call (.Name x p) [e] [] pos) (fun σ H Q => tO X F W ml σ H fun v H1 => spF X.K X.mg ps.length m [v] H1 Q (fun c d H' => W c d σ H')) := by
  refine ⟨fun pins s σ H Q I h => ?_⟩
  refine wpAny_Call_Name_kw (ld_glob I gl hm ?_ hdb)
  have PA1 : PA X [e] (tCons (tO X F W ml) tNil) := pa_cons ha pa_nil he
  have h1 : tCons (tO X F W ml) tNil σ H (fun vs H1 => ∃ v, vs = [v] ∧ spF X.K X.mg ps.length m [v] H1 Q (fun c d H' => W c d σ H')) := by
    obtain ⟨ρ, θ, Hs, st, h⟩ := h
    exact ⟨ρ, θ, Hs, st, h.imp (fun l θ' q a xs H' Hs' s' st' e1 e2 e3 e4 e5 e6 => ⟨_, rfl, q a xs H' Hs' s' st' e1 e2 e3 e4 e5 e6⟩) fun _ _ _ z => z⟩
  have A1 := PA1.run pos pins s σ H _ I h1
  refine PySem.W.callWith_KW (h₀ := X.base) I.ok.mod.kin kp hall (thn A1 fun us s1 ⟨vs, H1, I1, r1, q1⟩ => ?_) hpl he
  obtain ⟨v, e1, q1⟩ := q1
  rw [e1] at r1
  have K1 := (pk_nil (X := X)).run pos pins s1 σ H1 (fun zs H2 => zs = [] ∧ H2 = H1) I1 ⟨rfl, rfl⟩
  refine thn K1 fun ws s2 ⟨zs, H2, I2, r2, q2⟩ => ⟨I2.kIn, ?_⟩
  obtain ⟨e2, e3⟩ := q2
  rw [e2] at r2
  rw [hks]
  have w0 : ws = [] := by cases r2; rfl
  obtain ⟨u, e4, q4⟩ := one_arg (P := fun u => us = [u] ∧ RelV v u) r1 fun u r e => ⟨e, r⟩
  rw [e4, w0]
  exact run_p G hr hg tk I2 (.cons q4.2 .nil) (bt s2 [u] [] I2.kIn rfl rfl) (by rw [e3]; exact q1)
theorem psd_lawR {pos2 : Pos} {k : Nat} {f : Addr} {fd : FuncData} {ps : List Str} {m : Mir} {ml : M (List Dt)} {e : Expr} (tk : Takes X W) (G : FnP X.prog X.w X.K X.mg X.base k f fd ps m) (hr : Room k X.A) (hg : X.A.guards = some []) (hm : X.mg x = some (.ref f)) (kp : PySem.W.keepIn X.K (.ref f) = true) (bt : Bt X.K fd ps 1 [] [] [0])
    (ha : PO X F W e ml) (hps : ps.length = 1 := by rfl) (gl : Gl X x := by rfl)
    (hks : (backToKw pos (keywordEach [] X.env)).filterMap (·.1) = [] := by rfl) (hall : (backToKw pos (keywordEach [] X.env)).all (·.1.isSome) = true := by rfl)
    (he : starEach [e] X.env = (false, eval e X.env) :: starEach [] X.env := by rfl) (hpl : ((backTo pos (starEach [e] X.env)).any (·.1) || (backToKw pos (keywordEach [] X.env)).any (·.1.isNone)) = false := by rfl) (hdb : (x == ("__debug__" : Str)) = false := by decide) :
    PSD X F W (.Return (some (.Call (.Name x p) [e] [] pos)) pos2) (mLawR m ml) := by
  refine ps_imp (ps_ret (lawR_call tk G hr hg hm kp bt ha hps gl hks hall he hpl hdb)) fun D σ H h => ?_
  · obtain ⟨ρ, θ, Hs, st, h⟩ := h
    refine then_O OkS.anti st h fun q xs l H1 Hs1 θ1 s1 st1 e1 e2 e3 e4 e5 e6 h => ?_
    split at h
    · rename_i i j
      refine ⟨hps.symm, some q, Hs1, [.pot], (i, j), st1.sub, st1.tab, fun p z => by cases z; exact e3, fun p z => by cases z; rw [e1, show xs = _ from Reps.ints (l := [i, j]) e2]; rfl, ⟨q, [], rfl, rfl, rfl⟩, ?_⟩
      cases em : m [.pot] (i, j) with
      | ok r θ2 =>
        rw [em] at h
        cases r with
        | d d => exact fun v H' Hs' fe rv => h σ H' Hs' fe.s _ v (st_blank (v := v) st1 e5 e4 fe) rv
        | o l => exact h.elim
        | q k l => exact h.elim
      | exn x1 ρ1 θ1 => rw [em] at h; exact h.elim
      | bad => rw [em] at h; exact h.elim
    · exact h.elim
end

/-- no defaults: how the values come to the parameters -/
theorem bt0 {K : PySem.W.Frag} {x qual : Str} {params : Arguments} {body : List Stmt} {scope : Scope} {kws : List (Str × V)} {f : Addr} {fd : FuncData} {ps ks : List Str} {n : Nat} {is : List Nat} (D : FunD K x qual params body scope [] kws f fd)
    (h : ∀ (kV doc pm : Value) (an : Option Addr) (cdv ct : Value) (us ws : List Value), us.length = n → ws.length = ks.length → bindArgs (PySem.W.fnOf x qual params body scope .none kV doc pm an cdv ct) ⟨us, ks.zip ws⟩ = pure (ps.zip (pick is (us ++ (ws ++ []))))) : Bt K fd ps n ks [] is := by
  obtain ⟨oc, od, dV, kV, doc, pm, an, cdv, ct, osl, rfl, lk, hcd, hD, hK⟩ := D.ex
  rcases hD with ⟨_, rfl⟩ | ⟨e, _⟩
  · exact fun s us ws _ l1 l2 => .of_eq (h kV doc pm an cdv ct us ws l1 l2)
  · exact absurd rfl e
/-- the call of a law's def by its mirror -/
theorem lawP {P : Program} {w : World} {K : PySem.W.Frag} {mg mb : Str → Option Value} {k : Nat} {fa a : Addr} {fd : FuncData} {x : Str} {m : Mir} {s₁ : Shared} {vs : List Value} {ns : List Int}
    (kin : K.In s₁.heap) (glo : s₁.heap.Ns mainGlobals mg) (bui : s₁.heap.Ns builtinsNs mb) (boot : ∀ z : Str, z ≠ "__name__" → mb z = bootBuiltins z) (lim : s₁.heap.NoLimit) (nog : s₁.gens = #[])
    (there : s₁.heap.get? a = some { cls := .type "list", data := .seq vs.toArray }) (ints0 : IntsAre vs ns) (few : ns.length ≤ sizeLine) (room : Room k callerA)
    (G : ∀ base : Heap, K.In base → base.Ns mainGlobals mg → FnP P w K mg base k fa fd [x] m) (bind : ∀ (s : Shared) (u : Value), BindsTo s fd ⟨[u], []⟩ [(x, u)])
    (right : ∀ θ, ∃ θ', m [.dat (.lst (ns.map Dt.int))] θ = .ok (.d (.bl true)) θ') (h0 : LamTab.mks = []) :
    codeAny (model P w) callerA (.call (.ref fa) ⟨[.ref a], []⟩) (fun r s' => r = .ok (.ret (.bool true)) ∧ OldK s₁.heap s'.heap ∧ s'.os = s₁.os ∧ AllBare s'.gens) s₁ := by
  have items := vals_ints ints0
  have many := ints0.length
  have go : ∀ H : Hp, Only H → SqL K H a (ns.map V.int) → HOk P w H s₁.heap → (∀ b, H b ≠ none → b = a) → (H a ≠ none → K.lookup a = none) → codeAny (model P w) callerA (.call (.ref fa) ⟨[.ref a], []⟩) (fun r s' => r = .ok (.ret (.bool true)) ∧ OldK s₁.heap s'.heap ∧ s'.os = s₁.os ∧ AllBare s'.gens) s₁ := by
    intro H only sq good sole apart
    have free : ∀ b, b ≠ a → H b = none := fun b n => Classical.byContradiction fun z => n (sole b z)
    have ns0 : ∀ {b : Addr} {g : Str → Option Value}, s₁.heap.Ns b g → (hidT s₁.heap H).Ns b g := fun {b g} ⟨o, es, ep, e, d, r⟩ => by
      refine ⟨o, es, ep, hidT_get e (free b fun z => ?_), d, r⟩
      rw [z, there] at e
      cases e
      cases (show Data.seq vs.toArray _ = Data.dict es ep from d)
    have kin0 : K.In (hidT s₁.heap H) := fun b o e => by
      refine hidT_get (kin b o e) (Classical.byContradiction fun z => ?_)
      have q := sole b z
      rw [q] at e z
      rw [apart z] at e
      cases e
    have md : Mod K mg (hidT s₁.heap H) := ⟨kin0, ns0 glo, ⟨mb, ns0 bui, boot⟩, by obtain ⟨mc, q1, q2⟩ := lim; exact ⟨mc, ns0 q1, q2⟩⟩
    have ev : Env0 P w K mg (hidT s₁.heap H) callerA [] s₁ H := ⟨rfl, md, fun b o e => of_hidT e, Nat.le_of_eq (hidT_size _ _), trivial, fun b hb => absurd (show b ∈ ([] : List Addr) from hb) (by simp), good, .of_eq nog⟩
    obtain ⟨θ', er⟩ := right (0, 0)
    have sp : spF K mg [x].length m [.ref a] H (fun v _ => v = .bl true) fun _ _ _ => False := by
      refine ⟨rfl, none, H, [.dat (.lst (ns.map Dt.int))], (0, 0), Same.refl _, (fun p hp => by unfold tbK at hp; rw [h0] at hp; cases hp), nofun, nofun, ⟨.ref a, [], rfl, ⟨a, _, rfl, sq, Reps.of_ints ns⟩, rfl⟩, ?_⟩
      rw [er]
      exact fun v H' Hs' _ rv => rv
    have run := (G _ kin0 (ns0 glo)).run callerA [] s₁ H ⟨[.ref a], []⟩ [.ref a] [.ref a] _ _ room rfl ev (bind s₁ (.ref a)) (.cons rfl .nil) sp
    refine codeAny_mono run fun r s' h => ?_
    rcases r with e | (_ | _ | _ | u)
    · obtain ⟨_, _, _, _, _, _, _, _, _, _, _, _, z⟩ := h
      exact z.elim
    · exact False.elim h
    · exact False.elim h
    · exact False.elim h
    · obtain ⟨v, H', os, bare, un, good', rv, q⟩ := h
      obtain rfl : v = .bl true := q
      obtain rfl : u = Value.bool true := rv
      refine ⟨rfl, OldK.of_keep fun b o e => ?_, os, bare⟩
      cases hb : H b with
      | none => exact un.keep b o e hb (fun z => absurd (show b ∈ ([] : List Addr) from z) (by simp)) (by simp)
      | some u =>
        rcases only b with z | ⟨ob, xs, z⟩
        · exact absurd (hb.symm.trans z) nofun
        · obtain ⟨e1, _⟩ := good b _ z
          obtain ⟨e2, _⟩ := good' b _ (un.frzs b ob _ z)
          cases e.symm.trans e1
          exact e2
  cases hk : K.lookup a with
  | some o =>
    have e := kin a o hk
    rw [there] at e
    cases e
    exact go (fun _ => none) (fun _ => .inl rfl) (.inr ⟨_, vs.toArray, _, hk, rfl, rfl, rfl, by rw [List.size_toArray, many]; exact few, by simpa using items⟩) (fun b u z => nomatch (show (none : Option HO) = some u from z)) (fun b z => absurd rfl z) fun z => absurd rfl z
  | none =>
    refine go (upd (fun _ => none) a (.frz { cls := .type "list", data := .seq vs.toArray } (.lst (ns.map V.int)))) (fun b => ?_) (.inl (.inr ⟨_, upd_same⟩)) (fun b u z => ?_) (fun b z => Classical.byContradiction fun n => z (by rw [upd_ne n])) fun _ => hk
    · by_cases n : b = a
      · exact .inr ⟨_, _, by rw [n]; exact upd_same⟩
      · exact .inl (by rw [upd_ne n])
    · by_cases n : b = a
      · rw [n, upd_same] at z
        cases z
        rw [n]
        exact ⟨there, by rw [List.length_map]; exact few, vs, _, items, there⟩
      · rw [upd_ne n] at z
        cases z
/-- a law whose def has a mirror that says True of every script -/
theorem walkP {l : PySem.W.OpenLaw} {n k : Nat} {q : Program} {loose : List Str} {XP : (Str → Option Value) → Heap → Prop} {YP : World → Heap → Prop} {d : DefRec} {x : Str}
    (hn : l.most = some n) (hn2 : n ≤ sizeLine) (hdf : d.params.defaults = []) (hr : Room k callerA)
    (G : ∀ (w : World) (mg : Str → Option Value) (fa : Addr) (h : Heap), YP w h → h.Ns mainGlobals mg → mg d.name = some (.ref fa) →
      ∃ (K : PySem.W.Frag) (fd : FuncData) (m : Mir), K.In h ∧ (∀ (s : Shared) (u : Value), BindsTo s fd ⟨[u], []⟩ [(x, u)]) ∧ (∀ ns : List Int, ns.length ≤ n → ∀ θ, ∃ θ', m [.dat (.lst (ns.map Dt.int))] θ = .ok (.d (.bl true)) θ') ∧
        ∀ base : Heap, K.In base → base.Ns mainGlobals mg → FnP l.prog w K mg base k fa fd [x] m) (h0 : LamTab.mks = [] := by rfl) :
    PySem.W.WalkO q loose XP YP l.row.toRowW d [] (fun f vs => PySem.call f vs) :=
  Att.attach_call hn hdf fun w s₀ s₁ mg mb fa o pm cd doc a vs ns Gr Y ho hd hcd hmg hobj hints hlen hg => by
    obtain ⟨K, fd, m, kin, bind, right, F⟩ := G w mg fa _ Y Gr.T.g hmg
    exact lawP kin Gr.T.g Gr.T.b Gr.T.builtins Gr.T.nolimit hg hobj hints (Nat.le_trans hlen hn2) hr F bind (right ns hlen) h0
end Pd



namespace Pd
open PySem PySem.Spec
variable [Pd.LamTab]
section
variable {α β : Type} {ρ : DEnv} {θ : Pot} {Q : α → Pot → Prop}
theorem Gv.imp {r : Res α} {Q Q' : α → Pot → Prop} (h : Gv r Q) (i : ∀ a θ, Q a θ → Q' a θ) : Gv r Q' := by
  cases r with
  | ok a θ => exact i a θ h
  | exn e ρ θ => exact h
  | bad => exact h
theorem gv_ok (a : α) (θ : Pot) : Gv (.ok a θ) Q = Q a θ := rfl
theorem gv_bad : Gv (.bad : Res α) Q = False := rfl
theorem gv_ret (a : α) : Gv (ret a ρ θ) Q = Q a θ := rfl
theorem gv_opt (a : α) : Gv (opt (some a) ρ θ) Q = Q a θ := rfl
variable {ρ1 ρ2 : DEnv}
theorem gv_bnd (m : M β) (f : β → M α) : Gv (bnd m f ρ θ) Q = Gv (m ρ θ) fun a θ' => Gv (f a ρ θ') Q := by
  unfold bnd
  cases m ρ θ <;> rfl
theorem gv_varR (i : Nat) {Q : Dt → Pot → Prop} : Gv (mVar i ρ θ) Q = match ρ[i]? with
  | some (some (.dat d)) => Q d θ
  | _ => False := by
  unfold mVar
  rcases ρ[i]? with _ | _ | _ | _ | _ <;> rfl
def varK (x : Option (Option Ent)) (θ : Pot) (Q : Dt → Pot → Prop) : Prop := match x with
  | some (some (.dat d)) => Q d θ
  | _ => False
theorem gv_var (i : Nat) {Q : Dt → Pot → Prop} : Gv (mVar i ρ θ) Q = varK ρ[i]? θ Q := gv_varR i
theorem varK_d (d : Dt) {Q : Dt → Pot → Prop} : varK (some (some (.dat d))) θ Q = Q d θ := rfl
def potK (x : Option (Option Ent)) (p : Prop) : Prop := match x with
  | some (some .pot) => p
  | _ => False
theorem potK_p (p : Prop) : potK (some (some .pot)) p = p := rfl
def opK2 (g : Dt → Dt → Option Dt) (x : Dt) (ρ : DEnv) (Q : Dt → Pot → Prop) : Dt → Pot → Prop := fun y θ => Gv (opt (g x y) ρ θ) Q
def opK1 (g : Dt → Dt → Option Dt) (mb : M Dt) (ρ : DEnv) (Q : Dt → Pot → Prop) : Dt → Pot → Prop := fun x θ => Gv (mb ρ θ) (opK2 g x ρ Q)
theorem gv_op (g : Dt → Dt → Option Dt) (ma mb : M Dt) {Q : Dt → Pot → Prop} : Gv (mOp g ma mb ρ θ) Q = Gv (ma ρ θ) (opK1 g mb ρ Q) := by
  unfold mOp
  simp only [gv_bnd]
  rfl
theorem opK1_a (g : Dt → Dt → Option Dt) (mb : M Dt) (x : Dt) {Q : Dt → Pot → Prop} : opK1 g mb ρ Q x θ = Gv (mb ρ θ) (opK2 g x ρ Q) := rfl
theorem opK2_a (g : Dt → Dt → Option Dt) (x y : Dt) {Q : Dt → Pot → Prop} : opK2 g x ρ Q y θ = Gv (opt (g x y) ρ θ) Q := rfl
theorem gv_I (c : Int → Int → Bool) (g : Int → Int → Dt) (i j : Int) {Q : Dt → Pot → Prop} : Gv (opt (gI c g (.int i) (.int j)) ρ θ) Q = (c i j = true ∧ Q (g i j) θ) := by
  show Gv (opt (if c i j = true then some (g i j) else none) ρ θ) Q = _
  by_cases h : c i j = true
  · rw [if_pos h]
    exact propext ⟨fun q => ⟨h, q⟩, fun q => q.2⟩
  · rw [if_neg h]
    exact propext ⟨fun q => q.elim, fun q => h q.1⟩
theorem gv_eqI (i j : Int) {Q : Dt → Pot → Prop} : Gv (opt (gEq (.int i) (.int j)) ρ θ) Q = Q (.bl (decide (i = j))) θ := rfl
theorem gv_neI (i j : Int) {Q : Dt → Pot → Prop} : Gv (opt (gNe (.int i) (.int j)) ρ θ) Q = Q (.bl (!decide (i = j))) θ := rfl
def negK (Q : Dt → Pot → Prop) : Dt → Pot → Prop := fun x θ => match x with
  | .int i => Q (.int (-i)) θ
  | _ => False
theorem gv_neg (ma : M Dt) {Q : Dt → Pot → Prop} : Gv (mNeg ma ρ θ) Q = Gv (ma ρ θ) (negK Q) := by
  unfold mNeg
  rw [gv_bnd]
  congr 1
  funext x θ1
  cases x <;> rfl
theorem negK_a (i : Int) {Q : Dt → Pot → Prop} : negK Q (.int i) θ = Q (.int (-i)) θ := rfl
def boolK (Q : Bool → Pot → Prop) : Dt → Pot → Prop := fun x θ => match x with
  | .bl k => Q k θ
  | _ => False
theorem gv_bool (ma : M Dt) {Q : Bool → Pot → Prop} : Gv (mBool ma ρ θ) Q = Gv (ma ρ θ) (boolK Q) := by
  unfold mBool
  rw [gv_bnd]
  congr 1
  funext x θ1
  cases x <;> rfl
theorem boolK_a (k : Bool) {Q : Bool → Pot → Prop} : boolK Q (.bl k) θ = Q k θ := rfl
def notK (Q : Bool → Pot → Prop) : Bool → Pot → Prop := fun k θ => Q (!k) θ
theorem gv_not (ma : M Bool) {Q : Bool → Pot → Prop} : Gv (mNot ma ρ θ) Q = Gv (ma ρ θ) (notK Q) := by
  unfold mNot
  rw [gv_bnd]
  rfl
theorem notK_a (k : Bool) {Q : Bool → Pot → Prop} : notK Q k θ = Q (!k) θ := rfl
def brK (Q1 Q2 : Pot → Prop) : Bool → Pot → Prop := fun k θ => if k = true then Q1 θ else Q2 θ
theorem brK_t (Q1 Q2 : Pot → Prop) : brK Q1 Q2 true θ = Q1 θ := rfl
theorem brK_f (Q1 Q2 : Pot → Prop) : brK Q1 Q2 false θ = Q2 θ := rfl
theorem brK_d (Q1 Q2 : Pot → Prop) (p : Prop) [Decidable p] : brK Q1 Q2 (decide p) θ = ((p → Q1 θ) ∧ (¬p → Q2 θ)) := by
  unfold brK
  by_cases h : p
  · rw [decide_eq_true h, if_pos rfl]
    exact propext ⟨fun q => ⟨fun _ => q, fun z => absurd h z⟩, fun q => q.1 h⟩
  · rw [decide_eq_false h]
    exact propext ⟨fun q => ⟨fun z => absurd z h, fun _ => q⟩, fun q => q.2 h⟩
theorem brK_n (Q1 Q2 : Pot → Prop) (k : Bool) : brK Q1 Q2 (!k) θ = brK Q2 Q1 k θ := by cases k <;> rfl
def runP {α : Type} (m : M α) (ρ : DEnv) (Q : α → Pot → Prop) : Pot → Prop := fun θ => Gv (m ρ θ) Q
theorem runP_a (m : M α) : runP m ρ Q θ = Gv (m ρ θ) Q := rfl
def ansP {α : Type} (a : α) (Q : α → Pot → Prop) : Pot → Prop := fun θ => Q a θ
theorem ansP_a (a : α) : ansP a Q θ = Q a θ := rfl
theorem gv_and (ma mb : M Bool) {Q : Bool → Pot → Prop} : Gv (mAnd ma mb ρ θ) Q = Gv (ma ρ θ) (brK (runP mb ρ Q) (ansP false Q)) := by
  unfold mAnd
  rw [gv_bnd]
  congr 1
  funext k θ1
  cases k <;> rfl
theorem gv_or (ma mb : M Bool) {Q : Bool → Pot → Prop} : Gv (mOr ma mb ρ θ) Q = Gv (ma ρ θ) (brK (ansP true Q) (runP mb ρ Q)) := by
  unfold mOr
  rw [gv_bnd]
  congr 1
  funext k θ1
  cases k <;> rfl
theorem gv_andV (ma mb : M Dt) {Q : Dt → Pot → Prop} : Gv (mAndV ma mb ρ θ) Q = Gv (ma ρ θ) (boolK (brK (runP mb ρ Q) (ansP (.bl false) Q))) := by
  unfold mAndV
  rw [gv_bnd]
  congr 1
  funext x θ1
  cases x <;> try rfl
  rename_i k
  cases k <;> rfl
theorem gv_orV (ma mb : M Dt) {Q : Dt → Pot → Prop} : Gv (mOrV ma mb ρ θ) Q = Gv (ma ρ θ) (boolK (brK (ansP (.bl true) Q) (runP mb ρ Q))) := by
  unfold mOrV
  rw [gv_bnd]
  congr 1
  funext x θ1
  cases x <;> try rfl
  rename_i k
  cases k <;> rfl
def blK (Q : Dt → Pot → Prop) : Bool → Pot → Prop := fun k θ => Q (.bl k) θ
theorem blK_a (k : Bool) {Q : Dt → Pot → Prop} : blK Q k θ = Q (.bl k) θ := rfl
theorem gv_notV (ma : M Dt) {Q : Dt → Pot → Prop} : Gv (mNotV ma ρ θ) Q = Gv (ma ρ θ) (boolK (notK (blK Q))) := by
  unfold mNotV
  rw [gv_bnd]
  congr 1
  funext x θ1
  cases x <;> rfl
theorem gv_ite (mc : M Bool) (ma mb : M α) : Gv (mIte mc ma mb ρ θ) Q = Gv (mc ρ θ) (brK (runP ma ρ Q) (runP mb ρ Q)) := by
  unfold mIte
  rw [gv_bnd]
  congr 1
  funext k θ1
  cases k <;> rfl
theorem gv_if (mc : M Bool) (m n : M Out) {Q : Out → Pot → Prop} : Gv (mIf mc m n ρ θ) Q = Gv (mc ρ θ) (brK (runP m ρ Q) (runP n ρ Q)) := by
  unfold mIf
  rw [gv_bnd]
  congr 1
  funext k θ1
  cases k <;> rfl
def consK2 (x : Dt) (Q : List Dt → Pot → Prop) : List Dt → Pot → Prop := fun l θ => Q (x :: l) θ
def consK1 (mr : M (List Dt)) (ρ : DEnv) (Q : List Dt → Pot → Prop) : Dt → Pot → Prop := fun x θ => Gv (mr ρ θ) (consK2 x Q)
theorem gv_nil {Q : List Dt → Pot → Prop} : Gv (mNil ρ θ) Q = Q [] θ := rfl
theorem gv_cons (ma : M Dt) (mr : M (List Dt)) {Q : List Dt → Pot → Prop} : Gv (mCons ma mr ρ θ) Q = Gv (ma ρ θ) (consK1 mr ρ Q) := by
  unfold mCons
  simp only [gv_bnd, gv_ret]
  rfl
theorem consK1_a (mr : M (List Dt)) (x : Dt) {Q : List Dt → Pot → Prop} : consK1 mr ρ Q x θ = Gv (mr ρ θ) (consK2 x Q) := rfl
theorem consK2_a (x : Dt) (l : List Dt) {Q : List Dt → Pot → Prop} : consK2 x Q l θ = Q (x :: l) θ := rfl
def mapK {β : Type} (f : β → α) (Q : α → Pot → Prop) : β → Pot → Prop := fun b θ => Q (f b) θ
theorem mapK_a (f : β → α) (b : β) : mapK f Q b θ = Q (f b) θ := rfl
theorem gv_tup (ml : M (List Dt)) {Q : Dt → Pot → Prop} : Gv (mTup ml ρ θ) Q = Gv (ml ρ θ) (mapK Dt.tup Q) := by
  unfold mTup
  simp only [gv_bnd, gv_ret]
  rfl
theorem gv_lst (ml : M (List Dt)) {Q : Dt → Pot → Prop} : Gv (mLst ml ρ θ) Q = Gv (ml ρ θ) (mapK Dt.lst Q) := by
  unfold mLst
  simp only [gv_bnd, gv_ret]
  rfl
def optK {β : Type} (g : β → Option α) (ρ : DEnv) (Q : α → Pot → Prop) : β → Pot → Prop := fun l θ => Gv (opt (g l) ρ θ) Q
theorem optK_a (g : β → Option α) (l : β) : optK g ρ Q l θ = Gv (opt (g l) ρ θ) Q := rfl
theorem gv_B (g : List Dt → Option Dt) (ml : M (List Dt)) {Q : Dt → Pot → Prop} : Gv (mB g ml ρ θ) Q = Gv (ml ρ θ) (optK g ρ Q) := by
  unfold mB
  simp only [gv_bnd]
  rfl
def chnK (c : Dt → M Dt) (ρ : DEnv) (Q : Dt → Pot → Prop) : Dt → Pot → Prop := fun x θ => Gv (c x ρ θ) Q
theorem gv_chn (ma : M Dt) (c : Dt → M Dt) {Q : Dt → Pot → Prop} : Gv (mChn ma c ρ θ) Q = Gv (ma ρ θ) (chnK c ρ Q) := by
  unfold mChn
  simp only [gv_bnd]
  rfl
theorem chnK_a (c : Dt → M Dt) (x : Dt) {Q : Dt → Pot → Prop} : chnK c ρ Q x θ = Gv (c x ρ θ) Q := rfl
theorem gv_last (g : Dt → Dt → Option Dt) (mb : M Dt) (x : Dt) {Q : Dt → Pot → Prop} : Gv (cLast g mb x ρ θ) Q = Gv (mb ρ θ) (opK2 g x ρ Q) := by
  unfold cLast
  simp only [gv_bnd]
  rfl
def linkK (g : Dt → Dt → Option Dt) (c : Dt → M Dt) (x : Dt) (ρ : DEnv) (Q : Dt → Pot → Prop) : Dt → Pot → Prop := fun y θ => Gv (opt (g x y) ρ θ) (boolK (brK (runP (c y) ρ Q) (ansP (.bl false) Q)))
theorem gv_link (g : Dt → Dt → Option Dt) (mb : M Dt) (c : Dt → M Dt) (x : Dt) {Q : Dt → Pot → Prop} : Gv (cLink g mb c x ρ θ) Q = Gv (mb ρ θ) (linkK g c x ρ Q) := by
  unfold cLink
  simp only [gv_bnd]
  congr 1
  funext y θ1
  unfold linkK
  congr 1
  funext z θ2
  cases z <;> try rfl
  rename_i k
  cases k <;> rfl
theorem linkK_a (g : Dt → Dt → Option Dt) (c : Dt → M Dt) (x y : Dt) {Q : Dt → Pot → Prop} : linkK g c x ρ Q y θ = Gv (opt (g x y) ρ θ) (boolK (brK (runP (c y) ρ Q) (ansP (.bl false) Q))) := rfl
def isiF (n : String) (x : Dt) : Option Dt := (isT n x).map Dt.bl
theorem gv_isi (n : String) (ma : M Dt) {Q : Dt → Pot → Prop} : Gv (mIsi n ma ρ θ) Q = Gv (ma ρ θ) (optK (isiF n) ρ Q) := by
  unfold mIsi
  simp only [gv_bnd]
  rfl
theorem isi_ii (i : Int) {Q : Dt → Pot → Prop} : Gv (opt ((isiF "int") (.int i)) ρ θ) Q = Q (.bl true) θ := rfl
theorem isi_bi (i : Int) {Q : Dt → Pot → Prop} : Gv (opt ((isiF "bool") (.int i)) ρ θ) Q = Q (.bl false) θ := rfl
theorem isi_tt (l : List Dt) {Q : Dt → Pot → Prop} : Gv (opt ((isiF "tuple") (.tup l)) ρ θ) Q = Q (.bl true) θ := rfl
theorem isi_ll (l : List Dt) {Q : Dt → Pot → Prop} : Gv (opt ((isiF "list") (.lst l)) ρ θ) Q = Q (.bl true) θ := rfl
theorem isi_ss (s : Str) {Q : Dt → Pot → Prop} : Gv (opt ((isiF "str") (.str s)) ρ θ) Q = Q (.bl true) θ := rfl
theorem isi_ti (i : Int) {Q : Dt → Pot → Prop} : Gv (opt ((isiF "tuple") (.int i)) ρ θ) Q = Q (.bl false) θ := rfl
theorem isi_li (i : Int) {Q : Dt → Pot → Prop} : Gv (opt ((isiF "list") (.int i)) ρ θ) Q = Q (.bl false) θ := rfl
theorem isi_si (i : Int) {Q : Dt → Pot → Prop} : Gv (opt ((isiF "str") (.int i)) ρ θ) Q = Q (.bl false) θ := rfl
theorem isi_tl (l : List Dt) {Q : Dt → Pot → Prop} : Gv (opt ((isiF "tuple") (.lst l)) ρ θ) Q = Q (.bl false) θ := rfl
theorem isi_lt (l : List Dt) {Q : Dt → Pot → Prop} : Gv (opt ((isiF "list") (.tup l)) ρ θ) Q = Q (.bl false) θ := rfl
theorem isi_it (l : List Dt) {Q : Dt → Pot → Prop} : Gv (opt ((isiF "int") (.tup l)) ρ θ) Q = Q (.bl false) θ := rfl
theorem isi_il (l : List Dt) {Q : Dt → Pot → Prop} : Gv (opt ((isiF "int") (.lst l)) ρ θ) Q = Q (.bl false) θ := rfl
theorem isi_is (s : Str) {Q : Dt → Pot → Prop} : Gv (opt ((isiF "int") (.str s)) ρ θ) Q = Q (.bl false) θ := rfl
theorem isi_bs (s : Str) {Q : Dt → Pot → Prop} : Gv (opt ((isiF "bool") (.str s)) ρ θ) Q = Q (.bl false) θ := rfl
theorem isi_ib (b : Bool) {Q : Dt → Pot → Prop} : Gv (opt ((isiF "int") (.bl b)) ρ θ) Q = Q (.bl true) θ := rfl
theorem isi_bb (b : Bool) {Q : Dt → Pot → Prop} : Gv (opt ((isiF "bool") (.bl b)) ρ θ) Q = Q (.bl true) θ := rfl
theorem isi_st (l : List Dt) {Q : Dt → Pot → Prop} : Gv (opt ((isiF "str") (.tup l)) ρ θ) Q = Q (.bl false) θ := rfl
theorem isi_sl (l : List Dt) {Q : Dt → Pot → Prop} : Gv (opt ((isiF "str") (.lst l)) ρ θ) Q = Q (.bl false) θ := rfl
def sqK (n : M Out) (Q : Out → Pot → Prop) : Out → Pot → Prop := fun o θ => match o with
  | .next ρ1 => Gv (n ρ1 θ) Q
  | o => Q o θ
theorem gv_seq (m n : M Out) {Q : Out → Pot → Prop} : Gv (mSeq m n ρ θ) Q = Gv (m ρ θ) (sqK n Q) := by
  unfold mSeq
  cases m ρ θ with
  | ok o θ1 => cases o <;> rfl
  | exn e ρ θ => rfl
  | bad => rfl
theorem sqK_n (n : M Out) (ρ : DEnv) {Q : Out → Pot → Prop} : sqK n Q (.next ρ) θ = Gv (n ρ θ) Q := rfl
theorem sqK_r (n : M Out) (r : Ret) {Q : Out → Pot → Prop} : sqK n Q (.ret r) θ = Q (.ret r) θ := rfl
theorem sqK_b (n : M Out) (ρ : DEnv) {Q : Out → Pot → Prop} : sqK n Q (.brk ρ) θ = Q (.brk ρ) θ := rfl
theorem sqK_c (n : M Out) (ρ : DEnv) {Q : Out → Pot → Prop} : sqK n Q (.cnt ρ) θ = Q (.cnt ρ) θ := rfl
theorem gv_next {Q : Out → Pot → Prop} : Gv (mNext ρ θ) Q = Q (.next ρ) θ := rfl
theorem gv_brk {Q : Out → Pot → Prop} : Gv (mBrk ρ θ) Q = Q (.brk ρ) θ := rfl
theorem gv_cnt {Q : Out → Pot → Prop} : Gv (mCnt ρ θ) Q = Q (.cnt ρ) θ := rfl
theorem gv_retN {Q : Out → Pot → Prop} : Gv (mRetN ρ θ) Q = Q (.ret (.d .non)) θ := rfl
def setK (i : Nat) (ρ : DEnv) (Q : Out → Pot → Prop) : Dt → Pot → Prop := fun d θ => Q (.next (ρ.set i (some (.dat d)))) θ
theorem gv_set (i : Nat) (ma : M Dt) {Q : Out → Pot → Prop} : Gv (mSet i ma ρ θ) Q = Gv (ma ρ θ) (setK i ρ Q) := by
  unfold mSet
  rw [gv_bnd]
  rfl
theorem setK_a (i : Nat) (d : Dt) {Q : Out → Pot → Prop} : setK i ρ Q d θ = Q (.next (ρ.set i (some (.dat d)))) θ := rfl
def parK (is : List Nat) (ρ : DEnv) (Q : Out → Pot → Prop) : List Dt → Pot → Prop := fun l θ => l.length = is.length ∧ Q (.next ((is.zip l).foldl (fun ρ p => ρ.set p.1 (some (.dat p.2))) ρ)) θ
theorem gv_par (is : List Nat) (ml : M (List Dt)) {Q : Out → Pot → Prop} : Gv (mPar is ml ρ θ) Q = Gv (ml ρ θ) (parK is ρ Q) := by
  unfold mPar
  rw [gv_bnd]
  congr 1
  funext l θ1
  unfold parK
  by_cases h : l.length = is.length
  · rw [if_pos h]
    exact propext ⟨fun q => ⟨h, q⟩, fun q => q.2⟩
  · rw [if_neg h]
    exact propext ⟨fun q => q.elim, fun q => h q.1⟩
theorem parK_2 (i j : Nat) (x y : Dt) {Q : Out → Pot → Prop} : parK [i, j] ρ Q [x, y] θ = Q (.next ((ρ.set i (some (.dat x))).set j (some (.dat y)))) θ := propext ⟨fun q => q.2, fun q => ⟨rfl, q⟩⟩
theorem parK_3 (i j k : Nat) (x y z : Dt) {Q : Out → Pot → Prop} : parK [i, j, k] ρ Q [x, y, z] θ = Q (.next (((ρ.set i (some (.dat x))).set j (some (.dat y))).set k (some (.dat z)))) θ := propext ⟨fun q => q.2, fun q => ⟨rfl, q⟩⟩
def asgR (x : Option DEnv) (θ : Pot) (Q : Out → Pot → Prop) : Prop := match x with
  | some ρ' => Q (.next ρ') θ
  | none => False
def asgK (T : Tgt) (ρ : DEnv) (Q : Out → Pot → Prop) : Dt → Pot → Prop := fun d θ => asgR (bindT T d ρ) θ Q
theorem gv_asg (T : Tgt) (ma : M Dt) {Q : Out → Pot → Prop} : Gv (mAsg T ma ρ θ) Q = Gv (ma ρ θ) (asgK T ρ Q) := by
  unfold mAsg
  rw [gv_bnd]
  congr 1
  funext d θ1
  unfold asgK
  cases bindT T d ρ <;> rfl
theorem asgK_a (T : Tgt) (d : Dt) {Q : Out → Pot → Prop} : asgK T ρ Q d θ = asgR (bindT T d ρ) θ Q := rfl
theorem asgR_s (ρ : DEnv) {Q : Out → Pot → Prop} : asgR (some ρ) θ Q = Q (.next ρ) θ := rfl
theorem bindT_n (i : Nat) (d : Dt) : bindT (.n i) d ρ = some (ρ.set i (some (.dat d))) := rfl
theorem bindT_2 (i j : Nat) (x y : Dt) : bindT (.t [i, j]) (.tup [x, y]) ρ = some ((ρ.set i (some (.dat x))).set j (some (.dat y))) := rfl
theorem bindT_3 (i j k : Nat) (x y z : Dt) : bindT (.t [i, j, k]) (.tup [x, y, z]) ρ = some (((ρ.set i (some (.dat x))).set j (some (.dat y))).set k (some (.dat z))) := rfl
def retK (Q : Out → Pot → Prop) : Dt → Pot → Prop := fun d θ => Q (.ret (.d d)) θ
theorem gv_retS (ma : M Dt) {Q : Out → Pot → Prop} : Gv (mRet ma ρ θ) Q = Gv (ma ρ θ) (retK Q) := by
  unfold mRet
  rw [gv_bnd]
  rfl
theorem retK_a (d : Dt) {Q : Out → Pot → Prop} : retK Q d θ = Q (.ret (.d d)) θ := rfl
def retOK (Q : Out → Pot → Prop) : List Dt → Pot → Prop := fun d θ => Q (.ret (.o d)) θ
theorem gv_retO (ma : M (List Dt)) {Q : Out → Pot → Prop} : Gv (mRetO ma ρ θ) Q = Gv (ma ρ θ) (retOK Q) := by
  unfold mRetO
  rw [gv_bnd]
  rfl
theorem retOK_a (d : List Dt) {Q : Out → Pot → Prop} : retOK Q d θ = Q (.ret (.o d)) θ := rfl
def fnK (Q : Ret → Pot → Prop) : Out → Pot → Prop := fun o θ => match o with
  | .next _ => Q (.d .non) θ
  | .ret r => Q r θ
  | _ => False
theorem gv_fn (n : Nat) (m : M Out) (es : List Ent) {Q : Ret → Pot → Prop} : Gv (mFn n m es θ) Q = Gv (m (es.map some ++ List.replicate (n - es.length) none) θ) (fnK Q) := by
  unfold mFn
  cases m (es.map some ++ List.replicate (n - es.length) none) θ with
  | ok o θ1 => cases o <;> rfl
  | exn e ρ θ => rfl
  | bad => rfl
theorem fnK_n (ρ : DEnv) {Q : Ret → Pot → Prop} : fnK Q (.next ρ) θ = Q (.d .non) θ := rfl
theorem fnK_r (r : Ret) {Q : Ret → Pot → Prop} : fnK Q (.ret r) θ = Q r θ := rfl
def ecK2 (x : Dt) (Q : List Ent → Pot → Prop) : List Ent → Pot → Prop := fun l θ => Q (.dat x :: l) θ
def ecK1 (mr : M (List Ent)) (ρ : DEnv) (Q : List Ent → Pot → Prop) : Dt → Pot → Prop := fun x θ => Gv (mr ρ θ) (ecK2 x Q)
def epK (Q : List Ent → Pot → Prop) : List Ent → Pot → Prop := fun l θ => Q (.pot :: l) θ
theorem gv_enil {Q : List Ent → Pot → Prop} : Gv (mENil ρ θ) Q = Q [] θ := rfl
theorem gv_econs (ma : M Dt) (mr : M (List Ent)) {Q : List Ent → Pot → Prop} : Gv (mECons ma mr ρ θ) Q = Gv (ma ρ θ) (ecK1 mr ρ Q) := by
  unfold mECons
  simp only [gv_bnd, gv_ret]
  rfl
theorem ecK1_a (mr : M (List Ent)) (x : Dt) {Q : List Ent → Pot → Prop} : ecK1 mr ρ Q x θ = Gv (mr ρ θ) (ecK2 x Q) := rfl
theorem ecK2_a (x : Dt) (l : List Ent) {Q : List Ent → Pot → Prop} : ecK2 x Q l θ = Q (.dat x :: l) θ := rfl
theorem gv_epot (i : Nat) (mr : M (List Ent)) {Q : List Ent → Pot → Prop} : Gv (mEPot i mr ρ θ) Q = potK ρ[i]? (Gv (mr ρ θ) (epK Q)) := by
  unfold mEPot
  rcases ρ[i]? with _ | _ | _ | _ | _ <;> try rfl
  show Gv (bnd mr (fun l => ret (.pot :: l)) ρ θ) Q = _
  rw [gv_bnd]
  rfl
theorem epK_a (l : List Ent) {Q : List Ent → Pot → Prop} : epK Q l θ = Q (.pot :: l) θ := rfl
def rdK (Q : Dt → Pot → Prop) : Ret → Pot → Prop := fun v θ => match v with
  | .d d => Q d θ
  | .o l => Q (.lst l) θ
  | .q _ _ => False
def roK (Q : List Dt → Pot → Prop) : Ret → Pot → Prop := fun v θ => match v with
  | .d _ => False
  | .o l => Q l θ
  | .q _ _ => False
theorem rdK_d (d : Dt) {Q : Dt → Pot → Prop} : rdK Q (.d d) θ = Q d θ := rfl
theorem rdK_o (d : List Dt) {Q : Dt → Pot → Prop} : rdK Q (.o d) θ = Q (.lst d) θ := rfl
theorem roK_o (d : List Dt) {Q : List Dt → Pot → Prop} : roK Q (.o d) θ = Q d θ := rfl
def cK2 (f : Mir) (des : List Ent) (is : List Nat) (l : List Ent) (Q : Dt → Pot → Prop) : List Ent → Pot → Prop := fun r θ => Gv (f (pick is (l ++ (r ++ des))) θ) (rdK Q)
def cK1 (f : Mir) (des : List Ent) (is : List Nat) (mk : M (List Ent)) (ρ : DEnv) (Q : Dt → Pot → Prop) : List Ent → Pot → Prop := fun l θ => Gv (mk ρ θ) (cK2 f des is l Q)
theorem gv_call (f : Mir) (des : List Ent) (is : List Nat) (ma mk : M (List Ent)) {Q : Dt → Pot → Prop} : Gv (mCallD f des is ma mk ρ θ) Q = Gv (ma ρ θ) (cK1 f des is mk ρ Q) := by
  unfold mCallD
  simp only [gv_bnd]
  congr 1
  funext l θ1
  unfold cK1
  congr 1
  funext r θ2
  unfold cK2 callD
  cases f (pick is (l ++ (r ++ des))) θ2 with
  | ok v θ3 => cases v <;> rfl
  | exn e ρ θ => rfl
  | bad => rfl
theorem cK1_a (f : Mir) (des : List Ent) (is : List Nat) (mk : M (List Ent)) (l : List Ent) {Q : Dt → Pot → Prop} : cK1 f des is mk ρ Q l θ = Gv (mk ρ θ) (cK2 f des is l Q) := rfl
theorem cK2_a (f : Mir) (des : List Ent) (is : List Nat) (l r : List Ent) {Q : Dt → Pot → Prop} : cK2 f des is l Q r θ = Gv (f (pick is (l ++ (r ++ des))) θ) (rdK Q) := rfl
def coK2 (f : Mir) (des : List Ent) (is : List Nat) (l : List Ent) (Q : List Dt → Pot → Prop) : List Ent → Pot → Prop := fun r θ => Gv (f (pick is (l ++ (r ++ des))) θ) (roK Q)
def coK1 (f : Mir) (des : List Ent) (is : List Nat) (mk : M (List Ent)) (ρ : DEnv) (Q : List Dt → Pot → Prop) : List Ent → Pot → Prop := fun l θ => Gv (mk ρ θ) (coK2 f des is l Q)
theorem gv_callO (f : Mir) (des : List Ent) (is : List Nat) (ma mk : M (List Ent)) {Q : List Dt → Pot → Prop} : Gv (mCallO f des is ma mk ρ θ) Q = Gv (ma ρ θ) (coK1 f des is mk ρ Q) := by
  unfold mCallO
  simp only [gv_bnd]
  congr 1
  funext l θ1
  unfold coK1
  congr 1
  funext r θ2
  unfold coK2 callO
  cases f (pick is (l ++ (r ++ des))) θ2 with
  | ok v θ3 => cases v <;> rfl
  | exn e ρ θ => rfl
  | bad => rfl
theorem coK1_a (f : Mir) (des : List Ent) (is : List Nat) (mk : M (List Ent)) (l : List Ent) {Q : List Dt → Pot → Prop} : coK1 f des is mk ρ Q l θ = Gv (mk ρ θ) (coK2 f des is l Q) := rfl
theorem coK2_a (f : Mir) (des : List Ent) (is : List Nat) (l r : List Ent) {Q : List Dt → Pot → Prop} : coK2 f des is l Q r θ = Gv (f (pick is (l ++ (r ++ des))) θ) (roK Q) := rfl
theorem gv_lawR (f : Mir) (ml : M (List Dt)) {Q : Out → Pot → Prop} : Gv (mLawR f ml ρ θ) Q = Gv (ml ρ θ) fun l θ1 => match l with
  | [.int i, .int j] => Gv (f [.pot] (i, j)) fun r _ => match r with
    | .d d => Q (.ret (.d d)) θ1
    | .o _ => False
    | .q _ _ => False
  | _ => False := by
  unfold mLawR
  rw [gv_bnd]
  congr 1
  funext l θ1
  match l with
  | [] => rfl
  | [.int i] => rfl
  | [.int i, .int j] =>
    dsimp only
    cases f [.pot] (i, j) with
    | ok v θ3 => cases v <;> rfl
    | exn e ρ θ => rfl
    | bad => rfl
  | .int i :: .int j :: _ :: _ => rfl
  | .int i :: .non :: _ => rfl
  | .int i :: .bl _ :: _ => rfl
  | .int i :: .str _ :: _ => rfl
  | .int i :: .lst _ :: _ => rfl
  | .int i :: .tup _ :: _ => rfl
  | .int i :: .raw _ :: _ => rfl
  | .int i :: .cls _ _ :: _ => rfl
  | .int i :: .dct _ _ :: _ => rfl
  | .non :: _ => rfl
  | .bl _ :: _ => rfl
  | .str _ :: _ => rfl
  | .lst _ :: _ => rfl
  | .tup _ :: _ => rfl
  | .raw _ :: _ => rfl
  | .cls _ _ :: _ => rfl
  | .dct _ _ :: _ => rfl
def potIK (k : Nat) (θ : Pot) : Dt := .int (if k = 0 then θ.1 else θ.2)
theorem gv_potI (i k : Nat) {Q : Dt → Pot → Prop} : Gv (mPotI i k ρ θ) Q = potK ρ[i]? (Q (potIK k θ) θ) := by
  unfold mPotI
  rcases ρ[i]? with _ | _ | _ | _ | _ <;> rfl
theorem potI_0 : potIK 0 θ = .int θ.1 := rfl
theorem potI_1 : potIK 1 θ = .int θ.2 := rfl
def potSK (i : Nat) (ρ : DEnv) (Q : Out → Pot → Prop) : Dt → Pot → Prop := fun d θ => match d with
  | .int n => potK ρ[i]? (Q (.next ρ) (θ.1, n))
  | _ => False
theorem gv_potS (i : Nat) (ma : M Dt) {Q : Out → Pot → Prop} : Gv (mPotS i ma ρ θ) Q = Gv (ma ρ θ) (potSK i ρ Q) := by
  unfold mPotS
  rw [gv_bnd]
  congr 1
  funext d θ1
  unfold potSK
  cases d <;> rcases ρ[i]? with _ | _ | _ | _ | _ <;> rfl
theorem potSK_a (i : Nat) (n : Int) {Q : Out → Pot → Prop} : potSK i ρ Q (.int n) θ = potK ρ[i]? (Q (.next ρ) (θ.1, n)) := rfl
def potDK (j : Nat) (i1 : Int) (ρ : DEnv) (Q : Out → Pot → Prop) : Dt → Pot → Prop := fun d θ => match d with
  | .int n => (0 < n ∧ small n = true) ∧ Q (.next (ρ.set j (some (.dat (.int (i1 % n)))))) (i1 / n, θ.2)
  | _ => False
theorem gv_potD (i j : Nat) (mb : M Dt) {Q : Out → Pot → Prop} : Gv (mPotD i j mb ρ θ) Q = potK ρ[i]? (Gv (mb ρ θ) (potDK j θ.1 ρ Q)) := by
  unfold mPotD
  rcases ρ[i]? with _ | _ | _ | _ | _ <;> try rfl
  show Gv (bnd mb _ ρ θ) Q = Gv (mb ρ θ) (potDK j θ.1 ρ Q)
  rw [gv_bnd]
  congr 1
  funext d θ1
  unfold potDK
  cases d with
  | int n =>
    dsimp only
    by_cases h : (decide (0 < n) && small n) = true
    · rw [if_pos h]
      exact propext ⟨fun q => ⟨by simpa using h, q⟩, fun q => q.2⟩
    · rw [if_neg h]
      exact propext ⟨fun q => q.elim, fun q => h (by simpa using q.1)⟩
  | _ => rfl
theorem potDK_a (j : Nat) (i1 n : Int) {Q : Out → Pot → Prop} : potDK j i1 ρ Q (.int n) θ = ((0 < n ∧ small n = true) ∧ Q (.next (ρ.set j (some (.dat (.int (i1 % n)))))) (i1 / n, θ.2)) := rfl
theorem gv_rng (g : List Dt → Option (List Dt)) (ml : M (List Dt)) {Q : List Dt → Pot → Prop} : Gv (mRng g ml ρ θ) Q = Gv (ml ρ θ) (optK g ρ Q) := by
  unfold mRng
  rw [gv_bnd]
  rfl
theorem gv_seqI (ma : M Dt) {Q : List Dt → Pot → Prop} : Gv (mSeqI ma ρ θ) Q = Gv (ma ρ θ) (optK seqOf ρ Q) := by
  unfold mSeqI
  rw [gv_bnd]
  rfl
theorem seqOf_l (l : List Dt) {Q : List Dt → Pot → Prop} : Gv (opt (seqOf (.lst l)) ρ θ) Q = Q l θ := rfl
theorem seqOf_t (l : List Dt) {Q : List Dt → Pot → Prop} : Gv (opt (seqOf (.tup l)) ρ θ) Q = Q l θ := rfl
def forK (T : Tgt) (body : M Out) (ρ : DEnv) (Q : Out → Pot → Prop) : List Dt → Pot → Prop := fun l θ => Gv (forGo T body l ρ θ) Q
theorem gv_for (T : Tgt) (ms : M (List Dt)) (body : M Out) {Q : Out → Pot → Prop} : Gv (mFor T ms body ρ θ) Q = Gv (ms ρ θ) (forK T body ρ Q) := by
  unfold mFor
  rw [gv_bnd]
  rfl
theorem forK_a (T : Tgt) (body : M Out) (l : List Dt) {Q : Out → Pot → Prop} : forK T body ρ Q l θ = Gv (forGo T body l ρ θ) Q := rfl
theorem gv_go0 (T : Tgt) (body : M Out) {Q : Out → Pot → Prop} : Gv (forGo T body [] ρ θ) Q = Q (.next ρ) θ := rfl
theorem gv_go1 (T : Tgt) (body : M Out) (d : Dt) (ds : List Dt) {Q : Out → Pot → Prop} : Gv (forGo T body (d :: ds) ρ θ) Q = match bindT T d ρ with
  | none => False
  | some ρ1 => Gv (body ρ1 θ) fun o θ2 => (match o with
    | .next ρ2 => Gv (forGo T body ds ρ2 θ2) Q
    | .cnt ρ2 => Gv (forGo T body ds ρ2 θ2) Q
    | .brk ρ2 => Q (.next ρ2) θ2
    | r => Q r θ2) := by
  rw [forGo]
  dsimp only
  cases bindT T d ρ with
  | none => rfl
  | some ρ1 =>
    dsimp only
    cases body ρ1 θ with
    | ok o θ1 => cases o <;> rfl
    | exn e ρ θ => rfl
    | bad => rfl
/-- a loop by what holds ahead of each turn -/
theorem gv_for_inv {T : Tgt} {body : M Out} {Q : Out → Pot → Prop} (I : List Dt → DEnv → Pot → Prop) (h0 : ∀ ρ θ, I [] ρ θ → Q (.next ρ) θ)
    (h1 : ∀ d ds ρ θ, I (d :: ds) ρ θ → ∃ ρ1, bindT T d ρ = some ρ1 ∧ Gv (body ρ1 θ) fun o θ2 => match o with
      | .next ρ2 => I ds ρ2 θ2
      | .cnt ρ2 => I ds ρ2 θ2
      | .brk ρ2 => Q (.next ρ2) θ2
      | r => Q r θ2) : ∀ (l : List Dt) (ρ : DEnv) (θ : Pot), I l ρ θ → Gv (forGo T body l ρ θ) Q
  | [], ρ, θ, h => h0 ρ θ h
  | d :: ds, ρ, θ, h => by
    obtain ⟨ρ1, e, q⟩ := h1 d ds ρ θ h
    rw [gv_go1, e]
    refine q.imp fun o θ2 z => ?_
    cases o with
    | next ρ2 => exact gv_for_inv I h0 h1 ds ρ2 θ2 z
    | cnt ρ2 => exact gv_for_inv I h0 h1 ds ρ2 θ2 z
    | brk ρ2 => exact z
    | ret r => exact z
def compK (T : Tgt) (vs : List Nat) (tt : M Bool) (elt : M Dt) (ρ : DEnv) (Q : List Dt → Pot → Prop) : List Dt → Pot → Prop := fun l θ => l.length < bigL ∧ Gv (compGo T vs tt elt l ρ θ) Q
theorem gv_comp (T : Tgt) (vs : List Nat) (ms : M (List Dt)) (tt : M Bool) (elt : M Dt) {Q : List Dt → Pot → Prop} : Gv (mComp T vs ms tt elt ρ θ) Q = Gv (ms ρ θ) (compK T vs tt elt ρ Q) := by
  unfold mComp
  rw [gv_bnd]
  congr 1
  funext l θ1
  unfold compK
  by_cases h : l.length < bigL
  · rw [if_pos h]
    exact propext ⟨fun q => ⟨h, q⟩, fun q => q.2⟩
  · rw [if_neg h]
    exact propext ⟨fun q => q.elim, fun q => h q.1⟩
theorem compK_a (T : Tgt) (vs : List Nat) (tt : M Bool) (elt : M Dt) (l : List Dt) {Q : List Dt → Pot → Prop} : compK T vs tt elt ρ Q l θ = (l.length < bigL ∧ Gv (compGo T vs tt elt l ρ θ) Q) := rfl
theorem gv_comp0 (T : Tgt) (vs : List Nat) (tt : M Bool) (elt : M Dt) {Q : List Dt → Pot → Prop} : Gv (compGo T vs tt elt [] ρ θ) Q = Q [] θ := rfl
theorem gv_comp1R (T : Tgt) (vs : List Nat) (tt : M Bool) (elt : M Dt) (d : Dt) (ds : List Dt) {Q : List Dt → Pot → Prop} : Gv (compGo T vs tt elt (d :: ds) ρ θ) Q = match bindT T d (wipeD (hide ρ) vs) with
  | none => False
  | some ρ1 => Gv (tt ρ1 θ) fun k θ1 => if k = true then Gv (elt ρ1 θ1) fun y θ2 => Gv (compGo T vs tt elt ds ρ θ2) fun ys θ3 => Q (y :: ys) θ3 else Gv (compGo T vs tt elt ds ρ θ1) Q := by
  rw [compGo]
  dsimp only
  cases bindT T d (wipeD (hide ρ) vs) with
  | none => rfl
  | some ρ1 =>
    dsimp only
    cases tt ρ1 θ with
    | ok k θ1 =>
      rw [gv_ok]
      cases k with
      | false => rfl
      | true =>
        rw [if_pos rfl]
        dsimp only
        cases elt ρ1 θ1 with
        | ok y θ2 =>
          dsimp only
          rw [gv_bnd]
          rfl
        | exn e ρ θ => rfl
        | bad => rfl
    | exn e ρ θ => rfl
    | bad => rfl
def cmpR (x : Option DEnv) (p : DEnv → Prop) : Prop := match x with
  | some ρ => p ρ
  | none => False
theorem cmpR_s (ρ : DEnv) (p : DEnv → Prop) : cmpR (some ρ) p = p ρ := rfl
def cmpK2 (T : Tgt) (vs : List Nat) (tt : M Bool) (elt : M Dt) (ds : List Dt) (ρ : DEnv) (Q : List Dt → Pot → Prop) : Dt → Pot → Prop := fun y θ => Gv (compGo T vs tt elt ds ρ θ) (consK2 y Q)
theorem cmpK2_a (T : Tgt) (vs : List Nat) (tt : M Bool) (elt : M Dt) (ds : List Dt) (y : Dt) {Q : List Dt → Pot → Prop} : cmpK2 T vs tt elt ds ρ Q y θ = Gv (compGo T vs tt elt ds ρ θ) (consK2 y Q) := rfl
def cmpK1 (T : Tgt) (vs : List Nat) (tt : M Bool) (elt : M Dt) (ds : List Dt) (ρ : DEnv) (θ : Pot) (Q : List Dt → Pot → Prop) : DEnv → Prop := fun ρ1 => Gv (tt ρ1 θ) (brK (runP elt ρ1 (cmpK2 T vs tt elt ds ρ Q)) (runP (compGo T vs tt elt ds) ρ Q))
theorem cmpK1_a (T : Tgt) (vs : List Nat) (tt : M Bool) (elt : M Dt) (ds : List Dt) {Q : List Dt → Pot → Prop} : cmpK1 T vs tt elt ds ρ θ Q ρ1 = Gv (tt ρ1 θ) (brK (runP elt ρ1 (cmpK2 T vs tt elt ds ρ Q)) (runP (compGo T vs tt elt ds) ρ Q)) := rfl
theorem gv_comp1 (T : Tgt) (vs : List Nat) (tt : M Bool) (elt : M Dt) (d : Dt) (ds : List Dt) {Q : List Dt → Pot → Prop} : Gv (compGo T vs tt elt (d :: ds) ρ θ) Q = cmpR (bindT T d (wipeD (hide ρ) vs)) (cmpK1 T vs tt elt ds ρ θ Q) := by
  rw [gv_comp1R]
  cases bindT T d (wipeD (hide ρ) vs) with
  | none => rfl
  | some ρ1 =>
    show Gv (tt ρ1 θ) _ = Gv (tt ρ1 θ) _
    refine congrArg (Gv (tt ρ1 θ)) ?_
    funext k θ1
    cases k <;> rfl
theorem gv_tt1 {Q : Bool → Pot → Prop} : Gv (tt1 ρ θ) Q = Q true θ := rfl
theorem hide_nil : hide [] = [] := rfl
theorem hide_0 (ρ : DEnv) : hide (none :: ρ) = none :: hide ρ := rfl
theorem hide_d (d : Dt) (ρ : DEnv) : hide (some (.dat d) :: ρ) = some (.dat d) :: hide ρ := rfl
theorem hide_p (ρ : DEnv) : hide (some .pot :: ρ) = some .pot :: hide ρ := rfl
theorem hide_o (l : List Dt) (ρ : DEnv) : hide (some (.own l) :: ρ) = none :: hide ρ := rfl
theorem wipeD_nil (ρ : DEnv) : wipeD ρ [] = ρ := rfl
theorem wipeD_cons (v : Nat) (vs : List Nat) (ρ : DEnv) : wipeD ρ (v :: vs) = (wipeD ρ vs).set v none := rfl
end
theorem pick_nil {α : Type} (l : List α) : pick [] l = [] := rfl
theorem pick_0 {α : Type} (is : List Nat) (x : α) (l : List α) : pick (0 :: is) (x :: l) = x :: pick is (x :: l) := rfl
theorem pick_1 {α : Type} (is : List Nat) (x y : α) (l : List α) : pick (1 :: is) (x :: y :: l) = y :: pick is (x :: y :: l) := rfl
theorem pick_2 {α : Type} (is : List Nat) (x y z : α) (l : List α) : pick (2 :: is) (x :: y :: z :: l) = z :: pick is (x :: y :: z :: l) := rfl
theorem pick_3 {α : Type} (is : List Nat) (x y z u : α) (l : List α) : pick (3 :: is) (x :: y :: z :: u :: l) = u :: pick is (x :: y :: z :: u :: l) := rfl
theorem pick_4 {α : Type} (is : List Nat) (x y z u v : α) (l : List α) : pick (4 :: is) (x :: y :: z :: u :: v :: l) = v :: pick is (x :: y :: z :: u :: v :: l) := rfl
theorem pick_5 {α : Type} (is : List Nat) (x y z u v w : α) (l : List α) : pick (5 :: is) (x :: y :: z :: u :: v :: w :: l) = w :: pick is (x :: y :: z :: u :: v :: w :: l) := rfl
/-- what a drawn pot is -/
def PotOk (θ : Pot) : Prop := 0 ≤ θ.1 ∧ 0 ≤ θ.2 ∧ θ.2 < 4294967296
theorem fm_pos {i n : Int} (h : 0 < n) : i.fmod n = i % n := Int.fmod_eq_emod_of_nonneg i (Int.le_of_lt h)
theorem fd_pos {i n : Int} (h : 0 < n) : i.fdiv n = i / n := Int.fdiv_eq_ediv_of_nonneg i (Int.le_of_lt h)
theorem small_of {i : Int} (h1 : -1606938044258990275541962092341162602522202993782792835301376 < i) (h2 : i < 1606938044258990275541962092341162602522202993782792835301376) : small i = true := by
  refine decide_eq_true ?_
  by_cases z : i.natAbs = 0
  · rw [z]
    decide
  · have e : i.natAbs < 2 ^ 200 := by
      have e0 : (2 : Nat) ^ 200 = 1606938044258990275541962092341162602522202993782792835301376 := by decide
      rw [e0]
      omega
    exact Nat.lt_of_lt_of_le ((Nat.log2_lt z).mpr e) (by decide)
theorem gv_max2 {ρ : DEnv} {θ : Pot} (i j : Int) {Q : Dt → Pot → Prop} : Gv (opt (gMax [.int i, .int j]) ρ θ) Q = Q (.int (if j > i then j else i)) θ := rfl
theorem gv_min2 {ρ : DEnv} {θ : Pot} (i j : Int) {Q : Dt → Pot → Prop} : Gv (opt (gMin [.int i, .int j]) ρ θ) Q = Q (.int (if j < i then j else i)) θ := rfl
theorem gv_int {ρ : DEnv} {θ : Pot} (i : Int) {Q : Dt → Pot → Prop} : Gv (opt (gInt [.int i]) ρ θ) Q = Q (.int i) θ := rfl
theorem gv_ix0 {ρ : DEnv} {θ : Pot} (x : Dt) (l : List Dt) {Q : Dt → Pot → Prop} : Gv (opt (gIx (.tup (x :: l)) (.int 0)) ρ θ) Q = Q x θ := by
  have e : gIx (.tup (x :: l)) (.int 0) = some x := L2.atI_nat (j := 0) rfl
  rw [e, gv_opt]
theorem gv_ix1 {ρ : DEnv} {θ : Pot} (x y : Dt) (l : List Dt) {Q : Dt → Pot → Prop} : Gv (opt (gIx (.tup (x :: y :: l)) (.int 1)) ρ θ) Q = Q y θ := by
  have e : gIx (.tup (x :: y :: l)) (.int 1) = some y := L2.atI_nat (j := 1) rfl
  rw [e, gv_opt]
theorem gv_ix2 {ρ : DEnv} {θ : Pot} (x y z : Dt) (l : List Dt) {Q : Dt → Pot → Prop} : Gv (opt (gIx (.tup (x :: y :: z :: l)) (.int 2)) ρ θ) Q = Q z θ := by
  have e : gIx (.tup (x :: y :: z :: l)) (.int 2) = some z := L2.atI_nat (j := 2) rfl
  rw [e, gv_opt]
theorem gv_lenT {ρ : DEnv} {θ : Pot} (l : List Dt) {Q : Dt → Pot → Prop} : Gv (opt (gLen [.tup l]) ρ θ) Q = Q (.int l.length) θ := rfl
theorem gv_lenL {ρ : DEnv} {θ : Pot} (l : List Dt) {Q : Dt → Pot → Prop} : Gv (opt (gLen [.lst l]) ρ θ) Q = Q (.int l.length) θ := rfl
theorem gv_abs {ρ : DEnv} {θ : Pot} (i : Int) {Q : Dt → Pot → Prop} : Gv (opt (gAbs [.int i]) ρ θ) Q = Q (.int (if i < 0 then -i else i)) θ := rfl
theorem gv_neS {ρ : DEnv} {θ : Pot} (x y : Str) {Q : Dt → Pot → Prop} : Gv (opt (gNe (.str x) (.str y)) ρ θ) Q = Q (.bl (!decide (x = y))) θ := rfl
theorem gv_eqS {ρ : DEnv} {θ : Pot} (x y : Str) {Q : Dt → Pot → Prop} : Gv (opt (gEq (.str x) (.str y)) ρ θ) Q = Q (.bl (decide (x = y))) θ := rfl
theorem gv_rng1 {ρ : DEnv} {θ : Pot} (j : Int) {Q : List Dt → Pot → Prop} : Gv (opt (rng1 [.int j]) ρ θ) Q = (bnd62 j = true ∧ Q (rngL 0 j.toNat) θ) := by
  show Gv (opt (if bnd62 j = true then some (rngL 0 j.toNat) else none) ρ θ) Q = _
  by_cases h : bnd62 j = true
  · rw [if_pos h]
    exact propext ⟨fun q => ⟨h, q⟩, fun q => q.2⟩
  · rw [if_neg h]
    exact propext ⟨fun q => q.elim, fun q => h q.1⟩
theorem gv_rng2 {ρ : DEnv} {θ : Pot} (i j : Int) {Q : List Dt → Pot → Prop} : Gv (opt (rng2 [.int i, .int j]) ρ θ) Q = ((bnd62 i && bnd62 j) = true ∧ Q (rngL i (j - i).toNat) θ) := by
  show Gv (opt (if (bnd62 i && bnd62 j) = true then some (rngL i (j - i).toNat) else none) ρ θ) Q = _
  by_cases h : (bnd62 i && bnd62 j) = true
  · rw [if_pos h]
    exact propext ⟨fun q => ⟨h, q⟩, fun q => q.2⟩
  · rw [if_neg h]
    exact propext ⟨fun q => q.elim, fun q => h q.1⟩
theorem bnd62_of {i : Int} (h1 : -4611686018427387904 ≤ i) (h2 : i < 4611686018427387904) : bnd62 i = true := by
  unfold bnd62
  rw [decide_eq_true (show -(2 ^ 62) ≤ i by omega), decide_eq_true (show i < 2 ^ 62 by omega)]
  rfl
theorem rngL_len (i : Int) (n : Nat) : (rngL i n).length = n := by simp [rngL]
theorem big_of {n : Nat} (h : n < 1000000) : (n < bigL) = True := eq_true h
theorem gv_all2 {ρ : DEnv} {θ : Pot} (a b : Bool) {Q : Dt → Pot → Prop} : Gv (opt (gAll [.lst [.bl a, .bl b]]) ρ θ) Q = Q (.bl (a && b)) θ := by
  cases a <;> cases b <;> rfl
theorem gv_maxL2 {ρ : DEnv} {θ : Pot} (a b : Int) {Q : Dt → Pot → Prop} : Gv (opt (gMax [.lst [.int a, .int b]]) ρ θ) Q = Q (.int (if b > a then b else a)) θ := rfl
theorem gv_minL2 {ρ : DEnv} {θ : Pot} (a b : Int) {Q : Dt → Pot → Prop} : Gv (opt (gMin [.lst [.int a, .int b]]) ρ θ) Q = Q (.int (if b < a then b else a)) θ := rfl
theorem gv_lenT0 {ρ : DEnv} {θ : Pot} {Q : Dt → Pot → Prop} : Gv (opt (gLen [.tup []]) ρ θ) Q = Q (.int 0) θ := rfl
theorem gv_lenL0 {ρ : DEnv} {θ : Pot} {Q : Dt → Pot → Prop} : Gv (opt (gLen [.lst []]) ρ θ) Q = Q (.int 0) θ := rfl
theorem gv_lenT1 {ρ : DEnv} {θ : Pot} (a : Dt) {Q : Dt → Pot → Prop} : Gv (opt (gLen [.tup [a]]) ρ θ) Q = Q (.int 1) θ := rfl
theorem gv_lenL1 {ρ : DEnv} {θ : Pot} (a : Dt) {Q : Dt → Pot → Prop} : Gv (opt (gLen [.lst [a]]) ρ θ) Q = Q (.int 1) θ := rfl
theorem gv_lenT2 {ρ : DEnv} {θ : Pot} (a b : Dt) {Q : Dt → Pot → Prop} : Gv (opt (gLen [.tup [a, b]]) ρ θ) Q = Q (.int 2) θ := rfl
theorem gv_lenL2 {ρ : DEnv} {θ : Pot} (a b : Dt) {Q : Dt → Pot → Prop} : Gv (opt (gLen [.lst [a, b]]) ρ θ) Q = Q (.int 2) θ := rfl
theorem gv_lenT3 {ρ : DEnv} {θ : Pot} (a b c : Dt) {Q : Dt → Pot → Prop} : Gv (opt (gLen [.tup [a, b, c]]) ρ θ) Q = Q (.int 3) θ := rfl
theorem gv_lenL3 {ρ : DEnv} {θ : Pot} (a b c : Dt) {Q : Dt → Pot → Prop} : Gv (opt (gLen [.lst [a, b, c]]) ρ θ) Q = Q (.int 3) θ := rfl
theorem gv_lenT4 {ρ : DEnv} {θ : Pot} (a b c d : Dt) {Q : Dt → Pot → Prop} : Gv (opt (gLen [.tup [a, b, c, d]]) ρ θ) Q = Q (.int 4) θ := rfl
theorem gv_lenL4 {ρ : DEnv} {θ : Pot} (a b c d : Dt) {Q : Dt → Pot → Prop} : Gv (opt (gLen [.lst [a, b, c, d]]) ρ θ) Q = Q (.int 4) θ := rfl
end Pd



namespace Pd
open PySem PySem.Spec PyProof.Rows L2
variable [Pd.LamTab]
def gIsB : Dt → Dt → Option Dt
  | .bl a, .bl b => some (.bl (decide (a = b)))
  | _, _ => none
def gIsNB : Dt → Dt → Option Dt
  | .bl a, .bl b => some (.bl (!decide (a = b)))
  | _, _ => none
def gIs2 (a b : Dt) : Option Dt := (gIsB a b).or (gIs a b)
def gIsNot2 (a b : Dt) : Option Dt := (gIsNB a b).or (gIsNot a b)
section
variable {X : Cx} {F : Fr0} {W : WX} {a b c : Expr} {es : List Expr} {pos p : Pos} {x : Str}
theorem od_isB : OpD X (compareOp .Is) gIsB := by
  refine ⟨_, op_isBl, fun a b d e Hs H x y Q s ra rb q => ?_⟩
  unfold gIsB at e
  split at e
  · rename_i i j
    cases e
    exact ⟨i, j, ra, rb, q _ Hs H (Grow.refl s) rfl⟩
  · cases e
theorem od_isNB : OpD X (compareOp .IsNot) gIsNB := by
  refine ⟨_, op_notBl, fun a b d e Hs H x y Q s ra rb q => ?_⟩
  unfold gIsNB at e
  split at e
  · rename_i i j
    cases e
    exact ⟨i, j, ra, rb, q _ Hs H (Grow.refl s) rfl⟩
  · cases e
theorem od_is2 : OpD X (compareOp .Is) gIs2 := od_isB.or od_is
theorem od_isnot2 : OpD X (compareOp .IsNot) gIsNot2 := od_isNB.or od_isnot
def mExt (i : Nat) (ml : M (List Dt)) : M Out := fun ρ θ => match ρ[i]? with
  | some (some (.own l)) => bnd ml (fun z ρ θ => if l.length + z.length < bigL then .ok (.next (ρ.set i (some (.own (l ++ z))))) θ else .bad) ρ θ
  | _ => .bad
theorem psd_ext (i : Nat) {y : Str} {ml : M (List Dt)} {q : Pos} {apos cpos : Pos} (ha : PO X F W a ml) (hN : X.N[i]? = some y := by rfl) (hv : Vis X.env.scope y := by first | exact Or.inl rfl | exact Or.inr (Or.inl rfl) | exact Or.inr (Or.inr rfl)) (hd : (y == ("__debug__" : Str)) = false := by decide)
    (hcd : (y == ("__classdict__" : Str)) = false := by decide)
    (hbase : attributeBase (.Name y q) "extend" X.env (eval (.Name y q) X.env) = eval (.Name y q) X.env := by rfl)
    (hfew : ((backTo cpos (starEach (a :: []) X.env)).all (fun x => !x.1) && (backToKw cpos (keywordEach [] X.env)).all (fun x => x.1.isSome)
      && decide ((a :: []).length + ([] : List Keyword).length + (if ([] : List Keyword).isEmpty then 0 else 1) < 30)) = true := by rfl)
    (hline : (apos.endLine == cpos.line) = true := by rfl) (hs1 : starEach (a :: []) X.env = (false, eval a X.env) :: starEach [] X.env := by rfl) (hplain : (backTo cpos (starEach [] X.env)).any (·.1) = false := by rfl)
    (hs : swapsWith (.Call (.Attribute (.Name y q) "extend" apos) [a] [] cpos) none pos.line X.env = pure false := by rfl) : PSD X F W (.Expr (.Call (.Attribute (.Name y q) "extend" apos) [a] [] cpos) pos) (mExt i ml) := by
  refine ps_imp (ps_expr (pe_bm PySem.F.plainAttrs_list PySem.F.slot_list_extend PySem.F.type_list_extend mt_extend (pe_var hN hv hd hcd) (pa_cons ha pa_nil hs1) hbase hfew hline hs1 hplain) hs) fun D σ H h => ?_
  obtain ⟨ρ, θ, Hs, st, h⟩ := h
  unfold mExt at h
  split at h
  · rename_i l eo
    obtain ⟨p0, xs0, e1, e2, e3⟩ := st_own_at st eo
    refine ⟨.ref p0, e1, Or.inl ⟨rfl, xs0, SqL.of e2⟩, ?_⟩
    refine then_O OkS.anti st h fun b zs z H1 Hs1 θ1 s1 st1 k1 k2 k3 k4 k5 k6 h => ?_
    by_cases w : l.length + z.length < bigL
    · rw [if_pos w] at h
      obtain ⟨p1, xs, f1, f2, f3⟩ := st_own_at st1 eo
      rw [e1] at f1
      cases f1
      refine ⟨p0, b, xs, zs, rfl, rfl, f2, k1, by rw [← f3.length, ← k2.length]; exact Nat.le_of_lt (bigL_ok w), ?_⟩
      exact h σ _ Hs1 (Same.refl _) (st_own st1 eo e1 f2 (f3.append k2))
    · rw [if_neg w] at h
      exact h.elim
  · exact h.elim
def mParE (i j : Nat) : M Out := fun ρ θ => .ok (.next ((ρ.set i (some (.own []))).set j (some (.own [])))) θ
end
section
variable {α : Type} {ρ : DEnv} {θ : Pot}
def ownK (x : Option (Option Ent)) (p : List Dt → Prop) : Prop := match x with
  | some (some (.own l)) => p l
  | _ => False
theorem ownK_o (l : List Dt) (p : List Dt → Prop) : ownK (some (some (.own l))) p = p l := rfl
def setOK (i : Nat) (ρ : DEnv) (Q : Out → Pot → Prop) : List Dt → Pot → Prop := fun l θ => Q (.next (ρ.set i (some (.own l)))) θ
theorem gv_setO (i : Nat) (ma : M (List Dt)) {Q : Out → Pot → Prop} : Gv (mSetO i ma ρ θ) Q = Gv (ma ρ θ) (setOK i ρ Q) := by
  unfold mSetO
  rw [gv_bnd]
  rfl
theorem setOK_a (i : Nat) (l : List Dt) {Q : Out → Pot → Prop} : setOK i ρ Q l θ = Q (.next (ρ.set i (some (.own l)))) θ := rfl
def appK2 (i : Nat) (l : List Dt) (ρ : DEnv) (Q : Out → Pot → Prop) : Dt → Pot → Prop := fun d θ => l.length < bigL ∧ Q (.next (ρ.set i (some (.own (l ++ [d]))))) θ
def appK1 (i : Nat) (ma : M Dt) (ρ : DEnv) (θ : Pot) (Q : Out → Pot → Prop) : List Dt → Prop := fun l => Gv (ma ρ θ) (appK2 i l ρ Q)
theorem appK1_a (i : Nat) (ma : M Dt) (l : List Dt) {Q : Out → Pot → Prop} : appK1 i ma ρ θ Q l = Gv (ma ρ θ) (appK2 i l ρ Q) := rfl
theorem appK2_a (i : Nat) (l : List Dt) (d : Dt) {Q : Out → Pot → Prop} : appK2 i l ρ Q d θ = (l.length < bigL ∧ Q (.next (ρ.set i (some (.own (l ++ [d]))))) θ) := rfl
theorem if_gv {p : Prop} [Decidable p] {m : Res α} {Q : α → Pot → Prop} : Gv (if p then m else .bad) Q = (p ∧ Gv m Q) := by
  by_cases h : p
  · rw [if_pos h]
    exact propext ⟨fun q => ⟨h, q⟩, fun q => q.2⟩
  · rw [if_neg h]
    exact propext ⟨fun q => q.elim, fun q => h q.1⟩
theorem gv_app (i : Nat) (ma : M Dt) {Q : Out → Pot → Prop} : Gv (mApp i ma ρ θ) Q = ownK ρ[i]? (appK1 i ma ρ θ Q) := by
  unfold mApp
  rcases ρ[i]? with _ | _ | _ | _ | _ <;> try rfl
  rename_i l
  show Gv (bnd ma _ ρ θ) Q = Gv (ma ρ θ) (appK2 i l ρ Q)
  rw [gv_bnd]
  refine congrArg (Gv (ma ρ θ)) ?_
  funext d θ1
  rw [if_gv]
  rfl
def extK2 (i : Nat) (l : List Dt) (ρ : DEnv) (Q : Out → Pot → Prop) : List Dt → Pot → Prop := fun z θ => l.length + z.length < bigL ∧ Q (.next (ρ.set i (some (.own (l ++ z))))) θ
def extK1 (i : Nat) (ma : M (List Dt)) (ρ : DEnv) (θ : Pot) (Q : Out → Pot → Prop) : List Dt → Prop := fun l => Gv (ma ρ θ) (extK2 i l ρ Q)
theorem extK1_a (i : Nat) (ma : M (List Dt)) (l : List Dt) {Q : Out → Pot → Prop} : extK1 i ma ρ θ Q l = Gv (ma ρ θ) (extK2 i l ρ Q) := rfl
theorem extK2_a (i : Nat) (l z : List Dt) {Q : Out → Pot → Prop} : extK2 i l ρ Q z θ = (l.length + z.length < bigL ∧ Q (.next (ρ.set i (some (.own (l ++ z))))) θ) := rfl
theorem gv_ext (i : Nat) (ma : M (List Dt)) {Q : Out → Pot → Prop} : Gv (mExt i ma ρ θ) Q = ownK ρ[i]? (extK1 i ma ρ θ Q) := by
  unfold mExt
  rcases ρ[i]? with _ | _ | _ | _ | _ <;> try rfl
  rename_i l
  show Gv (bnd ma _ ρ θ) Q = Gv (ma ρ θ) (extK2 i l ρ Q)
  rw [gv_bnd]
  refine congrArg (Gv (ma ρ θ)) ?_
  funext d θ1
  rw [if_gv]
  rfl
theorem gv_parE (i j : Nat) {Q : Out → Pot → Prop} : Gv (mParE i j ρ θ) Q = Q (.next ((ρ.set i (some (.own []))).set j (some (.own [])))) θ := rfl
def borK (θ : Pot) (Q : List Dt → Pot → Prop) : List Dt → Prop := fun l => Q [.lst l] θ
theorem borK_a (l : List Dt) {Q : List Dt → Pot → Prop} : borK θ Q l = Q [.lst l] θ := rfl
theorem gv_bor (i : Nat) {Q : List Dt → Pot → Prop} : Gv (mBor i ρ θ) Q = ownK ρ[i]? (borK θ Q) := by
  unfold mBor
  rcases ρ[i]? with _ | _ | _ | _ | _ <;> rfl
def frzE (x : Option (Option Ent)) (i : Nat) (ρ : DEnv) : DEnv := match x with
  | some (some (.own l)) => ρ.set i (some (.dat (.lst l)))
  | _ => ρ
theorem frzE_o (l : List Dt) (i : Nat) : frzE (some (some (.own l))) i ρ = ρ.set i (some (.dat (.lst l))) := rfl
theorem gv_frz (i : Nat) (m : M Out) {Q : Out → Pot → Prop} : Gv (mFrz i m ρ θ) Q = Gv (m (frzE ρ[i]? i ρ) θ) Q := by
  have e : frz i ρ = frzE ρ[i]? i ρ := by
    unfold frz
    rcases ρ[i]? with _ | _ | _ | _ | _ <;> rfl
  show Gv (m (frz i ρ) θ) Q = _
  rw [e]
def exprK (ρ : DEnv) (Q : Out → Pot → Prop) : Dt → Pot → Prop := fun _ θ => Q (.next ρ) θ
theorem exprK_a (d : Dt) {Q : Out → Pot → Prop} : exprK ρ Q d θ = Q (.next ρ) θ := rfl
theorem gv_expr (ma : M Dt) {Q : Out → Pot → Prop} : Gv (mExpr ma ρ θ) Q = Gv (ma ρ θ) (exprK ρ Q) := by
  unfold mExpr
  rw [gv_bnd]
  rfl
theorem is2_b (a b : Bool) {Q : Dt → Pot → Prop} : Gv (opt (gIs2 (.bl a) (.bl b)) ρ θ) Q = Q (.bl (decide (a = b))) θ := rfl
theorem isn2_b (a b : Bool) {Q : Dt → Pot → Prop} : Gv (opt (gIsNot2 (.bl a) (.bl b)) ρ θ) Q = Q (.bl (!decide (a = b))) θ := rfl
theorem is2_n {Q : Dt → Pot → Prop} : Gv (opt (gIs2 .non .non) ρ θ) Q = Q (.bl true) θ := rfl
theorem isn2_n {Q : Dt → Pot → Prop} : Gv (opt (gIsNot2 .non .non) ρ θ) Q = Q (.bl false) θ := rfl
theorem is2_i (i : Int) {Q : Dt → Pot → Prop} : Gv (opt (gIs2 (.int i) .non) ρ θ) Q = Q (.bl false) θ := rfl
theorem isn2_i (i : Int) {Q : Dt → Pot → Prop} : Gv (opt (gIsNot2 (.int i) .non) ρ θ) Q = Q (.bl true) θ := rfl
theorem is2_t (l : List Dt) {Q : Dt → Pot → Prop} : Gv (opt (gIs2 (.tup l) .non) ρ θ) Q = Q (.bl false) θ := rfl
theorem isn2_t (l : List Dt) {Q : Dt → Pot → Prop} : Gv (opt (gIsNot2 (.tup l) .non) ρ θ) Q = Q (.bl true) θ := rfl
/-- a while by a measure -/
theorem gv_while_inv {c : M Bool} {body : M Out} {Q : Out → Pot → Prop} (I : Nat → DEnv → Pot → Prop) (h : ∀ k ρ θ, I k ρ θ → Gv (c ρ θ) fun t θ1 => if t = true then Gv (body ρ θ1) fun o θ2 => match o with
      | .next ρ2 => ∃ j, j < k ∧ I j ρ2 θ2
      | .cnt ρ2 => ∃ j, j < k ∧ I j ρ2 θ2
      | .brk ρ2 => Q (.next ρ2) θ2
      | r => Q r θ2
    else Q (.next ρ) θ1) : ∀ (n k : Nat) (ρ : DEnv) (θ : Pot), k < n → I k ρ θ → Gv (whileGo c body n ρ θ) Q
  | 0, _, _, _, z, _ => absurd z (Nat.not_lt_zero _)
  | n + 1, k, ρ, θ, z, i => by
    have q := h k ρ θ i
    rw [whileGo]
    dsimp only
    cases ec : c ρ θ with
    | ok t θ1 =>
      rw [ec, gv_ok] at q
      cases t with
      | false => exact q
      | true =>
        rw [if_pos rfl] at q
        dsimp only
        cases eb : body ρ θ1 with
        | ok o θ2 =>
          rw [eb, gv_ok] at q
          cases o with
          | next ρ2 =>
            obtain ⟨j, j1, j2⟩ := q
            exact gv_while_inv I h n j ρ2 θ2 (by omega) j2
          | cnt ρ2 =>
            obtain ⟨j, j1, j2⟩ := q
            exact gv_while_inv I h n j ρ2 θ2 (by omega) j2
          | brk ρ2 => exact q
          | ret r => exact q
        | exn e ρ θ => rw [eb] at q; exact q.elim
        | bad => rw [eb] at q; exact q.elim
    | exn e ρ θ => rw [ec] at q; exact q.elim
    | bad => rw [ec] at q; exact q.elim
end
section
variable {ρ : DEnv} {θ : Pot}
def goK (T : Tgt) (body : M Out) (ds : List Dt) (Q : Out → Pot → Prop) : Out → Pot → Prop := fun o θ => match o with
  | .next ρ => Gv (forGo T body ds ρ θ) Q
  | .cnt ρ => Gv (forGo T body ds ρ θ) Q
  | .brk ρ => Q (.next ρ) θ
  | .ret r => Q (.ret r) θ
theorem goK_n (T : Tgt) (body : M Out) (ds : List Dt) (ρ : DEnv) {Q : Out → Pot → Prop} : goK T body ds Q (.next ρ) θ = Gv (forGo T body ds ρ θ) Q := rfl
theorem goK_c (T : Tgt) (body : M Out) (ds : List Dt) (ρ : DEnv) {Q : Out → Pot → Prop} : goK T body ds Q (.cnt ρ) θ = Gv (forGo T body ds ρ θ) Q := rfl
theorem goK_b (T : Tgt) (body : M Out) (ds : List Dt) (ρ : DEnv) {Q : Out → Pot → Prop} : goK T body ds Q (.brk ρ) θ = Q (.next ρ) θ := rfl
theorem goK_r (T : Tgt) (body : M Out) (ds : List Dt) (r : Ret) {Q : Out → Pot → Prop} : goK T body ds Q (.ret r) θ = Q (.ret r) θ := rfl
def goR (x : Option DEnv) (body : M Out) (θ : Pot) (k : Out → Pot → Prop) : Prop := match x with
  | some ρ => Gv (body ρ θ) k
  | none => False
theorem goR_s (ρ : DEnv) (body : M Out) (k : Out → Pot → Prop) : goR (some ρ) body θ k = Gv (body ρ θ) k := rfl
theorem gv_goS (T : Tgt) (body : M Out) (d : Dt) (ds : List Dt) {Q : Out → Pot → Prop} : Gv (forGo T body (d :: ds) ρ θ) Q = goR (bindT T d ρ) body θ (goK T body ds Q) := by
  rw [gv_go1]
  cases bindT T d ρ with
  | none => rfl
  | some ρ1 =>
    show Gv (body ρ1 θ) _ = Gv (body ρ1 θ) _
    refine congrArg (Gv (body ρ1 θ)) ?_
    funext o θ2
    cases o <;> rfl
theorem gv_maxL4 (a b c d : Int) {Q : Dt → Pot → Prop} : Gv (opt (gMax [.lst [.int a, .int b, .int c, .int d]]) ρ θ) Q = Q (.int (maxI [a, b, c, d])) θ := rfl
theorem gv_minL4 (a b c d : Int) {Q : Dt → Pot → Prop} : Gv (opt (gMin [.lst [.int a, .int b, .int c, .int d]]) ρ θ) Q = Q (.int (minI [a, b, c, d])) θ := rfl
end
end Pd



namespace Pd
open PySem PySem.Spec PyProof.Rows L2
variable [Pd.LamTab]
section
variable {X : Cx} {F : Fr0} {W : WX} {a b c : Expr} {es : List Expr} {pos p : Pos} {x : Str}
def tupOf : List Dt → Option Dt
  | [.lst l] => some (.tup l)
  | [.tup l] => some (.tup l)
  | _ => none
def mTupOf (ml : M (List Dt)) : M Dt := bnd ml fun l => opt (tupOf l)
theorem pd_tupOf {ml : M (List Dt)} (hm : X.mg "tuple" = none) (ha : PAD X F W [a] ml) (hg : Gl X "tuple" := by rfl)
    (he : starEach [a] X.env = (false, eval a X.env) :: starEach [] X.env := by rfl) (hpl : (backTo pos (starEach [] X.env)).any (·.1) = false := by rfl) : PD X F W (.Call (.Name "tuple" p) [a] [] pos) (mTupOf ml) := by
  refine pe_imp (pe_callTy call_tuple_of hg hm (by decide +kernel) ha (by decide) (by decide) he hpl) fun σ H Q h => ?_
  obtain ⟨ρ, θ, Hs, st, h⟩ := h
  refine then_A OkD.anti st h fun xs l H1 Hs1 θ1 s1 st1 r1 h => ?_
  obtain ⟨d, e, q⟩ := post_opt h
  unfold tupOf at e
  split at e
  · rename_i l
    cases e
    obtain ⟨q0, ys, rfl, h1, h2⟩ := listArg (Reps.mono st1.sub _ r1)
    obtain ⟨y, r0, er, ⟨b0, ys0, eb, h3, h4⟩, _⟩ := r1
    cases er
    cases eb
    refine ⟨q0, ys0, rfl, Or.inl ⟨st1.sub.seq h3, fun t nt => ?_⟩⟩
    have g := Grow.new (o := .tup ys0) st1.sub nt
    exact q (.ref t) _ _ g.s (st1.grow g) ⟨t, ys0, rfl, SqT.of upd_same, Reps.mono g.s l h4⟩
  · rename_i l
    cases e
    obtain ⟨y, r0, er, ⟨b0, ys0, eb, h3, h4⟩, e0⟩ := r1
    cases eb
    cases er
    cases e0
    exact ⟨b0, ys0, rfl, Or.inr ⟨sqt_mono st1.sub h3, q (.ref b0) _ _ (Same.refl _) st1 ⟨b0, ys0, rfl, h3, h4⟩⟩⟩
  · cases e
def listOf : List Dt → Option (List Dt)
  | [.lst l] => some l
  | [.tup l] => some l
  | _ => none
def mListOf (ml : M (List Dt)) : M (List Dt) := bnd ml fun l => opt (listOf l)
theorem po_listOf {ml : M (List Dt)} (hm : X.mg "list" = none) (ha : PAD X F W [a] ml) (hg : Gl X "list" := by rfl)
    (he : starEach [a] X.env = (false, eval a X.env) :: starEach [] X.env := by rfl) (hpl : (backTo pos (starEach [] X.env)).any (·.1) = false := by rfl) : PO X F W (.Call (.Name "list" p) [a] [] pos) (mListOf ml) := by
  refine pe_imp (pe_callTy call_list_of hg hm (by decide +kernel) ha (by decide) (by decide) he hpl) fun σ H Q h => ?_
  obtain ⟨ρ, θ, Hs, st, h⟩ := h
  refine then_A OkO.anti st h fun xs l H1 Hs1 θ1 s1 st1 r1 h => ?_
  obtain ⟨d, e, q⟩ := post_opt h
  unfold listOf at e
  split at e
  · rename_i l
    cases e
    obtain ⟨y, r0, er, ⟨b0, ys0, eb, h3, h4⟩, e0⟩ := r1
    cases eb
    cases er
    cases e0
    refine ⟨b0, ys0, rfl, Or.inl (st1.sub.seq h3), fun t nt => ?_⟩
    exact q t ys0 _ Hs1 (Same.refl _) (st_new st1 nt) upd_same h4 (st1.sub.free nt) (h0_none st1 nt) (ap_ne st1 nt) (own_ne st1 nt)
  · rename_i l
    cases e
    obtain ⟨y, r0, er, ⟨b0, ys0, eb, h3, h4⟩, e0⟩ := r1
    cases eb
    cases er
    cases e0
    refine ⟨b0, ys0, rfl, Or.inr (sqt_mono st1.sub h3), fun t nt => ?_⟩
    exact q t ys0 _ Hs1 (Same.refl _) (st_new st1 nt) upd_same h4 (st1.sub.free nt) (h0_none st1 nt) (ap_ne st1 nt) (own_ne st1 nt)
  · cases e
def gCat : Dt → Dt → Option Dt
  | .tup l, .tup m => if l.length + m.length < bigL then some (.tup (l ++ m)) else none
  | _, _ => none
theorem od_cat : OpD X (binaryOp .Add) gCat := by
  refine ⟨_, op_catA, fun a b d e Hs H x y Q s ra rb q => ?_⟩
  unfold gCat at e
  split at e
  · rename_i l m
    by_cases z : l.length + m.length < bigL
    · rw [if_pos z] at e
      cases e
      obtain ⟨a0, xs, rfl, h1, h2⟩ := ra
      obtain ⟨b0, ys, rfl, h3, h4⟩ := rb
      have e1 := h2.length
      have e2 := h4.length
      have bs : bigL ≤ sizeLine := by decide
      refine ⟨a0, b0, xs, ys, rfl, rfl, sqt_mono s h1, sqt_mono s h3, by omega, fun nx => ?_, fun _ ny => ?_, fun _ _ p np => ?_⟩
      · have l0 : l = [] := List.eq_nil_of_length_eq_zero (by rw [e1, nx]; rfl)
        exact q (.ref b0) Hs H (Grow.refl s) ⟨b0, ys, rfl, h3, by rw [l0]; exact h4⟩
      · have m0 : m = [] := List.eq_nil_of_length_eq_zero (by rw [e2, ny]; rfl)
        exact q (.ref a0) Hs H (Grow.refl s) ⟨a0, xs, rfl, h1, by rw [m0, List.append_nil]; exact h2⟩
      · have g := Grow.new (o := .tup (xs ++ ys)) s np
        exact q (.ref p) _ _ g ⟨p, xs ++ ys, rfl, SqT.of upd_same, (Reps.mono g.s _ h2).append (Reps.mono g.s _ h4)⟩
    · rw [if_neg z] at e
      cases e
  · cases e
def gAdd2 (a b : Dt) : Option Dt := (gAdd a b).or (gCat a b)
theorem od_add2 : OpD X (binaryOp .Add) gAdd2 := od_add.or od_cat
end
end Pd



namespace Pd
open PySem PySem.Spec PyProof.Rows L2 RZ
variable [Pd.LamTab]
def pairs (l m : List Dt) : List Dt := List.zipWith (fun x y => Dt.tup [x, y]) l m
theorem pairs_at {l m : List Dt} {i : Nat} {d : Dt} (h : (pairs l m)[i]? = some d) : ∃ x y, l[i]? = some x ∧ m[i]? = some y ∧ d = .tup [x, y] := by
  unfold pairs at h
  rw [List.getElem?_zipWith] at h
  cases e1 : l[i]? with
  | none => rw [e1] at h; cases h
  | some x =>
    cases e2 : m[i]? with
    | none => rw [e1, e2] at h; cases h
    | some y => rw [e1, e2] at h; cases h; exact ⟨x, y, rfl, rfl, rfl⟩
theorem pairs_len (l m : List Dt) : (pairs l m).length = min l.length m.length := by simp [pairs]
theorem pair_rep {K : PySem.W.Frag} {Hs : Hp} {T : Addr} {x y : V} {dx dy : Dt} (nT : Hs T = none) (r1 : Rep K Hs dx x) (r2 : Rep K Hs dy y) : Rep K (upd Hs T (.tup [x, y])) (.tup [dx, dy]) (.ref T) :=
  ⟨T, [x, y], rfl, SqT.of upd_same, Reps.mono (same_upd nT) _ (Reps.cons r1 (Reps.cons r2 Reps.nil))⟩
theorem itd_zip {K : PySem.W.Frag} {Hs0 : Hp} {a b : Addr} {xs ys : List V} {l m : List Dt} (h1 : SqL K Hs0 a xs) (r1 : Reps K Hs0 l xs) (h2 : SqL K Hs0 b ys) (r2 : Reps K Hs0 m ys) : ItD K (Itz K a b) (pairs l m) Hs0 where
  go := fun i H Hs hi s1 s2 => by
    rw [pairs_len] at hi
    have e1 := r1.length
    have e2 := r2.length
    exact ⟨xs, ys, xs[i]'(by omega), ys[i]'(by omega), (s1.trans s2).seq h1, (s1.trans s2).seq h2, List.getElem?_eq_getElem _, List.getElem?_eq_getElem _⟩
  yld := fun i H Hs x H' d e s1 s2 y => by
    obtain ⟨T, u, v, rfl, nT, rfl, k1, k2⟩ := y
    obtain ⟨dx, dy, f1, f2, rfl⟩ := pairs_at e
    obtain ⟨u', g1, g2⟩ := r1.get f1
    obtain ⟨v', g3, g4⟩ := r2.get f2
    have q1 := k1 xs ((s1.trans s2).seq h1)
    have q2 := k2 ys ((s1.trans s2).seq h2)
    rw [g1] at q1
    rw [g3] at q2
    cases q1
    cases q2
    exact ⟨_, Grow.new s2 nT, pair_rep (s2.free nT) (Rep.mono s1 dx g2) (Rep.mono s1 dy g4)⟩
  stop := fun H Hs s1 s2 => by
    have e1 := r1.length
    have e2 := r2.length
    refine ⟨xs, ys, (s1.trans s2).seq h1, (s1.trans s2).seq h2, ?_⟩
    rw [pairs_len]
    omega
theorem itd_zipT {K : PySem.W.Frag} {Hs0 : Hp} {a b : Addr} {xs ys : List V} {l m : List Dt} (h1 : SqT K Hs0 a xs) (r1 : Reps K Hs0 l xs) (h2 : SqT K Hs0 b ys) (r2 : Reps K Hs0 m ys) : ItD K (ItzT K a b) (pairs l m) Hs0 where
  go := fun i H Hs hi s1 s2 => by
    rw [pairs_len] at hi
    have e1 := r1.length
    have e2 := r2.length
    exact ⟨xs, ys, xs[i]'(by omega), ys[i]'(by omega), sqt_mono (s1.trans s2) h1, sqt_mono (s1.trans s2) h2, List.getElem?_eq_getElem _, List.getElem?_eq_getElem _⟩
  yld := fun i H Hs x H' d e s1 s2 y => by
    obtain ⟨T, u, v, rfl, nT, rfl, k1, k2⟩ := y
    obtain ⟨dx, dy, f1, f2, rfl⟩ := pairs_at e
    obtain ⟨u', g1, g2⟩ := r1.get f1
    obtain ⟨v', g3, g4⟩ := r2.get f2
    have q1 := k1 xs (sqt_mono (s1.trans s2) h1)
    have q2 := k2 ys (sqt_mono (s1.trans s2) h2)
    rw [g1] at q1
    rw [g3] at q2
    cases q1
    cases q2
    exact ⟨_, Grow.new s2 nT, pair_rep (s2.free nT) (Rep.mono s1 dx g2) (Rep.mono s1 dy g4)⟩
  stop := fun H Hs s1 s2 => by
    have e1 := r1.length
    have e2 := r2.length
    refine ⟨xs, ys, sqt_mono (s1.trans s2) h1, sqt_mono (s1.trans s2) h2, ?_⟩
    rw [pairs_len]
    omega
def zipOf : List Dt → Option (List Dt)
  | [.lst l, .lst m] => some (pairs l m)
  | [.tup l, .tup m] => some (pairs l m)
  | _ => none
def mZip (ml : M (List Dt)) : M (List Dt) := bnd ml fun l => opt (zipOf l)
section
variable {X : Cx} {F : Fr0} {W : WX} {a b : Expr} {pos p tpos : Pos} {elts : List Expr} {kk : Nat}
theorem pid_zip {ml : M (List Dt)} (hm : X.mg "zip" = none) (ha : PAD X F W [a, b] ml) (hg : Gl X "zip" := by rfl)
    (hs : starEach [a, b] X.env = (false, eval a X.env) :: starEach [b] X.env := by rfl) (hpl : (backTo pos (starEach [b] X.env)).any (·.1) = false := by rfl) : PID X F W (.Tuple elts kk tpos) (.Call (.Name "zip" p) [a, b] [] pos) (mZip ml) := by
  refine pi_imp (pi_zipA hg hm ha hs hpl) fun σ H R h => ?_
  obtain ⟨ρ, θ, Hs, st, h⟩ := h
  refine then_A OkI.anti st h fun xs l H1 Hs1 θ1 s1 st1 r1 h => ?_
  obtain ⟨d, e, q⟩ := post_opt h
  unfold zipOf at e
  split at e
  · rename_i l m
    cases e
    obtain ⟨y, r0, er, ⟨a0, xs0, ea, h1, h2⟩, z, r9, er2, ⟨b0, ys0, eb, h3, h4⟩, e0⟩ := r1
    subst ea eb e0 er2 er
    exact ⟨a0, b0, xs0, ys0, rfl, Or.inl ⟨st1.sub.seq h1, st1.sub.seq h3, q _ H1 Hs1 (Same.refl _) st1 (itd_zip h1 h2 h3 h4)⟩⟩
  · rename_i l m
    cases e
    obtain ⟨y, r0, er, ⟨a0, xs0, ea, h1, h2⟩, z, r9, er2, ⟨b0, ys0, eb, h3, h4⟩, e0⟩ := r1
    subst ea eb e0 er2 er
    exact ⟨a0, b0, xs0, ys0, rfl, Or.inr ⟨sqt_mono st1.sub h1, sqt_mono st1.sub h3, q _ H1 Hs1 (Same.refl _) st1 (itd_zipT h1 h2 h3 h4)⟩⟩
  · cases e
end
end Pd



namespace Pd
open PySem PySem.Spec PyProof.Rows L2
variable [Pd.LamTab]
section
variable {X : Cx} {F : Fr0} {W : WX} {a b c : Expr} {es : List Expr} {pos p p2 : Pos} {x : Str} {lo hi : Option Expr}
def OkP (X : Cx) (F : Fr0) (σ : L2.St) (ρ : DEnv) (Q : Option Int → Hp → Prop) (Hs : Hp) : Option Int → Pot → Prop := fun o θ' => ∀ H' Hs', Same Hs Hs' → StOk X.K F σ H' Hs' ρ θ' → Q o H'
theorem OkP.anti {σ : L2.St} {ρ : DEnv} {Q : Option Int → Hp → Prop} {Hs Hs1 : Hp} (s : Same Hs Hs1) : ∀ d θ, OkP X F σ ρ Q Hs d θ → OkP X F σ ρ Q Hs1 d θ := fun _ _ h H' Hs' s' => h H' Hs' (s.trans s')
def tP (X : Cx) (F : Fr0) (W : WX) (m : M (Option Int)) : TO := fun σ H Q => ∃ ρ θ Hs, StOk X.K F σ H Hs ρ θ ∧ Post (m ρ θ) (OkP X F σ ρ Q Hs) (ExW X F W Hs)
def PPD (X : Cx) (F : Fr0) (W : WX) (e : Option Expr) (m : M (Option Int)) : Prop := L2.PO X e (tP X F W m)
theorem pp_imp {e : Option Expr} {t t' : TO} (h : L2.PO X e t) (i : ∀ σ H Q, t' σ H Q → t σ H Q) : L2.PO X e t' := ⟨fun pins s σ H Q I q => h.run pins s σ H Q I (i σ H Q q)⟩
theorem then_P {β : Type} {m : M (Option Int)} {f : Option Int → M β} {okb : Hp → β → Pot → Prop} {Q : Option Int → Hp → Prop} {σ : L2.St} {H Hs : Hp} {ρ : DEnv} {θ : Pot} (anti : ∀ {Hs Hs1}, Same Hs Hs1 → ∀ b θ, okb Hs b θ → okb Hs1 b θ) (st : StOk X.K F σ H Hs ρ θ) (hp : Post (bnd m f ρ θ) (okb Hs) (ExW X F W Hs))
    (k : ∀ o H' Hs' θ', Same Hs Hs' → StOk X.K F σ H' Hs' ρ θ' → Post (f o ρ θ') (okb Hs') (ExW X F W Hs') → Q o H') : tP X F W m σ H Q :=
  ⟨ρ, θ, Hs, st, (post_bnd hp).imp (fun d θ' q H' Hs' s st' => k d H' Hs' θ' s st' (q.imp (anti s) (ExW.anti s))) fun _ _ _ q => q⟩
def mNoP : M (Option Int) := ret none
def mPt (ma : M Dt) : M (Option Int) := bnd ma fun d => match d with
  | .int i => ret (some i)
  | _ => bad
theorem pp_none : PPD X F W none mNoP := pp_imp po_none fun σ H Q h => by
  obtain ⟨ρ, θ, Hs, st, h⟩ := h
  exact h H Hs (Same.refl _) st
theorem pp_some {ma : M Dt} (ha : PD X F W a ma) : PPD X F W (some a) (mPt ma) := by
  refine pp_imp (po_some ha) fun σ H Q h => ?_
  obtain ⟨ρ, θ, Hs, st, h⟩ := h
  refine then_D OkP.anti st h fun v d H1 Hs1 θ1 s1 st1 r1 h => ?_
  cases d with
  | int i => exact ⟨i, r1, h H1 Hs1 (Same.refl _) st1⟩
  | _ => exact h.elim
def cutD (l : List Dt) (lo hi : Option Int) : List Dt := (l.drop (HT.sIx l.length 0 lo)).take (HT.sIx l.length l.length hi - HT.sIx l.length 0 lo)
def gSl (x : Dt) (lo hi : Option Int) : Option Dt := match x with
  | .tup l => some (.tup (cutD l lo hi))
  | .lst l => some (.lst (cutD l lo hi))
  | _ => none
def mSl (ma : M Dt) (ml mh : M (Option Int)) : M Dt := bnd ma fun x => bnd ml fun l => bnd mh fun u => opt (gSl x l u)
theorem pd_sl {ma : M Dt} {ml mh : M (Option Int)} (ha : PD X F W a ma) (hl : PPD X F W lo ml) (hh : PPD X F W hi mh) : PD X F W (.Subscript a (.Slice lo hi none p2) pos) (mSl ma ml mh) := by
  refine pe_imp (pe_slice (SlR.or sl_tupA sl_list) ha hl hh) fun σ H Q h => ?_
  obtain ⟨ρ, θ, Hs, st, h⟩ := h
  refine then_D OkD.anti st h fun x dx H1 Hs1 θ1 s1 st1 r1 h => ?_
  refine then_P OkD.anti st1 h fun l H2 Hs2 θ2 s2 st2 h => ?_
  refine then_P OkD.anti st2 h fun u H3 Hs3 θ3 s3 st3 h => ?_
  obtain ⟨d, e, q⟩ := post_opt h
  have r3 := Rep.mono (s2.trans s3) dx r1
  cases dx with
  | tup y =>
    cases e
    obtain ⟨a0, xs, rfl, h1, h2⟩ := r3
    have el := h2.length
    refine Or.inl ⟨a0, xs, rfl, sqt_mono st3.sub h1, fun w => ?_, fun w t nt => ?_⟩
    · have e1 : cutD y l u = y := by
        unfold cutD
        rw [el, w.1, w.2, List.drop_zero, Nat.sub_zero, ← el, List.take_length]
      rw [e1] at q
      exact q (.ref a0) H3 Hs3 (Same.refl _) st3 ⟨a0, xs, rfl, h1, h2⟩
    · have g := Grow.new (o := .tup (cutV xs l u)) st3.sub nt
      refine q (.ref t) _ _ g.s (st3.grow g) ⟨t, cutV xs l u, rfl, SqT.of upd_same, ?_⟩
      unfold cutD cutV
      rw [el]
      exact Reps.take _ (Reps.drop _ (Reps.mono g.s _ h2))
  | lst y =>
    cases e
    obtain ⟨a0, xs, rfl, h1, h2⟩ := r3
    have el := h2.length
    refine Or.inr ⟨a0, xs, rfl, st3.sub.seq h1, fun t nt => ?_⟩
    have g := Grow.new (o := .lst (cutV xs l u)) st3.sub nt
    refine q (.ref t) _ _ g.s (st3.grow g) ⟨t, cutV xs l u, rfl, Or.inl (Or.inl upd_same), ?_⟩
    unfold cutD cutV
    rw [el]
    exact Reps.take _ (Reps.drop _ (Reps.mono g.s _ h2))
  | _ => cases e
def gIn (a b : Dt) : Option Dt := match toP a, toP b with
  | some d, some (.list ds) => if (SeqAt.shaped d && SeqAt.shaped (.list ds)) = true then some (.bl (ds.any fun z => PyData.eqv z d)) else none
  | _, _ => none
def gNotIn (a b : Dt) : Option Dt := match toP a, toP b with
  | some d, some (.list ds) => if (SeqAt.shaped d && SeqAt.shaped (.list ds)) = true then some (.bl (!ds.any fun z => PyData.eqv z d)) else none
  | _, _ => none
def gIndex (a b : Dt) : Option Dt := match toP a, toP b with
  | some (.list ds), some d => if (SeqAt.shaped (.list ds) && SeqAt.shaped d) = true then (ds.findIdx? fun z => PyData.eqv z d).map fun j => Dt.int (j : Nat) else none
  | _, _ => none
def idxK (x : Dt) : List Dt → M Dt
  | [y] => opt (gIndex x y)
  | _ => bad
def mIndex (ma : M Dt) (ml : M (List Dt)) : M Dt := bnd ma fun x => match x with
  | .lst l => bnd ml (idxK (.lst l))
  | _ => bad
end
end Pd



namespace Pd
open PySem PySem.Spec PyProof.Rows L2
variable [Pd.LamTab]
theorem item_ok {K : PySem.W.Frag} {u : Value} {d : Dt} (h : itemB u d = true) : ∃ v, RelV v u ∧ ∀ H, Rep K H d v := by
  unfold itemB at h
  split at h
  · rename_i i t j
    exact ⟨.int i, ⟨t, rfl⟩, fun H => by rw [← of_decide_eq_true h]; rfl⟩
  · rename_i s t z
    exact ⟨.str s, ⟨t, rfl⟩, fun H => by rw [← of_decide_eq_true h]; rfl⟩
  · rename_i b c
    exact ⟨.bl b, rfl, fun H => by rw [← of_decide_eq_true h]; rfl⟩
  · exact ⟨.non, rfl, fun H => rfl⟩
  · cases h
theorem items_ok {K : PySem.W.Frag} : ∀ {us : List Value} {ds : List Dt}, itemsB us ds = true → ∃ vs, Vals vs us ∧ ∀ H, Reps K H ds vs
  | [], [], _ => ⟨[], .nil, fun _ => rfl⟩
  | u :: us, d :: ds, h => by
    obtain ⟨h1, h2⟩ := Bool.and_eq_true_iff.mp (show (itemB u d && itemsB us ds) = true from h)
    obtain ⟨v, r, k⟩ := item_ok (K := K) h1
    obtain ⟨vs, rs, ks⟩ := items_ok (K := K) h2
    exact ⟨v :: vs, .cons r rs, fun H => Reps.cons (k H) (ks H)⟩
  | [], _ :: _, h => by cases h
  | _ :: _, [], h => by cases h
theorem exTup_ok {K : PySem.W.Frag} {h : Heap} {mg : Str → Option Value} {x : Str} {ds : List Dt} (X : K.In h) (G : h.Ns mainGlobals mg) (e : exTup K x ds = true) : ∃ a, mg x = some (.ref a) ∧ ∀ H, Rep K H (.tup ds) (.ref a) := by
  unfold exTup at e
  split at e
  · rename_i a en
    split at e
    · rename_i o ek
      unfold objB at e
      obtain ⟨e1, e2⟩ := Bool.and_eq_true_iff.mp e
      split at e2
      · rename_i its n ed
        obtain ⟨e3, e4⟩ := Bool.and_eq_true_iff.mp e2
        obtain ⟨vs, r, k⟩ := items_ok (K := K) e4
        have big : 1000 ≤ sizeLine := by decide
        exact ⟨a, PySem.W.mg_of X G en, fun H => ⟨a, vs, rfl, Or.inr ⟨o, its, n, ek, of_decide_eq_true e1, ed, Nat.le_trans (of_decide_eq_true e3) big, r⟩, k H⟩⟩
      · cases e2
    · cases e
  · cases e
theorem pd_gtup {X : Cx} {F : Fr0} {W : WX} {pos : Pos} {x : Str} {d : Dt} (h : ∃ a, X.mg x = some (.ref a) ∧ ∀ H, Rep X.K H d (.ref a)) (hg : Gl X x := by rfl) (hd : (x == ("__debug__" : Str)) = false := by decide) : PD X F W (.Name x pos) (ret d) := by
  obtain ⟨a, e, r⟩ := h
  exact pd_gdat e r hg hd
end Pd



namespace Pd
open PySem PySem.Spec PyProof.Rows L2
variable [Pd.LamTab]
def numbered (l : List Dt) : List Dt := (l.zipIdx).map fun p => Dt.tup [.int (p.2 : Nat), p.1]
theorem numbered_at {l : List Dt} {i : Nat} {d : Dt} (h : (numbered l)[i]? = some d) : ∃ x, l[i]? = some x ∧ d = .tup [.int (i : Nat), x] := by
  unfold numbered at h
  rw [List.getElem?_map, List.getElem?_zipIdx] at h
  cases e : l[i]? with
  | none => rw [e] at h; cases h
  | some x =>
    rw [e] at h
    refine ⟨x, rfl, ?_⟩
    have h2 : some (Dt.tup [.int ((0 + i : Nat) : Int), x]) = some d := h
    rw [Nat.zero_add] at h2
    exact (Option.some.inj h2).symm
theorem numbered_len (l : List Dt) : (numbered l).length = l.length := by simp [numbered]
theorem itd_enum {K : PySem.W.Frag} {Hs0 : Hp} {a : Addr} {xs : List V} {l : List Dt} (h1 : SqL K Hs0 a xs) (r1 : Reps K Hs0 l xs) : ItD K (Ite K a) (numbered l) Hs0 where
  go := fun i H Hs hi s1 s2 => by
    rw [numbered_len] at hi
    have e1 := r1.length
    exact ⟨xs, xs[i]'(by omega), (s1.trans s2).seq h1, List.getElem?_eq_getElem _⟩
  yld := fun i H Hs x H' d e s1 s2 y => by
    obtain ⟨T, u, rfl, nT, rfl, k1⟩ := y
    obtain ⟨dx, f1, rfl⟩ := numbered_at e
    obtain ⟨u', g1, g2⟩ := r1.get f1
    have q1 := k1 xs ((s1.trans s2).seq h1)
    rw [g1] at q1
    cases q1
    exact ⟨_, Grow.new s2 nT, pair_rep (dx := .int (i : Nat)) (s2.free nT) rfl (Rep.mono s1 dx g2)⟩
  stop := fun H Hs s1 s2 => by
    have e1 := r1.length
    exact ⟨xs, (s1.trans s2).seq h1, by rw [numbered_len, e1]; exact Nat.le_refl _⟩
def enumOf : List Dt → Option (List Dt)
  | [.lst l] => some (numbered l)
  | _ => none
def mEnum (ml : M (List Dt)) : M (List Dt) := bnd ml fun l => opt (enumOf l)
section
variable {X : Cx} {F : Fr0} {W : WX} {a b : Expr} {pos p tpos q : Pos} {elts : List Expr} {kk : Nat}
def rgOk (i j : Int) : Bool := bnd62 i && (bnd62 j && decide ((j - i).toNat ≤ 2 ^ 20))
def lrg2 : Dt → Dt → Option (List Dt)
  | .int i, .int j => if rgOk i j = true then some (rngL i (j - i).toNat) else none
  | _, _ => none
def mLrg2 (ma mb : M Dt) : M (List Dt) := bnd ma fun x => bnd mb fun y => opt (lrg2 x y)
def mLrg1 (ma : M Dt) : M (List Dt) := bnd ma fun x => opt (lrg2 (.int 0) x)
def dnL (i : Int) (n : Nat) : List Dt := (List.range n).map fun k : Nat => .int (i + (k : Nat) * (-1))
def rngDn : List Dt → Option (List Dt)
  | [.int i, .int j, .int c] => if (bnd62 i && (bnd62 j && decide (c = -1))) = true then some (dnL i (i - j).toNat) else none
  | _ => none
end
section
variable {X : Cx} {F : Fr0} {W : WX} {a b c tg : Expr} {pos p : Pos}
end
end Pd



namespace Pd
open PySem PySem.Spec PyProof.Rows L2
variable [Pd.LamTab]
section
variable {X : Cx} {F : Fr0} {W : WX} {elt tg iter : Expr} {ifs : List Expr} {scope : Scope} {own : List (Str × Nat)} {pos spos py : Pos} {T : Tgt} {ms : M (List Dt)} {mt : M Bool} {me : M Dt} {y : Str}
theorem comp_tlc (hT : TgtIn T (own.map (·.2))) {σ : L2.St} {H : Hp} {Q : VK} (h : tO X F W (mComp T (own.map (·.2)) ms mt me) σ H Q) :
    tLc (tI X F W ms) (gOf X.K T) (fun σ H Q => ∃ F, tT X F W0 mt σ H Q) (fun σ H Q => ∃ F, tD X F W0 me σ H Q) (own.map (·.2)) σ H Q := by
  refine comp_run hT (fun F σ H Hs ρ ρ' θ d v Q st r e q => ?_) (fun F σ H Q h => ⟨F, h⟩) (fun F σ H Q h => ⟨F, h⟩) h
  exact gOf_run st r e q
theorem lst_run {ml : M (List Dt)} {σ : L2.St} {H : Hp} {Q : VK} (h : tD X F W (mLst ml) σ H Q) : tO X F W ml σ H Q := by
  obtain ⟨ρ, θ, Hs, st, h⟩ := h
  refine then_O OkD.anti st h fun a xs l H1 Hs1 θ1 s1 st1 e1 e2 e3 e4 e5 e6 h => ?_
  exact h (.ref a) H1 _ (same_upd e3) (st_freeze st1 e1 e3 e4 e5 e6) ⟨a, xs, rfl, SqL.of upd_same, Reps.mono (same_upd e3) l e2⟩
theorem psd_setC (i : Nat) (own : List (Str × Nat)) (T : Tgt) (hc : X.calm = true) (hN : X.N.Nodup) (hi : PID X F W tg iter ms) (ok : BlkOk X.N X.env.scope scope own) (hT : TgtIn T (own.map (·.2)))
    (hg : ∀ (s : Shared) (H : Hp) (C : Addr) (cl : List (Str × Addr)) (fp : List Addr), PG (X.blk s H scope (compEnvC scope cl C X.env) fp) tg (gOf X.K T))
    (ht : ∀ (F : Fr0) (s : Shared) (H : Hp) (C : Addr) (cl : List (Str × Addr)) (fp : List Addr), PTsD (X.blk s H scope (compEnvC scope cl C X.env) fp) F W0 ifs mt)
    (he : ∀ (F : Fr0) (s : Shared) (H : Hp) (C : Addr) (cl : List (Str × Addr)) (fp : List Addr), PD (X.blk s H scope (compEnvC scope cl C X.env) fp) F W0 elt me) (hsw : swapsWith (.ListComp elt [⟨tg, iter, ifs, 0⟩] scope pos) (some (.Name y py)) spos.line X.env = pure true)
    (hy : X.N[i]? = some y := by rfl) (hyl : X.env.scope.names.lookup y = some .local := by rfl) (hs : ∀ x, foldedSetIterable iter X.env x = pure x := by intro _; rfl) :
    PSD X F W (.Assign [.Name y py] (.ListComp elt [⟨tg, iter, ifs, 0⟩] scope pos) spos) (mSet i (mLst (mComp T (own.map (·.2)) ms mt me))) := by
  have ht' : ∀ (s : Shared) (H : Hp) (C : Addr) (cl : List (Str × Addr)) (fp : List Addr), PTs (X.blk s H scope (compEnvC scope cl C X.env) fp) ifs (fun σ H Q => ∃ F, tT X F W0 mt σ H Q) := fun s H C cl fp => ⟨fun pins s1 σ H1 Q I ⟨F1, h⟩ => (ht F1 s H C cl fp).run pins s1 σ H1 Q I h⟩
  have he' : ∀ (s : Shared) (H : Hp) (C : Addr) (cl : List (Str × Addr)) (fp : List Addr), PE (X.blk s H scope (compEnvC scope cl C X.env) fp) elt (fun σ H Q => ∃ F, tD X F W0 me σ H Q) := fun s H C cl fp => ⟨fun pins s1 σ H1 Q I ⟨F1, h⟩ => (he F1 s H C cl fp).run pins s1 σ H1 Q I h⟩
  refine ps_imp (ps_setLc hc hN hy hyl hsw hi ok hg ht' he' hs) fun D σ H q => ?_
  refine comp_tlc hT (lst_run ?_)
  obtain ⟨ρ, θ, Hs, st, q⟩ := q
  exact then_D OkS.anti st q fun v d H1 Hs1 θ1 s1 st1 r1 h => h _ H1 Hs1 (Same.refl _) (st_set st1 i r1)
end
end Pd



namespace Pd
open PySem PySem.Spec
variable [Pd.LamTab]
section
variable {ρ : DEnv} {θ : Pot}
theorem gv_tupOf (ml : M (List Dt)) {Q : Dt → Pot → Prop} : Gv (mTupOf ml ρ θ) Q = Gv (ml ρ θ) (optK tupOf ρ Q) := by
  unfold mTupOf
  rw [gv_bnd]
  rfl
theorem tupOf_l (l : List Dt) {Q : Dt → Pot → Prop} : Gv (opt (tupOf [.lst l]) ρ θ) Q = Q (.tup l) θ := rfl
theorem tupOf_t (l : List Dt) {Q : Dt → Pot → Prop} : Gv (opt (tupOf [.tup l]) ρ θ) Q = Q (.tup l) θ := rfl
theorem gv_listOf (ml : M (List Dt)) {Q : List Dt → Pot → Prop} : Gv (mListOf ml ρ θ) Q = Gv (ml ρ θ) (optK listOf ρ Q) := by
  unfold mListOf
  rw [gv_bnd]
  rfl
theorem listOf_l (l : List Dt) {Q : List Dt → Pot → Prop} : Gv (opt (listOf [.lst l]) ρ θ) Q = Q l θ := rfl
theorem listOf_t (l : List Dt) {Q : List Dt → Pot → Prop} : Gv (opt (listOf [.tup l]) ρ θ) Q = Q l θ := rfl
theorem gv_zip (ml : M (List Dt)) {Q : List Dt → Pot → Prop} : Gv (mZip ml ρ θ) Q = Gv (ml ρ θ) (optK zipOf ρ Q) := by
  unfold mZip
  rw [gv_bnd]
  rfl
theorem zipOf_l (l m : List Dt) {Q : List Dt → Pot → Prop} : Gv (opt (zipOf [.lst l, .lst m]) ρ θ) Q = Q (pairs l m) θ := rfl
theorem zipOf_t (l m : List Dt) {Q : List Dt → Pot → Prop} : Gv (opt (zipOf [.tup l, .tup m]) ρ θ) Q = Q (pairs l m) θ := rfl
theorem gv_enum (ml : M (List Dt)) {Q : List Dt → Pot → Prop} : Gv (mEnum ml ρ θ) Q = Gv (ml ρ θ) (optK enumOf ρ Q) := by
  unfold mEnum
  rw [gv_bnd]
  rfl
theorem enumOf_l (l : List Dt) {Q : List Dt → Pot → Prop} : Gv (opt (enumOf [.lst l]) ρ θ) Q = Q (numbered l) θ := rfl
theorem add2_i (i j : Int) {Q : Dt → Pot → Prop} : Gv (opt (gAdd2 (.int i) (.int j)) ρ θ) Q = Q (.int (i + j)) θ := rfl
theorem add2_t (l m : List Dt) {Q : Dt → Pot → Prop} : Gv (opt (gAdd2 (.tup l) (.tup m)) ρ θ) Q = (l.length + m.length < bigL ∧ Q (.tup (l ++ m)) θ) := by
  have e : gAdd2 (.tup l) (.tup m) = if l.length + m.length < bigL then some (.tup (l ++ m)) else none := by
    show (none : Option Dt).or (gCat (.tup l) (.tup m)) = _
    rfl
  rw [e]
  by_cases h : l.length + m.length < bigL
  · rw [if_pos h]
    exact propext ⟨fun q => ⟨h, q⟩, fun q => q.2⟩
  · rw [if_neg h]
    exact propext ⟨fun q => q.elim, fun q => h q.1⟩
def slK2 (x : Dt) (l : Option Int) (ρ : DEnv) (Q : Dt → Pot → Prop) : Option Int → Pot → Prop := fun u θ => Gv (opt (gSl x l u) ρ θ) Q
def slK1 (mh : M (Option Int)) (x : Dt) (ρ : DEnv) (Q : Dt → Pot → Prop) : Option Int → Pot → Prop := fun l θ => Gv (mh ρ θ) (slK2 x l ρ Q)
def slK0 (ml mh : M (Option Int)) (ρ : DEnv) (Q : Dt → Pot → Prop) : Dt → Pot → Prop := fun x θ => Gv (ml ρ θ) (slK1 mh x ρ Q)
theorem gv_sl (ma : M Dt) (ml mh : M (Option Int)) {Q : Dt → Pot → Prop} : Gv (mSl ma ml mh ρ θ) Q = Gv (ma ρ θ) (slK0 ml mh ρ Q) := by
  unfold mSl
  simp only [gv_bnd]
  rfl
theorem slK0_a (ml mh : M (Option Int)) (x : Dt) {Q : Dt → Pot → Prop} : slK0 ml mh ρ Q x θ = Gv (ml ρ θ) (slK1 mh x ρ Q) := rfl
theorem slK1_a (mh : M (Option Int)) (x : Dt) (l : Option Int) {Q : Dt → Pot → Prop} : slK1 mh x ρ Q l θ = Gv (mh ρ θ) (slK2 x l ρ Q) := rfl
theorem slK2_a (x : Dt) (l u : Option Int) {Q : Dt → Pot → Prop} : slK2 x l ρ Q u θ = Gv (opt (gSl x l u) ρ θ) Q := rfl
theorem gSl_l (d : List Dt) (l u : Option Int) {Q : Dt → Pot → Prop} : Gv (opt (gSl (.lst d) l u) ρ θ) Q = Q (.lst (cutD d l u)) θ := rfl
theorem gSl_t (d : List Dt) (l u : Option Int) {Q : Dt → Pot → Prop} : Gv (opt (gSl (.tup d) l u) ρ θ) Q = Q (.tup (cutD d l u)) θ := rfl
theorem gv_noP {Q : Option Int → Pot → Prop} : Gv (mNoP ρ θ) Q = Q none θ := rfl
def ptK (Q : Option Int → Pot → Prop) : Dt → Pot → Prop := fun d θ => match d with
  | .int i => Q (some i) θ
  | _ => False
theorem gv_pt (ma : M Dt) {Q : Option Int → Pot → Prop} : Gv (mPt ma ρ θ) Q = Gv (ma ρ θ) (ptK Q) := by
  unfold mPt
  rw [gv_bnd]
  congr 1
  funext d θ1
  cases d <;> rfl
theorem ptK_a (i : Int) {Q : Option Int → Pot → Prop} : ptK Q (.int i) θ = Q (some i) θ := rfl
end
end Pd



namespace Pd
open PySem PySem.Spec PyProof.Rows L2
variable [Pd.LamTab]
def mParOD (i j : Nat) (ml : M (List Dt)) (mb : M Dt) : M Out := bnd ml fun l ρ θ => match mb (hide ρ) θ with
  | .ok d θ' => .ok (.next ((ρ.set i (some (.own l))).set j (some (.dat d)))) θ'
  | _ => .bad
def mParDO (i j : Nat) (mb : M Dt) (ml : M (List Dt)) : M Out := bnd mb fun d => bnd ml fun l ρ θ => .ok (.next ((ρ.set i (some (.dat d))).set j (some (.own l)))) θ
theorem psd_parDO {X : Cx} {F : Fr0} {W : WX} {pos : Pos} {i j : Nat} {x y : Str} {a b : Expr} {ml : M (List Dt)} {mb : M Dt} {px py pt : Pos} {kt k2 pt2} (hc : X.calm = true) (hN : X.N.Nodup) (hb : PD X F W a mb) (ha : PO X F W b ml)
    (hi : X.N[i]? = some x := by rfl) (hj : X.N[j]? = some y := by rfl) (hij : i ≠ j := by decide)
    (hx : X.env.scope.names.lookup x = some .local := by rfl) (hy : X.env.scope.names.lookup y = some .local := by rfl)
    (s1 : starEach [a, b] X.env = (false, eval a X.env) :: starEach [b] X.env := by rfl) (s2 : starEach [b] X.env = (false, eval b X.env) :: starEach [] X.env := by rfl)
    (hw : swappedStores [.Tuple [.Name x px, .Name y py] kt pt] (.Tuple [a, b] k2 pt2) X.env = pure (some [x, y]) := by rfl)
    (hs : swapsWithSole [.Tuple [.Name x px, .Name y py] kt pt] (.Tuple [a, b] k2 pt2) pos.line X.env = pure false := by rfl) :
    PSD X F W (.Assign [.Tuple [.Name x px, .Name y py] kt pt] (.Tuple [a, b] k2 pt2) pos) (mParDO i j mb ml) := by
  refine ps_imp (ps_par hc hN hi hj hij hx hy (pa_cons hb (pa_cons ha pa_nil s2) s1) hw hs) fun D σ H q => ?_
  obtain ⟨ρ, θ, Hs, st, q⟩ := q
  refine then_D OkS.anti st q fun v d H1 Hs1 θ1 t1 st1 r1 h => ?_
  refine then_O OkS.anti st1 h fun a0 xs l H2 Hs2 θ2 t2 st2 e1 e2 e3 e4 e5 e6 h => ?_
  have st3 := st_set st2 i (Rep.mono t2 d r1)
  refine ⟨v, .ref a0, rfl, h _ H2 Hs2 (Same.refl _) (st_setO st3 j e1 e2 e3 e4 e5 fun m l' _ e => ?_)⟩
  by_cases z : i = m
  · subst z
    rw [List.getElem?_set] at e
    by_cases w : i < ρ.length
    · rw [if_pos rfl, if_pos w] at e
      cases e
    · rw [if_pos rfl, if_neg w] at e
      cases e
  · rw [List.getElem?_set_ne z] at e ⊢
    exact e6 m l' e
end Pd



namespace Pd
open PySem PySem.Spec PyProof.Rows L2
variable [Pd.LamTab]
section
variable {prog : Program} {w : World} {A : Around} {E : Value → Shared → Prop} {s : Shared} {z TI TO T i1 i2 : Addr} {fp1 fp2 : List Addr} {n1 n2 i : Nat} {P1 P2 : Nat → Value → Prop} {St1 St2 : Nat → Heap → Prop}
theorem draws_tup (hh : A.handled = none) (it l : Addr) (hne : l ≠ it) (items : Array Value) :
    Draws prog w A it [it, l] items.size (fun i v => items[i]? = some v) (fun i h => h.IsTupleIter it l i ∧ h.IsTuple l items) where
  live := fun _ _ st => by obtain ⟨⟨o, ho, _⟩, _⟩ := st; exact ⟨o, ho⟩
  frame := fun _ _ _ st hk => ⟨st.1.at fun o e => hk it (by simp) o e, by
    obtain ⟨o, ho, r⟩ := st.2
    exact ⟨o, hk l (by simp) o ho, r⟩⟩
  item := fun i s Q E hi st hQ => by
    have hx : items[i]? = some items[i] := Array.getElem?_eq_getElem hi
    refine RZ.nextOf_tuple_item st.1 st.2 hx fun h' hit' sb => ?_
    refine hQ _ h' s.toks hx ⟨hit', ?_⟩ sb
    obtain ⟨o, ho, r⟩ := st.2
    exact ⟨o, sb.extBut _ _ hne ho, r⟩
  done := fun s Q E st hE => by
    refine RZ.nextOf_tuple_end hh st.1 st.2 (by simp) fun h' e hq he => ?_
    exact hE h' e hq he
/-- no pair is out, or one that stands above S -/
def ZSt (S : Addr) (h : Heap) (z TI TO i1 i2 : Addr) : Prop := IsTupOf2 h TI (.ref i1) (.ref i2) ∧ ((IsZip h z TI TO .none ∧ ∃ a b, IsTupOf2 h TO a b) ∨ ∃ T f o, IsZipHeld h z TI TO T f ∧ h.get? T = some o ∧ S < T)
structure ZLow (S z TI TO i1 i2 : Addr) : Prop where
  z : z < S
  I : TI < S
  O : TO < S
  a : i1 < S
  b : i2 < S
end
/-- the pairs that were made -/
structure ZG (P1 P2 : Nat → Value → Prop) (S : Addr) (h : Heap) (as : List Addr) : Prop where
  rise : as.Pairwise (· < ·)
  above : ∀ a ∈ as, S < a
  pairs : ∀ j a, as[j]? = some a → ∃ x y, P1 j x ∧ P2 j y ∧ IsTupOf2 h a x y
theorem ZG.there {P1 P2 : Nat → Value → Prop} {S : Addr} {h : Heap} {as : List Addr} (G : ZG P1 P2 S h as) {a : Addr} (ha : a ∈ as) : a < h.objs.size := by
  obtain ⟨j, hj⟩ := List.getElem?_of_mem ha
  obtain ⟨x, y, _, _, e⟩ := G.pairs j a hj
  exact Heap.lt_size e
section
variable {prog : Program} {w : World} {A : Around} {s : Shared} {z TI TO i1 i2 S : Addr} {fp1 fp2 : List Addr} {n1 n2 : Nat} {P1 P2 : Nat → Value → Prop} {St1 St2 : Nat → Heap → Prop} {R : Result → Shared → Prop}
end
end Pd



namespace Pd
open PySem PySem.Spec PyProof.Rows L2
variable [Pd.LamTab]
def putP : List Addr → List (V × V) → Hp → Hp
  | a :: as, p :: ps, H => upd (putP as ps H) a (.tup [p.1, p.2])
  | _, _, H => H
def tListZip (K : PySem.W.Frag) (ta : TA) : TE := fun σ H Q => ta σ H fun vs H1 => ∃ a b xs ys, vs = [V.ref a, V.ref b] ∧ ((SqL K H1 a xs ∧ SqL K H1 b ys) ∨ (SqT K H1 a xs ∧ SqT K H1 b ys)) ∧
  ∀ (S : Addr) (as : List Addr), H1 S = none → (∀ t ∈ as, H1 t = none) → S ∉ as → as.Nodup → as.length = min xs.length ys.length → Q (.ref S) (putP as (xs.zip ys) (upd H1 S (.lst (as.map V.ref))))
section
variable {X : Cx} {a b : Expr} {ta : TA} {p q pos qpos : Pos}
end
def mListZip (ml : M (List Dt)) : M (List Dt) := bnd ml fun l => opt (zipOf l)
section
variable {X : Cx} {F : Fr0} {W : WX} {a b : Expr} {p q pos qpos : Pos}
end
end Pd



namespace Pd
open PySem PySem.Spec
variable [Pd.LamTab]
theorem tk_none {X : L2.Cx} : L2.Takes X W0 := fun _ _ x => by
  obtain ⟨_, _, _, _, _, _, _, _, _, _, _, _, _, _, _, _, z⟩ := x
  exact z.elim
section
variable {ρ : DEnv} {θ : Pot}
def odK2 (i j : Nat) (l : List Dt) (ρ : DEnv) (Q : Out → Pot → Prop) : Dt → Pot → Prop := fun d θ => Q (.next ((ρ.set i (some (.own l))).set j (some (.dat d)))) θ
def odK1 (i j : Nat) (mb : M Dt) (ρ : DEnv) (Q : Out → Pot → Prop) : List Dt → Pot → Prop := fun l θ => Gv (mb (hide ρ) θ) (odK2 i j l ρ Q)
theorem gv_parOD (i j : Nat) (ml : M (List Dt)) (mb : M Dt) {Q : Out → Pot → Prop} : Gv (mParOD i j ml mb ρ θ) Q = Gv (ml ρ θ) (odK1 i j mb ρ Q) := by
  unfold mParOD
  rw [gv_bnd]
  congr 1
  funext l θ1
  unfold odK1
  show Gv (match mb (hide ρ) θ1 with | .ok d θ' => .ok (.next ((ρ.set i (some (.own l))).set j (some (.dat d)))) θ' | _ => .bad) Q = _
  cases mb (hide ρ) θ1 <;> rfl
theorem odK1_a (i j : Nat) (mb : M Dt) (l : List Dt) {Q : Out → Pot → Prop} : odK1 i j mb ρ Q l θ = Gv (mb (hide ρ) θ) (odK2 i j l ρ Q) := rfl
theorem odK2_a (i j : Nat) (l : List Dt) (d : Dt) {Q : Out → Pot → Prop} : odK2 i j l ρ Q d θ = Q (.next ((ρ.set i (some (.own l))).set j (some (.dat d)))) θ := rfl
def doK2 (i j : Nat) (d : Dt) (ρ : DEnv) (Q : Out → Pot → Prop) : List Dt → Pot → Prop := fun l θ => Q (.next ((ρ.set i (some (.dat d))).set j (some (.own l)))) θ
def doK1 (i j : Nat) (ml : M (List Dt)) (ρ : DEnv) (Q : Out → Pot → Prop) : Dt → Pot → Prop := fun d θ => Gv (ml ρ θ) (doK2 i j d ρ Q)
theorem gv_parDO (i j : Nat) (mb : M Dt) (ml : M (List Dt)) {Q : Out → Pot → Prop} : Gv (mParDO i j mb ml ρ θ) Q = Gv (mb ρ θ) (doK1 i j ml ρ Q) := by
  unfold mParDO
  rw [gv_bnd]
  congr 1
  funext d θ1
  rw [gv_bnd]
  rfl
theorem doK1_a (i j : Nat) (ml : M (List Dt)) (d : Dt) {Q : Out → Pot → Prop} : doK1 i j ml ρ Q d θ = Gv (ml ρ θ) (doK2 i j d ρ Q) := rfl
theorem doK2_a (i j : Nat) (l : List Dt) (d : Dt) {Q : Out → Pot → Prop} : doK2 i j d ρ Q l θ = Q (.next ((ρ.set i (some (.dat d))).set j (some (.own l)))) θ := rfl
def lrK (ρ : DEnv) (Q : List Dt → Pot → Prop) : Dt → Pot → Prop := fun x θ => Gv (opt (lrg2 (.int 0) x) ρ θ) Q
def lr2K2 (x : Dt) (ρ : DEnv) (Q : List Dt → Pot → Prop) : Dt → Pot → Prop := fun y θ => Gv (opt (lrg2 x y) ρ θ) Q
def lr2K1 (mb : M Dt) (ρ : DEnv) (Q : List Dt → Pot → Prop) : Dt → Pot → Prop := fun x θ => Gv (mb ρ θ) (lr2K2 x ρ Q)
/-- l.index(x) -/
def ixdK2 (x : Dt) (ρ : DEnv) (Q : Dt → Pot → Prop) : List Dt → Pot → Prop := fun l θ => match l with
  | [y] => Gv (opt (gIndex x y) ρ θ) Q
  | _ => False
def ixdK1 (ml : M (List Dt)) (ρ : DEnv) (Q : Dt → Pot → Prop) : Dt → Pot → Prop := fun x θ => match x with
  | .lst l => Gv (ml ρ θ) (ixdK2 (.lst l) ρ Q)
  | _ => False
end
mutual
def okD : Dt → Prop
  | .int i => i.natAbs.log2 < 1920
  | .str s => PyData.strOk s = true
  | .lst l => oks l
  | .tup l => oks l
  | .raw _ => False
  | .cls _ _ => False
  | .dct _ _ => False
  | _ => True
def oks : List Dt → Prop
  | [] => True
  | d :: ds => okD d ∧ oks ds
end
mutual
def depD : Dt → Nat
  | .lst l => deps l + 1
  | .tup l => deps l + 1
  | _ => 0
def deps : List Dt → Nat
  | [] => 0
  | d :: ds => max (depD d) (deps ds)
end
mutual
def costD : Dt → Nat
  | .non => 4
  | .bl _ => 5
  | .int _ => 2000
  | .str s => (reprText s).length
  | .lst l => costs l + 3
  | .tup l => costs l + 3
  | .raw _ => 0
  | .cls _ _ => 0
  | .dct _ _ => 0
def costs : List Dt → Nat
  | [] => 0
  | d :: ds => costD d + 2 + costs ds
end
mutual
theorem okD_p : ∀ {d : Dt}, okD d → ∃ p, toP d = some p ∧ p.showable = true ∧ p.hasDict = false ∧ p.canLay0 = true ∧ p.depth = depD d ∧ p.shown.length ≤ costD d
  | .non, _ => ⟨_, rfl, by simp only [PyData.showable], by simp only [PyData.hasDict], by simp only [PyData.canLay0], by simp only [PyData.depth, depD], by simp only [PyData.shown]; decide⟩
  | .bl b, _ => ⟨_, rfl, by simp only [PyData.showable], by simp only [PyData.hasDict], by simp only [PyData.canLay0], by simp only [PyData.depth, depD], by simp only [PyData.shown]; cases b <;> decide⟩
  | .int i, h => by
    have h : i.natAbs.log2 < 1920 := by simpa only [okD] using h
    refine ⟨_, rfl, ?_, by simp only [PyData.hasDict], by simp only [PyData.canLay0], by simp only [PyData.depth, depD], ?_⟩
    · simp only [PyData.showable]
      exact decide_eq_true h
    · simp only [PyData.shown, costD]
      have l1 := int_text_length_le (k := 1920) (by decide) h
      have k1 : (Str.ofString (toString i)).length = (toString i).length := ofString_length _
      rw [k1]
      omega
  | .str s, h => by
    have h : PyData.strOk s = true := by simpa only [okD] using h
    refine ⟨_, rfl, by simp only [PyData.showable], by simp only [PyData.hasDict], ?_, by simp only [PyData.depth, depD], ?_⟩
    · simp only [PyData.canLay0]
      exact h
    · simp only [PyData.shown, costD]
      exact Nat.le_refl _
  | .lst l, h => by
    obtain ⟨ps, e, k1, k2, k3, k4, k5, k6⟩ := oks_p (show oks l by simpa only [okD] using h)
    refine ⟨.list ps, by show (toPs l).map PyData.list = _; rw [e]; rfl, ?_, ?_, ?_, ?_, ?_⟩
    · simp only [PyData.showable]; exact k1
    · simp only [PyData.hasDict]; exact k2
    · simp only [PyData.canLay0]; exact k3
    · simp only [PyData.depth, depD]; rw [k4]
    · simp only [PyData.shown, costD]
      have := PySem.listText_len_le (PyData.shownAll ps)
      omega
  | .tup l, h => by
    obtain ⟨ps, e, k1, k2, k3, k4, k5, k6⟩ := oks_p (show oks l by simpa only [okD] using h)
    refine ⟨.tuple ps, by show (toPs l).map PyData.tuple = _; rw [e]; rfl, ?_, ?_, ?_, ?_, ?_⟩
    · simp only [PyData.showable]; exact k1
    · simp only [PyData.hasDict]; exact k2
    · simp only [PyData.canLay0]; exact k3
    · simp only [PyData.depth, depD]; rw [k4]
    · simp only [PyData.shown, costD]
      have := PySem.tupleText_len_le (PyData.shownAll ps)
      omega
  | .raw _, h => by simp only [okD] at h
  | .dct _ _, h => by simp only [okD] at h
  | .cls _ _, h => by simp only [okD] at h
theorem oks_p : ∀ {l : List Dt}, oks l → ∃ ps, toPs l = some ps ∧ PyData.showableAll ps = true ∧ PyData.hasDictAll ps = false ∧ PyData.canLayAll0 ps = true ∧ PyData.depthAll ps = deps l ∧ ((PyData.shownAll ps).map (·.length)).sum + 2 * (PyData.shownAll ps).length ≤ costs l ∧ ps.length = l.length
  | [], _ => ⟨[], rfl, by simp only [PyData.showableAll], by simp only [PyData.hasDictAll], by simp only [PyData.canLayAll0], by simp only [PyData.depthAll, deps], by simp only [PyData.shownAll]; exact Nat.zero_le _, rfl⟩
  | d :: ds, h => by
    obtain ⟨h1, h2⟩ := (show okD d ∧ oks ds by simpa only [oks] using h)
    obtain ⟨p, e, k1, k2, k3, k4, k5⟩ := okD_p h1
    obtain ⟨ps, e', j1, j2, j3, j4, j5, j6⟩ := oks_p h2
    refine ⟨p :: ps, by unfold toPs; rw [e, e'], ?_, ?_, ?_, ?_, ?_, ?_⟩
    · simp only [PyData.showableAll, k1, j1, Bool.and_self]
    · simp only [PyData.hasDictAll, k2, j2, Bool.or_self]
    · simp only [PyData.canLayAll0, k3, j3, Bool.and_self]
    · simp only [PyData.depthAll, deps, k4, j4]
    · simp only [PyData.shownAll, costs, List.map_cons, List.sum_cons, List.length_cons]
      omega
    · rw [List.length_cons, List.length_cons, j6]
end
theorem shw_ok {d : Dt} (h : okD d) (h1 : depD d ≤ 60) (h2 : costD d ≤ 16777216) : ∃ s, shw d = some s := by
  obtain ⟨p, e, k1, k2, k3, k4, k5⟩ := okD_p h
  refine ⟨p.shown, ?_⟩
  have e4 : sizeLine = 16777216 := by decide
  unfold shw
  rw [e]
  show (if _ then _ else _) = _
  rw [k1, k2, decide_eq_true (show p.depth ≤ 60 by omega), decide_eq_true (show p.shown.length ≤ sizeLine by rw [e4]; omega)]
  rfl
theorem repr_ok {d : Dt} (h : okD d) (h1 : depD d ≤ 60) (h2 : costD d ≤ 16777216) : ∃ s, ∀ (ρ : DEnv) (θ : Pot) (Q : Dt → Pot → Prop), Gv (opt (gRepr [d]) ρ θ) Q = Q (.str s) θ := by
  obtain ⟨s, e⟩ := shw_ok h h1 h2
  refine ⟨s, fun ρ θ Q => ?_⟩
  show Gv (opt ((shw d).map Dt.str) ρ θ) Q = _
  rw [e]
  rfl
theorem deq_refl {d : Dt} (h : okD d) (h1 : depD d ≤ 64) : deq d d = some true := by
  obtain ⟨p, e, k1, k2, k3, k4, k5⟩ := okD_p h
  have s : SeqAt.shaped p = true := by
    show (p.canLay0 && decide (p.depth ≤ 64)) = true
    rw [k3, decide_eq_true (by omega)]
    rfl
  unfold deq
  rw [e]
  show (if (SeqAt.shaped p && SeqAt.shaped p) = true then some (PyData.eqv p p) else none) = some true
  rw [s, SeqAt.eqv_refl p k3]
  rfl
section
variable {ρ : DEnv} {θ : Pot}
/-- each element is worked out without a change of the pot -/
theorem cmap {α : Type} {T : Tgt} {vs : List Nat} {elt : M Dt} {Q : List Dt → Pot → Prop} {g f : α → Dt} : ∀ (l : List α), (∀ a ∈ l, cmpR (bindT T (g a) (wipeD (hide ρ) vs)) fun ρ1 => Gv (elt ρ1 θ) fun d θ' => d = f a ∧ θ' = θ) → Q (l.map f) θ → Gv (compGo T vs tt1 elt (l.map g) ρ θ) Q
  | [], _, q => q
  | a :: l, h, q => by
    have ha := h a List.mem_cons_self
    rw [List.map_cons, gv_comp1]
    cases e : bindT T (g a) (wipeD (hide ρ) vs) with
    | none => rw [e] at ha; exact ha.elim
    | some ρ1 =>
      rw [e] at ha
      rw [cmpR_s, cmpK1_a, gv_tt1]
      show Gv (elt ρ1 θ) (cmpK2 T vs tt1 elt (l.map g) ρ Q)
      refine ha.imp ?_
      rintro d1 θ1 ⟨e1, e2⟩
      rw [cmpK2_a, e1, e2]
      exact cmap (Q := consK2 (f a) Q) l (fun b hb => h b (List.mem_cons_of_mem _ hb)) q
theorem boolsOf_map {α : Type} (p : α → Bool) : ∀ l : List α, boolsOf (l.map fun a => Dt.bl (p a)) = some (l.map p)
  | [] => rfl
  | a :: l => by
    show (boolsOf (l.map fun a => Dt.bl (p a))).map (p a :: ·) = _
    rw [boolsOf_map p l]
    rfl
theorem intsOf_map {α : Type} (p : α → Int) : ∀ l : List α, intsOf (l.map fun a => Dt.int (p a)) = some (l.map p)
  | [] => rfl
  | a :: l => by
    show (intsOf (l.map fun a => Dt.int (p a))).map (p a :: ·) = _
    rw [intsOf_map p l]
    rfl
theorem gv_allM {α : Type} (p : α → Bool) (l : List α) {Q : Dt → Pot → Prop} : Gv (opt (gAll [.lst (l.map fun a => Dt.bl (p a))]) ρ θ) Q = Q (.bl (l.all p)) θ := by
  have e : gAll [.lst (l.map fun a => Dt.bl (p a))] = some (.bl (l.all p)) := by
    show (boolsOf (l.map fun a => Dt.bl (p a))).map (fun ns => Dt.bl (ns.all id)) = _
    rw [boolsOf_map]
    show some (Dt.bl _) = _
    rw [List.all_map]
    rfl
  rw [e]
  rfl
theorem gv_maxM {α : Type} (p : α → Int) (l : List α) (h : l ≠ []) {Q : Dt → Pot → Prop} : Gv (opt (gMax [.lst (l.map fun a => Dt.int (p a))]) ρ θ) Q = Q (.int (maxI (l.map p))) θ := by
  have e : gMax [.lst (l.map fun a => Dt.int (p a))] = some (.int (maxI (l.map p))) := by
    show (intsOf (l.map fun a => Dt.int (p a))).bind (fun ns => if ns.isEmpty then none else some (Dt.int (maxI ns))) = _
    rw [intsOf_map]
    cases l with
    | nil => exact absurd rfl h
    | cons a l => rfl
  rw [e]
  rfl
end
end Pd



namespace Pd
open PySem PySem.Spec PyProof.Rows L2
variable [Pd.LamTab]
section
variable {prog : Program} {w : World} {A : Around} {E : Value → Shared → Prop} {s : Shared} {x y : Addr}
def IsFn (h : Heap) (x : Addr) : Prop := ∃ o, h.get? x = some o ∧ o.cls = .type "function"
theorem IsFn.ty {x : Addr} (h : IsFn s.heap x) : s.TypeIs (.ref x) "function" := by
  obtain ⟨o, h1, h2⟩ := h
  exact ⟨o, h1, h2⟩
end
/-- defs compared: those of a list -/
def gEqF (l : List Addr) : Dt → Dt → Option Dt
  | .raw (.ref a), .raw (.ref b) => if (l.contains a && l.contains b) = true then some (.bl (decide (a = b))) else none
  | _, _ => none
section
variable {X : Cx} {F : Fr0} {W : WX} {pos p : Pos} {x : Str} {e : Expr} {es : List Expr}
/-- a call of a local name that holds one of these defs -/
def mCallV (tab : List (Addr × Mir)) (i : Nat) (ml : M (List Ent)) : M Dt := fun ρ θ => match ρ[i]? with
  | some (some (.dat (.raw (.ref a)))) => match tab.lookup a with
    | some m => bnd ml (fun l => callD m l) ρ θ
    | none => .bad
  | _ => .bad
structure HeldD (P : Program) (w : World) (K : PySem.W.Frag) (mg : Str → Option Value) (base : Heap) (k n : Nat) (a : Addr) (m : Mir) : Prop where
  ex : ∃ (fd : FuncData) (ps : List Str), FnP P w K mg base k a fd ps m ∧ PySem.W.keepIn K (.ref a) = true ∧ ps.length = n ∧ ∀ (s : Shared) (us : List Value), K.In s.heap → us.length = n → BindsTo s fd ⟨us, []⟩ (ps.zip us)
end
def exFn (K : PySem.W.Frag) (x : Str) : Bool := match PySem.W.nsIn K mainGlobals x with
  | some (some (.ref a)) => decide (PySem.W.typeIn K (.ref a) = some (.type "function"))
  | _ => false
def exNe (K : PySem.W.Frag) (x y : Str) : Bool := decide (PySem.W.nsIn K mainGlobals x ≠ PySem.W.nsIn K mainGlobals y)
/-- a def with defaults; the parameters from positional values, keywords, the last defaults -/
theorem btG {K : PySem.W.Frag} {x qual : Str} {params : Arguments} {body : List Stmt} {scope : Scope} {dvs : List V} {kws : List (Str × V)} {f : Addr} {fd : FuncData} {ps ks : List Str} {is : List Nat} (D : FunD K x qual params body scope dvs kws f fd) (n j : Nat) (hd : dvs ≠ [])
    (h : ∀ (T : Addr) (kV doc pm : Value) (an : Option Addr) (cdv ct : Value) (us ws its : List Value), us.length = n → ws.length = ks.length → its.length = dvs.length →
      ∃ k, bindArgs (PySem.W.fnOf x qual params body scope (.ref T) kV doc pm an cdv ct) ⟨us, ks.zip ws⟩ = seqItems? (.ref T) >>= k ∧ k (some its.toArray) = pure (ps.zip (pick is (us ++ (ws ++ its.drop j))))) : ∃ ds, Vals (dvs.drop j) ds ∧ Bt K fd ps n ks ds is := by
  obtain ⟨oc, od, dV, kV, doc, pm, an, cdv, ct, osl, rfl, lk, hcd, hD, hK⟩ := D.ex
  rcases hD with ⟨e, _⟩ | ⟨_, T, o, its, m, rfl, lT, oT, rT⟩
  · exact absurd e hd
  · refine ⟨its.drop j, rT.drop j, fun s us ws X l2 l3 => ?_⟩
    obtain ⟨k, e1, e2⟩ := h T kV doc pm an cdv ct us ws its l2 l3 rT.length.symm
    refine BindsTo.of_looks fun M => ?_
    rw [e1]
    exact looks_items X lT oT (.of_pure e2)
theorem FnP.up {P : Program} {w : World} {K : PySem.W.Frag} {mg : Str → Option Value} {base : Heap} {k k' : Nat} {f : Addr} {fd : FuncData} {ps : List Str} {m : Mir} (h : FnP P w K mg base k f fd ps m) (hk : k ≤ k') : FnP P w K mg base k' f fd ps m :=
  ⟨fun A outer s H args us vs Q E hr hg e0 hbd r hsp => h.run A outer s H args us vs Q E (hr.mono hk) hg e0 hbd r hsp⟩
section
variable {ρ : DEnv} {θ : Pot}
def cvK (m : Mir) (Q : Dt → Pot → Prop) : List Ent → Pot → Prop := fun l θ => Gv (m l θ) (rdK Q)
def cvR (tab : List (Addr × Mir)) (ml : M (List Ent)) (x : Option (Option Ent)) (ρ : DEnv) (θ : Pot) (Q : Dt → Pot → Prop) : Prop := match x with
  | some (some (.dat (.raw (.ref a)))) => match tab.lookup a with
    | some m => Gv (ml ρ θ) (cvK m Q)
    | none => False
  | _ => False
end
end Pd



namespace Pd
open PySem PySem.Spec PyProof.Rows L2
variable [Pd.LamTab]
def frzE1 : Option Ent → Option Ent
  | some (.own l) => some (.dat (.lst l))
  | x => x
def frzAll (ρ : DEnv) : DEnv := ρ.map frzE1
def flatD : Dt → Bool
  | .non => true
  | .bl _ => true
  | .int _ => true
  | .str _ => true
  | _ => false
/-- no dict of one's own -/
def noDic : DEnv → Bool
  | [] => true
  | some (.dic _ _ _) :: _ => false
  | _ :: ρ => noDic ρ
def mLend (m : M Dt) : M Dt := fun ρ θ => if noDic ρ = true then (match m (frzAll ρ) θ with
  | .ok d θ' => if flatD d = true then .ok d θ' else .bad
  | _ => .bad) else .bad
section
variable {X : Cx} {F : Fr0} {W : WX} {a b c e : Expr} {pos : Pos}
def mIt (i : Nat) (mb : M Dt) (d : Dt) : M Out := fun ρ θ => match ρ[i]? with
  | some (some (.own l)) => bnd mb (fun k ρ θ => match k with
    | .int j => match ixN l.length j with
      | some n => .ok (.next (ρ.set i (some (.own (l.set n d))))) θ
      | none => .bad
    | _ => .bad) ρ θ
  | _ => .bad
def mSetI2 (i : Nat) (mb mc ma : M Dt) : M Out := bnd ma fun d => match d with
  | .tup [d1, d2] => bnd (mIt i mb d1) fun o => fun _ θ => match o with
    | .next ρ' => mIt i mc d2 ρ' θ
    | _ => .bad
  | _ => bad
def gRepT : Dt → Dt → Option Dt
  | .tup l, .int k => if (decide (l ≠ [] ∧ 2 ≤ k ∧ k ≤ 1000 ∧ l.length ≤ 1000)) = true then some (.tup (List.replicate k.toNat l).flatten) else none
  | _, _ => none
end
section
variable {X : Cx} {F : Fr0} {W : WX}
def gMul2 (a b : Dt) : Option Dt := (gMul a b).or (gRepT a b)
end
section
variable {ρ : DEnv} {θ : Pot}
theorem frzAll_nil : frzAll [] = [] := rfl
theorem frzAll_cons (x : Option Ent) (ρ : DEnv) : frzAll (x :: ρ) = frzE1 x :: frzAll ρ := rfl
theorem frzE1_o (l : List Dt) : frzE1 (some (.own l)) = some (.dat (.lst l)) := rfl
theorem frzE1_d (d : Dt) : frzE1 (some (.dat d)) = some (.dat d) := rfl
theorem frzE1_p : frzE1 (some .pot) = some .pot := rfl
theorem frzE1_n : frzE1 none = none := rfl
def lendK (Q : Dt → Pot → Prop) : Dt → Pot → Prop := fun d θ => flatD d = true ∧ Q d θ
theorem noDic_nil : noDic [] = true := rfl
theorem noDic_n (ρ : DEnv) : noDic (none :: ρ) = noDic ρ := rfl
theorem noDic_d (d : Dt) (ρ : DEnv) : noDic (some (.dat d) :: ρ) = noDic ρ := rfl
theorem noDic_o (l : List Dt) (ρ : DEnv) : noDic (some (.own l) :: ρ) = noDic ρ := rfl
theorem noDic_p (ρ : DEnv) : noDic (some .pot :: ρ) = noDic ρ := rfl
theorem noDic_op (ks : List Nat) (ρ : DEnv) : noDic (some (.opn ks) :: ρ) = noDic ρ := rfl
theorem gv_lend (m : M Dt) {Q : Dt → Pot → Prop} : Gv (mLend m ρ θ) Q = (noDic ρ = true ∧ Gv (m (frzAll ρ) θ) (lendK Q)) := by
  unfold mLend
  by_cases nd : noDic ρ = true
  case neg => rw [if_neg nd]; exact propext ⟨fun h => h.elim, fun h => absurd h.1 nd⟩
  rw [if_pos nd]
  have un : ∀ p : Prop, (noDic ρ = true ∧ p) = p := fun p => propext ⟨fun h => h.2, fun h => ⟨nd, h⟩⟩
  rw [un]
  cases m (frzAll ρ) θ with
  | ok d θ' =>
    show Gv (if flatD d = true then .ok d θ' else .bad) Q = (flatD d = true ∧ Q d θ')
    rw [if_gv]
    rfl
  | exn e ρ' θ' => rfl
  | bad => rfl
theorem lendK_n {Q : Dt → Pot → Prop} : lendK Q .non θ = Q .non θ := propext ⟨fun h => h.2, fun h => ⟨rfl, h⟩⟩
theorem lendK_b (b : Bool) {Q : Dt → Pot → Prop} : lendK Q (.bl b) θ = Q (.bl b) θ := propext ⟨fun h => h.2, fun h => ⟨rfl, h⟩⟩
theorem lendK_i (i : Int) {Q : Dt → Pot → Prop} : lendK Q (.int i) θ = Q (.int i) θ := propext ⟨fun h => h.2, fun h => ⟨rfl, h⟩⟩
theorem lendK_s (x : Str) {Q : Dt → Pot → Prop} : lendK Q (.str x) θ = Q (.str x) θ := propext ⟨fun h => h.2, fun h => ⟨rfl, h⟩⟩
def itOK (l : List Dt) (ρ : DEnv) (Q : Dt → Pot → Prop) : Dt → Pot → Prop := fun k θ => Gv (opt (gIx (.lst l) k) ρ θ) Q
theorem gv_itO (i : Nat) (mb : M Dt) {Q : Dt → Pot → Prop} : Gv (mIxO i mb ρ θ) Q = ownK ρ[i]? fun l => Gv (mb ρ θ) (itOK l ρ Q) := by
  unfold mIxO
  rcases ρ[i]? with _ | _ | _ | _ | _ <;> try rfl
  show Gv (bnd mb _ ρ θ) Q = _
  rw [gv_bnd]
  rfl
theorem itOK_a (l : List Dt) (d : Dt) {Q : Dt → Pot → Prop} : itOK l ρ Q d θ = Gv (opt (gIx (.lst l) d) ρ θ) Q := rfl
def stK (i : Nat) (l : List Dt) (d : Dt) (ρ : DEnv) (Q : Out → Pot → Prop) : Dt → Pot → Prop := fun k θ => match k with
  | .int j => match ixN l.length j with
    | some n => Q (.next (ρ.set i (some (.own (l.set n d))))) θ
    | none => False
  | _ => False
theorem gv_it (i : Nat) (mb : M Dt) (d : Dt) {Q : Out → Pot → Prop} : Gv (mIt i mb d ρ θ) Q = ownK ρ[i]? fun l => Gv (mb ρ θ) (stK i l d ρ Q) := by
  unfold mIt
  rcases ρ[i]? with _ | _ | _ | _ | _ <;> try rfl
  rename_i l
  show Gv (bnd mb _ ρ θ) Q = Gv (mb ρ θ) (stK i l d ρ Q)
  rw [gv_bnd]
  refine congrArg (Gv (mb ρ θ)) ?_
  funext k θ1
  cases k with
  | int j =>
    show Gv (match ixN l.length j with
      | some n => Res.ok (.next (ρ.set i (some (.own (l.set n d))))) θ1
      | none => .bad) Q = match ixN l.length j with
      | some n => Q (.next (ρ.set i (some (.own (l.set n d))))) θ1
      | none => False
    cases ixN l.length j <;> rfl
  | _ => rfl
def siK (i : Nat) (mb : M Dt) (ρ : DEnv) (Q : Out → Pot → Prop) : Dt → Pot → Prop := fun d θ => Gv (mIt i mb d ρ θ) Q
theorem mSetI_it (i : Nat) (mb ma : M Dt) : mSetI i mb ma = bnd ma fun d => mIt i mb d := rfl
theorem gv_setI (i : Nat) (mb ma : M Dt) {Q : Out → Pot → Prop} : Gv (mSetI i mb ma ρ θ) Q = Gv (ma ρ θ) (siK i mb ρ Q) := by
  rw [mSetI_it, gv_bnd]
  rfl
theorem siK_a (i : Nat) (mb : M Dt) (d : Dt) {Q : Out → Pot → Prop} : siK i mb ρ Q d θ = ownK ρ[i]? fun l => Gv (mb ρ θ) (stK i l d ρ Q) := gv_it i mb d
def si2L (i : Nat) (mc : M Dt) (d2 : Dt) (Q : Out → Pot → Prop) : Out → Pot → Prop := fun o θ => match o with
  | .next ρ' => Gv (mIt i mc d2 ρ' θ) Q
  | _ => False
theorem si2L_n (i : Nat) (mc : M Dt) (d2 : Dt) (ρ' : DEnv) {Q : Out → Pot → Prop} : si2L i mc d2 Q (.next ρ') θ = ownK ρ'[i]? fun l => Gv (mc ρ' θ) (stK i l d2 ρ' Q) := gv_it i mc d2
def si2K (i : Nat) (mb mc : M Dt) (ρ : DEnv) (Q : Out → Pot → Prop) : Dt → Pot → Prop := fun d θ => match d with
  | .tup [d1, d2] => ownK ρ[i]? fun l => Gv (mb ρ θ) (stK i l d1 ρ (si2L i mc d2 Q))
  | _ => False
theorem si2K_a (i : Nat) (mb mc : M Dt) (d1 d2 : Dt) {Q : Out → Pot → Prop} : si2K i mb mc ρ Q (.tup [d1, d2]) θ = ownK ρ[i]? fun l => Gv (mb ρ θ) (stK i l d1 ρ (si2L i mc d2 Q)) := rfl
theorem gv_setI2 (i : Nat) (mb mc ma : M Dt) {Q : Out → Pot → Prop} : Gv (mSetI2 i mb mc ma ρ θ) Q = Gv (ma ρ θ) (si2K i mb mc ρ Q) := by
  unfold mSetI2
  rw [gv_bnd]
  refine congrArg (Gv (ma ρ θ)) ?_
  funext d θ1
  unfold si2K
  split
  · rename_i d1 d2
    rw [gv_bnd, gv_it]
    refine congrArg (ownK ρ[i]?) ?_
    funext l
    refine congrArg (Gv (mb ρ θ1)) ?_
    refine congrArg (stK i l d1 ρ) ?_
    funext o θ2
    cases o <;> rfl
  · rfl
theorem mul2_i (i j : Int) {Q : Dt → Pot → Prop} : Gv (opt (gMul2 (.int i) (.int j)) ρ θ) Q = ((small i && small j) = true ∧ Q (.int (i * j)) θ) := by
  by_cases h : (small i && small j) = true
  · have e : gMul2 (.int i) (.int j) = some (.int (i * j)) := by
      unfold gMul2 gMul gI
      simp only [h, if_true]
      rfl
    rw [e, gv_opt]
    exact propext ⟨fun q => ⟨h, q⟩, fun q => q.2⟩
  · have e : gMul2 (.int i) (.int j) = none := by
      unfold gMul2 gMul gI
      simp only [h]
      rfl
    rw [e]
    exact propext ⟨fun q => q.elim, fun q => absurd q.1 h⟩
theorem mul2_t (l : List Dt) (k : Int) {Q : Dt → Pot → Prop} : Gv (opt (gMul2 (.tup l) (.int k)) ρ θ) Q = (decide (l ≠ [] ∧ 2 ≤ k ∧ k ≤ 1000 ∧ l.length ≤ 1000) = true ∧ Q (.tup (List.replicate k.toNat l).flatten) θ) := by
  show Gv (opt (if (decide (l ≠ [] ∧ 2 ≤ k ∧ k ≤ 1000 ∧ l.length ≤ 1000)) = true then some (.tup (List.replicate k.toNat l).flatten) else none) ρ θ) Q = _
  by_cases h : decide (l ≠ [] ∧ 2 ≤ k ∧ k ≤ 1000 ∧ l.length ≤ 1000) = true
  · rw [if_pos h, gv_opt]
    exact propext ⟨fun q => ⟨h, q⟩, fun q => q.2⟩
  · rw [if_neg h]
    exact propext ⟨fun q => q.elim, fun q => absurd q.1 h⟩
end
end Pd



namespace Pd
open PySem PySem.Spec PyProof.Rows L2
variable [Pd.LamTab]
theorem meets_enum_tup (t : Addr) (items : Array Value) : Meets (Builtin.«enumerate.__new__» { pos := [Value.type "enumerate", .ref t] }) fun x R s => s.heap.IsTuple t items ∧ R (.ok (.ret (.ref (s.heap.push { cls := Value.type "tuple_iterator", data := Data.fields #[Value.ref t, Value.int 0 0] }).objs.size))) { s with heap := (s.heap.push { cls := Value.type "tuple_iterator", data := Data.fields #[Value.ref t, Value.int 0 0] }).push { cls := Value.type "enumerate", data := Data.fields #[Value.none, Value.bool false, Value.ref s.heap.objs.size, rawInt 0, Value.none, Value.none] } } := by
  refine Meets.of_wp fun prog w A R s h => ?_
  obtain ⟨ht, hR⟩ := h
  have fin : ∀ (Q : PySem.Fin → Shared → Prop) (E : Value → Shared → Prop), (∀ v s', R (.ok (.ret v)) s' → Q (.done (.ret v)) s') → wpAny (model prog w) A.in1 (do
      let l1 ← pyIter (.ref t)
      let l2 ← Builtin.SmallTypes.newRecord (.type "enumerate") (Builtin.SmallTypes.ownedTupleFields ++ [l1, rawInt 0, .none, .none])
      PySem.ret l2) Q E s := fun Q E hQ => by
    refine wpAny_bind (wpAny_pyIter_tuple ht ?_)
    obtain ⟨hp, g, d, tk, os⟩ := s
    show wpAny _ _ (newObj (.type "enumerate") (Data.fields #[.none, .bool false, .ref hp.objs.size, rawInt 0, .none, .none]) >>= fun l2 => PySem.ret l2) Q E _
    refine wpAny_bind ?_
    unfold newObj newObjAsIs
    refine wpAny_bind (wpAny_alloc' ?_)
    refine wpAny_pure ?_
    exact wpAny_pure (hQ _ _ hR)
  unfold Builtin.«enumerate.__new__»
  refine wpAny_bind ?_
  rw [show Builtin.SmallTypes.newClass "enumerate" { pos := [Value.type "enumerate", .ref t] } = pure (Value.type "enumerate", [.ref t]) from rfl]
  refine wpAny_pure ?_
  dsimp only
  refine wpAny_ite_true (by rfl) ?_
  refine wpAny_bind ?_
  unfold Builtin.SmallTypes.calledThroughType
  refine wpAny_bind (wpAny_stack_any fun st => wpAny_pure ?_)
  have fin2 : wpAny (model prog w) A.in1 (do
      let l1 ← pyIter (.ref t)
      let l2 ← Builtin.SmallTypes.newRecord (.type "enumerate") (Builtin.SmallTypes.ownedTupleFields ++ [l1, rawInt 0, .none, .none])
      PySem.ret l2) (fun fin s' => ∃ v, fin = Fin.done (Flow.ret v) ∧ R (Except.ok (Flow.ret v)) s') (fun e s' => R (Except.error e) s') s := fin _ _ fun v s' h => ⟨v, rfl, h⟩
  split
  · split
    · refine wpAny_bind (wpAny_of_eq (a := (Value.ref t, none)) rfl ?_)
      exact fin2
    · refine wpAny_bind (wpAny_of_eq (a := (Value.ref t, none)) rfl ?_)
      exact fin2
  · split
    · refine wpAny_bind (wpAny_of_eq (a := (Value.ref t, none)) rfl ?_)
      exact fin2
    · refine wpAny_bind (wpAny_of_eq (a := (Value.ref t, none)) rfl ?_)
      exact fin2
theorem call_enum_tup {prog : Program} {w : World} {A : Around} {E : Value → Shared → Prop} {s : Shared} {l : Addr} {items : Array Value} {Q : Value → Shared → Prop} (hl : s.heap.IsTuple l items)
    (k : ∀ h' : Heap, IsEnum h' (s.heap.objs.size + 1) s.heap.objs.size 0 Value.none → h'.IsTupleIter s.heap.objs.size l 0 → h'.objs.size = s.heap.objs.size + 2 → (∀ (b : Addr) (o : Obj), s.heap.get? b = some o → h'.get? b = some o) → Q (.ref (s.heap.objs.size + 1)) { s with heap := h' }) :
    wpAny (model prog w) A (call (.type "enumerate") [.ref l]) Q E s := by
  refine callType_new F.called_enumerate (by decide) (F.typeCall_enumerate_1 _) (F.newCall_enumerate_1 _) (fun _ => F.args_object_init_2 _ _) F.entry_enumerate_new (meets_enum_tup l items) ⟨hl, ?_⟩
  have e1 : (s.heap.push { cls := Value.type "tuple_iterator", data := Data.fields #[Value.ref l, Value.int 0 0] }).objs.size = s.heap.objs.size + 1 := Heap.size_push ..
  have g1 : ((s.heap.push { cls := Value.type "tuple_iterator", data := Data.fields #[Value.ref l, Value.int 0 0] }).push { cls := Value.type "enumerate", data := Data.fields #[Value.none, Value.bool false, Value.ref s.heap.objs.size, rawInt 0, Value.none, Value.none] }).get? (s.heap.objs.size + 1) = some { cls := Value.type "enumerate", data := Data.fields #[Value.none, Value.bool false, Value.ref s.heap.objs.size, rawInt 0, Value.none, Value.none] } := by
    rw [← e1]
    exact Heap.get?_push_size _ rfl
  have g0 : ((s.heap.push { cls := Value.type "tuple_iterator", data := Data.fields #[Value.ref l, Value.int 0 0] }).push { cls := Value.type "enumerate", data := Data.fields #[Value.none, Value.bool false, Value.ref s.heap.objs.size, rawInt 0, Value.none, Value.none] }).get? s.heap.objs.size = some { cls := Value.type "tuple_iterator", data := Data.fields #[Value.ref l, Value.int 0 0] } := Heap.get?_push_of_some _ (Heap.get?_push_size _ rfl)
  refine ⟨⟨_, (by rw [e1]; exact g1), rfl⟩, ?_⟩
  rw [e1]
  exact k _ g1 ⟨_, g0, rfl, rfl⟩ (by rw [Heap.size_push, e1]) fun b o h => Heap.get?_push_of_some _ (Heap.get?_push_of_some _ h)

def IteT (K : PySem.W.Frag) (a : Addr) : It where
  go := fun i H => ∃ xs x, SqT K H a xs ∧ xs[i]? = some x
  yld := fun i H v H' => ∃ T x, v = V.ref T ∧ H T = none ∧ H' = upd H T (HO.tup [V.int i, x]) ∧ ∀ xs : List V, SqT K H a xs → xs[i]? = some x
  stop := fun i H => ∃ xs, SqT K H a xs ∧ xs.length ≤ i
theorem draws_end {prog : Program} {w : World} {A : Around} (hh : A.handled = none) (it l : Addr) (items : Array Value) (n : Nat) (hn : items.size ≤ n) :
    Draws prog w A it [it, l] n (fun _ _ => False) (fun i h => i = n ∧ h.IsTupleIter it l i ∧ h.IsTuple l items) where
  live := fun _ _ st => by obtain ⟨_, ⟨o, ho, _⟩, _⟩ := st; exact ⟨o, ho⟩
  frame := fun _ _ _ st hk => ⟨st.1, by
    obtain ⟨o, ho, r⟩ := st.2.1
    exact ⟨o, hk it (by simp) o ho, r⟩, by
    obtain ⟨o, ho, r⟩ := st.2.2
    exact ⟨o, hk l (by simp) o ho, r⟩⟩
  item := fun i s Q E hi st hQ => absurd st.1 (Nat.ne_of_lt hi)
  done := fun s Q E st hE => by
    refine RZ.nextOf_tuple_end hh st.2.1 st.2.2 (by simpa using hn) fun h' e hq he => ?_
    exact hE h' e hq he
theorem turn_enumT {P : Program} {w : World} {K : PySem.W.Frag} {elts : List Expr} {kk : Nat} {tpos : Pos} (a e it : Addr) :
    Turn P w K (.Tuple elts kk tpos) (IteT K a) [e, it] e (fun i h => (∃ old, IsEnum h e it (i : Int) old) ∧ h.IsTupleIter it a i ∧ e ≠ it) where
  mem := List.mem_cons_self
  obj := fun i h tn b hb => by
    obtain ⟨⟨old, h1⟩, ⟨o, ho, hc, hd⟩, ne⟩ := tn
    simp only [List.mem_cons, List.not_mem_nil, or_false] at hb
    rcases hb with rfl | rfl
    · exact ⟨_, h1, fun v z => by cases z⟩
    · exact ⟨o, ho, fun v z => by rw [hd] at z; cases z⟩
  keep := fun i h h' tn k => by
    obtain ⟨⟨old, h1⟩, ⟨o, ho, r⟩, ne⟩ := tn
    exact ⟨⟨old, k e (by simp) _ h1⟩, ⟨o, k it (by simp) _ ho, r⟩, ne⟩
  item := by
    rintro X rfl rfl rfl hc i pins s σ H E I fp ⟨⟨old, h1⟩, h2, ne⟩ ⟨xs, x, hq, hx⟩
    obtain ⟨its, rv, p1, z1⟩ := I.tuple hq
    have pa : s.heap.IsTuple a its.toArray := p1
    have hh : X.A.handled = none := I.ok.hd hc
    obtain ⟨u, hu, ru⟩ := rv.get hx
    have li : i < its.toArray.size := by
      have := (List.getElem?_eq_some_iff.mp hu).1
      simpa using this
    have ai : a ≠ it := fun z => by
      subst z
      obtain ⟨o, ho, c1, _⟩ := pa
      obtain ⟨o', ho', c2, _⟩ := h2
      rw [ho] at ho'
      cases ho'
      rw [c1] at c2
      exact absurd (Value.type.inj c2) (by decide)
    have ae : a ≠ e := fun z => by
      subst z
      obtain ⟨o, ho, c1, _⟩ := pa
      have h3 : s.heap.get? a = some _ := h1
      rw [ho] at h3
      cases h3
      exact absurd (Value.type.inj c1) (by decide)
    have hfe := fp e (by simp)
    have hfi := fp it (by simp)
    have le : e < s.heap.objs.size := Heap.lt_size h1
    have lit : it < s.heap.objs.size := by
      obtain ⟨o, ho, _⟩ := h2
      exact Heap.lt_size ho
    refine wpAny_pyNext_enum_itemD (draws_tup (show X.A.in1.handled = none from hh) it a ai its.toArray) h1 ⟨h2, pa⟩ li ne (by simp only [List.mem_cons, List.not_mem_nil, or_false]; rintro (z | z); exact ne z; exact ae z.symm) fun x' h' tk px out st' ht hsz hk => ?_
    have ex : x' = u := by
      have q1 : its[i]? = some x' := by simpa using px
      rw [hu] at q1
      exact (Option.some.inj q1).symm
    subst ex
    refine ⟨_, rfl, wpAny_letOwnedTupleGo_enum out fun h'' en sb => ?_⟩
    have ti : h''.IsTupleIter it a (i + 1) := by
      obtain ⟨o, ho, r⟩ := st'.1
      exact ⟨o, sb.extBut _ _ (Ne.symm ne) ho, r⟩
    have tt : h''.get? s.heap.objs.size = some { cls := Value.type "tuple", data := Data.seq #[Value.int (i : Int) tk, x'] } := sb.extBut _ _ (Nat.ne_of_gt le) ht
    refine ⟨.ref s.heap.objs.size, upd H s.heap.objs.size (.tup [.int (i : Int), x]), ?_, rfl, ⟨_, x, rfl, I.hok.fresh (Nat.le_refl _), rfl, fun xs' h => by rw [I.tuple_inj h hq]; exact hx⟩, ⟨⟨_, en⟩, ti, ne⟩, fun b hb => ?_⟩
    · refine I.turnedNew (ch := [e, it]) (fun b o hb ho => ?_) fp (Nat.le_refl _) ⟨by show 2 ≤ sizeLine; decide, [.int (i : Int) tk, x'], .cons ⟨_, rfl⟩ (.cons ru .nil), _, tt, rfl, 0, rfl⟩
      simp only [List.mem_cons, List.not_mem_nil, or_false, not_or] at hb
      exact sb.extBut _ _ hb.1 (hk b o hb.1 hb.2 ho)
    · have : b ≠ s.heap.objs.size := by
        simp only [List.mem_cons, List.not_mem_nil, or_false] at hb
        rcases hb with rfl | rfl
        · exact Nat.ne_of_lt le
        · exact Nat.ne_of_lt lit
      rw [upd_ne this]
      exact (fp b hb).1
  done := by
    rintro X rfl rfl rfl hc i pins s σ H E I fp ⟨⟨old, h1⟩, h2, ne⟩ ⟨xs, hq, hx⟩
    obtain ⟨its, rv, p1, z1⟩ := I.tuple hq
    have pa : s.heap.IsTuple a its.toArray := p1
    have hh : X.A.handled = none := I.ok.hd hc
    have ln := rv.length
    refine wpAny_pyNext_enum_endD (draws_end (show X.A.in1.handled = none from hh) it a its.toArray i (by simpa [← ln] using hx)) h1 ⟨rfl, h2, pa⟩ fun h' hq' => ?_
    refine ⟨rfl, I.turnedL (ch := [e, it]) (fun b o hb ho => ?_) fp⟩
    simp only [List.mem_cons, List.not_mem_nil, or_false, not_or] at hb
    exact hq' _ _ hb.2 ho
  self := fun A i s Q E tn q => by
    obtain ⟨⟨old, h1⟩, _⟩ := tn
    exact wpAny_pyIter_enum h1 q
def iEnumT (K : PySem.W.Frag) (ta : TA) : TI := fun σ H R => ta σ H fun vs H1 => ∃ a xs, vs = [.ref a] ∧ SqT K H1 a xs ∧ R (IteT K a) H1
def iEnumA (K : PySem.W.Frag) (ta : TA) : TI := fun σ H R => ta σ H fun vs H1 => (∃ a xs, vs = [.ref a] ∧ SqL K H1 a xs ∧ R (Ite K a) H1) ∨ (∃ a xs, vs = [.ref a] ∧ SqT K H1 a xs ∧ R (IteT K a) H1)
theorem pi_enumA {X : Cx} {e : Expr} {ta : TA} {p pos tpos : Pos} {elts : List Expr} {kk : Nat} (hg : Gl X "enumerate") (hm : X.mg "enumerate" = none) (ha : PA X [e] ta) (hs : starEach [e] X.env = [(false, eval e X.env)] := by rfl) :
    PI X (.Tuple elts kk tpos) (.Call (.Name "enumerate" p) [e] [] pos) (iEnumA X.K ta) := by
  refine ⟨fun pins s σ H R I h => ?_⟩
  refine Call_ (ld_blt I hg hm (u := .type "enumerate") (by first | rfl | decide +kernel) (PyProof.Rows.callWith_type1 (thn (ha.run pos pins s σ H _ I h) fun us s1 ⟨vs, H1, I1, r1, q1⟩ => ?_) hs rfl))
  rcases q1 with ⟨a, xs, ex, hq, q1⟩ | ⟨a, xs, ex, hq, q1⟩
  · subst ex
    cases r1 with
    | cons r rr =>
      cases rr
      cases r
      obtain ⟨its, rv, p1, z1⟩ := I1.list hq
      refine call_enumerate_list p1.isList fun h' he hi hsz hk => ?_
      refine wpAny_pyIter_enum he ?_
      have I2 := I1.kept (t' := s1.toks) hk
      have n0 : H1 s1.heap.objs.size = none := I1.hok.fresh (Nat.le_refl _)
      have n1 : H1 (s1.heap.objs.size + 1) = none := I1.hok.fresh (Nat.le_succ _)
      refine ⟨_, [s1.heap.objs.size + 1, s1.heap.objs.size], _, Ite X.K a, H1, rfl, I2, turn_enum a _ _, ⟨⟨_, he⟩, hi, Nat.succ_ne_self _⟩, fun b hb => ?_, q1⟩
      simp only [List.mem_cons, List.not_mem_nil, or_false] at hb
      rcases hb with rfl | rfl
      · exact I1.fpOk (Nat.le_succ _) n1
      · exact I1.fpOk (Nat.le_refl _) n0
  · subst ex
    cases r1 with
    | cons r rr =>
      cases rr
      cases r
      obtain ⟨its, rv, p1, z1⟩ := I1.tuple hq
      have pa : s1.heap.IsTuple a its.toArray := p1
      refine call_enum_tup pa fun h' he hi hsz hk => ?_
      refine wpAny_pyIter_enum he ?_
      have I2 := I1.kept (t' := s1.toks) hk
      have n0 : H1 s1.heap.objs.size = none := I1.hok.fresh (Nat.le_refl _)
      have n1 : H1 (s1.heap.objs.size + 1) = none := I1.hok.fresh (Nat.le_succ _)
      refine ⟨_, [s1.heap.objs.size + 1, s1.heap.objs.size], _, IteT X.K a, H1, rfl, I2, turn_enumT a _ _, ⟨⟨_, he⟩, hi, Nat.succ_ne_self _⟩, fun b hb => ?_, q1⟩
      simp only [List.mem_cons, List.not_mem_nil, or_false] at hb
      rcases hb with rfl | rfl
      · exact I1.fpOk (Nat.le_succ _) n1
      · exact I1.fpOk (Nat.le_refl _) n0
theorem itd_enumT {K : PySem.W.Frag} {Hs0 : Hp} {a : Addr} {xs : List V} {l : List Dt} (h1 : SqT K Hs0 a xs) (r1 : Reps K Hs0 l xs) : ItD K (IteT K a) (numbered l) Hs0 where
  go := fun i H Hs hi s1 s2 => by
    rw [numbered_len] at hi
    have e1 := r1.length
    exact ⟨xs, xs[i]'(by omega), sqt_mono (s1.trans s2) h1, List.getElem?_eq_getElem _⟩
  yld := fun i H Hs x H' d e s1 s2 y => by
    obtain ⟨T, u, rfl, nT, rfl, k1⟩ := y
    obtain ⟨dx, f1, rfl⟩ := numbered_at e
    obtain ⟨u', g1, g2⟩ := r1.get f1
    have q1 := k1 xs (sqt_mono (s1.trans s2) h1)
    rw [g1] at q1
    cases q1
    exact ⟨_, Grow.new s2 nT, pair_rep (dx := .int (i : Nat)) (s2.free nT) rfl (Rep.mono s1 dx g2)⟩
  stop := fun H Hs s1 s2 => by
    have e1 := r1.length
    exact ⟨xs, sqt_mono (s1.trans s2) h1, by rw [numbered_len, e1]; exact Nat.le_refl _⟩
def enumOf2 : List Dt → Option (List Dt)
  | [.lst l] => some (numbered l)
  | [.tup l] => some (numbered l)
  | _ => none
def mEnum2 (ml : M (List Dt)) : M (List Dt) := bnd ml fun l => opt (enumOf2 l)
section
variable {X : Cx} {F : Fr0} {W : WX} {a b : Expr} {pos p tpos q : Pos} {elts : List Expr} {kk : Nat}
theorem pid_enum2 {ml : M (List Dt)} (hm : X.mg "enumerate" = none) (ha : PAD X F W [a] ml) (hg : Gl X "enumerate" := by rfl)
    (hs : starEach [a] X.env = [(false, eval a X.env)] := by rfl) : PID X F W (.Tuple elts kk tpos) (.Call (.Name "enumerate" p) [a] [] pos) (mEnum2 ml) := by
  refine pi_imp (pi_enumA hg hm ha hs) fun σ H R h => ?_
  obtain ⟨ρ, θ, Hs, st, h⟩ := h
  refine then_A OkI.anti st h fun xs l H1 Hs1 θ1 s1 st1 r1 h => ?_
  obtain ⟨d, e, qq⟩ := post_opt h
  unfold enumOf2 at e
  split at e
  · rename_i l
    cases e
    obtain ⟨y, r0, er, ⟨a0, xs0, ea, h1, h2⟩, e0⟩ := r1
    subst ea e0 er
    exact Or.inl ⟨a0, xs0, rfl, st1.sub.seq h1, qq _ H1 Hs1 (Same.refl _) st1 (itd_enum h1 h2)⟩
  · rename_i l
    cases e
    obtain ⟨y, r0, er, ⟨a0, xs0, ea, h1, h2⟩, e0⟩ := r1
    subst ea e0 er
    exact Or.inr ⟨a0, xs0, rfl, sqt_mono st1.sub h1, qq _ H1 Hs1 (Same.refl _) st1 (itd_enumT h1 h2)⟩
  · cases e
end
section
variable {ρ : DEnv} {θ : Pot}
theorem gv_enum2 (ml : M (List Dt)) {Q : List Dt → Pot → Prop} : Gv (mEnum2 ml ρ θ) Q = Gv (ml ρ θ) (optK enumOf2 ρ Q) := by
  unfold mEnum2
  rw [gv_bnd]
  rfl
theorem enumOf2_l (l : List Dt) {Q : List Dt → Pot → Prop} : Gv (opt (enumOf2 [.lst l]) ρ θ) Q = Q (numbered l) θ := rfl
theorem enumOf2_t (l : List Dt) {Q : List Dt → Pot → Prop} : Gv (opt (enumOf2 [.tup l]) ρ θ) Q = Q (numbered l) θ := rfl
end
end Pd



namespace Pd
open PySem PySem.Spec PyProof.Rows L2
variable [Pd.LamTab]
section
variable {X : Cx} {F : Fr0} {W : WX} {a : Expr}
def gRev : Dt → Option Dt
  | .lst l => some (.lst l.reverse)
  | _ => none
def mRev (ma : M Dt) : M Dt := bnd ma fun x => opt (gRev x)
theorem reps_rev {K : PySem.W.Frag} {H : Hp} : ∀ {l : List Dt} {xs : List V}, Reps K H l xs → Reps K H l.reverse xs.reverse
  | [], _, h => by rw [show _ = _ from h]; exact Reps.nil
  | d :: ds, _, h => by
    obtain ⟨x, r, rfl, h1, h2⟩ := h
    rw [List.reverse_cons, List.reverse_cons]
    exact Reps.append (reps_rev h2) (Reps.cons h1 Reps.nil)
variable {ρ : DEnv} {θ : Pot}
theorem gv_rev (ma : M Dt) {Q : Dt → Pot → Prop} : Gv (mRev ma ρ θ) Q = Gv (ma ρ θ) (optK gRev ρ Q) := by
  unfold mRev
  rw [gv_bnd]
  rfl
theorem rev_2 (a b : Dt) {Q : Dt → Pot → Prop} : Gv (opt (gRev (.lst [a, b])) ρ θ) Q = Q (.lst [b, a]) θ := rfl
end
end Pd



namespace Pd
open PySem PySem.Spec PyProof.Rows L2
variable [Pd.LamTab]
def rRepT1 (K : PySem.W.Frag) : R2 := fun x y H Q => ∃ l xs, x = .ref l ∧ y = .int 1 ∧ SqT K H l xs ∧ Q (.ref l) H
section
variable {X : Cx}
end
/-- l * n, l written there -/
def mRepO (ml : M (List Dt)) (mb : M Dt) : M (List Dt) := bnd ml fun l => bnd mb fun d => match d with
  | .int k => if (decide (-1000 ≤ k ∧ k ≤ 1000 ∧ l.length ≤ 1000)) = true then ret (List.replicate k.toNat l).flatten else bad
  | _ => bad
def gRepT1 : Dt → Dt → Option Dt
  | .tup l, .int 1 => some (.tup l)
  | _, _ => none
section
variable {X : Cx} {F : Fr0} {W : WX} {a b : Expr} {pos : Pos}
def gMul3 (a b : Dt) : Option Dt := (gMul2 a b).or (gRepT1 a b)
variable {ρ : DEnv} {θ : Pot}
theorem mul3_i (i j : Int) {Q : Dt → Pot → Prop} : Gv (opt (gMul3 (.int i) (.int j)) ρ θ) Q = ((small i && small j) = true ∧ Q (.int (i * j)) θ) := by
  have e : gMul3 (.int i) (.int j) = gMul2 (.int i) (.int j) := by
    unfold gMul3
    cases gMul2 (.int i) (.int j) <;> rfl
  rw [e, mul2_i]
def repK (l : List Dt) (ρ : DEnv) (Q : List Dt → Pot → Prop) : Dt → Pot → Prop := fun d θ => match d with
  | .int k => decide (-1000 ≤ k ∧ k ≤ 1000 ∧ l.length ≤ 1000) = true ∧ Q (List.replicate k.toNat l).flatten θ
  | _ => False
def repK1 (mb : M Dt) (ρ : DEnv) (Q : List Dt → Pot → Prop) : List Dt → Pot → Prop := fun l θ => Gv (mb ρ θ) (repK l ρ Q)
theorem gv_repO (ml : M (List Dt)) (mb : M Dt) {Q : List Dt → Pot → Prop} : Gv (mRepO ml mb ρ θ) Q = Gv (ml ρ θ) (repK1 mb ρ Q) := by
  unfold mRepO
  rw [gv_bnd]
  congr 1
  funext l θ1
  unfold repK1
  rw [gv_bnd]
  congr 1
  funext d θ2
  cases d with
  | int k =>
    unfold repK
    by_cases z : decide (-1000 ≤ k ∧ k ≤ 1000 ∧ l.length ≤ 1000) = true
    · simp only [z, if_true]
      exact propext ⟨fun q => ⟨trivial, q⟩, fun q => q.2⟩
    · simp only [z, if_false]
      exact propext ⟨fun q => q.elim, fun q => absurd q.1 (by simp)⟩
  | _ => rfl
theorem repK1_a (mb : M Dt) (l : List Dt) {Q : List Dt → Pot → Prop} : repK1 mb ρ Q l θ = Gv (mb ρ θ) (repK l ρ Q) := rfl
theorem repK_a (l : List Dt) (k : Int) {Q : List Dt → Pot → Prop} : repK l ρ Q (.int k) θ = (decide (-1000 ≤ k ∧ k ≤ 1000 ∧ l.length ≤ 1000) = true ∧ Q (List.replicate k.toNat l).flatten θ) := rfl
end
end Pd



namespace Pd
open PySem PySem.Spec PyProof.Rows L2
variable [Pd.LamTab]
def rCatL (K : PySem.W.Frag) : R2 := fun x y H Q => ∃ l b xs zs, x = .ref l ∧ y = .ref b ∧ SqL K H l xs ∧ SqL K H b zs ∧ xs.length + zs.length ≤ sizeLine ∧ ∀ p, H p = none → Q (.ref p) (upd H p (.lst (xs ++ zs)))
section
variable {X : Cx}
theorem op_catL : OpR X (binaryOp .Add) (rCatL X.K) := by
  intro pins s σ H x y v u Q I rx ry h
  obtain ⟨l, b, xs, zs, rfl, rfl, hL, hB, hz, q⟩ := h
  cases rx
  cases ry
  obtain ⟨its, r, hl, hz1⟩ := I.list hL
  obtain ⟨its2, r2, hb, hz2⟩ := I.list hB
  have e1 := r.length
  have e2 := r2.length
  obtain ⟨⟨cls, dd, data, sl⟩, ho, hc, n, hd⟩ := hl.isList
  obtain ⟨⟨cls2, dd2, data2, sl2⟩, ho2, hc2, n2, hd2⟩ := hb.isList
  simp only at hc hd hc2 hd2
  subst hc hd hc2 hd2
  have e : its.toArray ++ its2.toArray = (its ++ its2).toArray := by simp
  refine concat_meets ⟨_, ho, rfl⟩ ⟨_, ho2, rfl⟩ noFill_list_add seq_list_add PySem.F.slot_list_add PySem.F.entry_list_add (PySem.F.args_list_add_2 _ _) (list_addW l b its.toArray its2.toArray n n2 dd dd2 sl sl2 (by rw [List.size_toArray, List.size_toArray]; omega)) ⟨ho, ho2, ?_⟩
  rw [e]
  exact ⟨.ref _, _, I.lnew (t' := s.toks) (r.append r2) (by rw [List.length_append]; omega), rfl, q _ I.fresh⟩
end
def gCatL : Dt → Dt → Option Dt
  | .lst l, .lst m => if l.length + m.length < bigL then some (.lst (l ++ m)) else none
  | _, _ => none
section
variable {X : Cx} {F : Fr0} {W : WX}
theorem od_catL : OpD X (binaryOp .Add) gCatL := by
  refine ⟨_, op_catL, fun a b d e Hs H x y Q s ra rb q => ?_⟩
  unfold gCatL at e
  split at e
  · rename_i l m
    by_cases z : l.length + m.length < bigL
    · rw [if_pos z] at e
      cases e
      obtain ⟨a0, xs, rfl, h1, h2⟩ := ra
      obtain ⟨a1, zs, rfl, h3, h4⟩ := rb
      have e1 := h2.length
      have e2 := h4.length
      refine ⟨a0, a1, xs, zs, rfl, rfl, s.seq h1, s.seq h3, ?_, fun p np => ?_⟩
      · have : bigL ≤ sizeLine := by decide
        omega
      · have g := Grow.new (o := .lst (xs ++ zs)) s np
        exact q (.ref p) _ _ g ⟨p, _, rfl, SqL.of upd_same, (Reps.mono g.s _ h2).append (Reps.mono g.s _ h4)⟩
    · rw [if_neg z] at e
      cases e
  · cases e
def gAdd3 (a b : Dt) : Option Dt := (gAdd2 a b).or (gCatL a b)
theorem od_add3 : OpD X (binaryOp .Add) gAdd3 := od_add2.or od_catL
variable {ρ : DEnv} {θ : Pot}
theorem add3_i (i j : Int) {Q : Dt → Pot → Prop} : Gv (opt (gAdd3 (.int i) (.int j)) ρ θ) Q = Q (.int (i + j)) θ := rfl
theorem add3_l (l m : List Dt) {Q : Dt → Pot → Prop} : Gv (opt (gAdd3 (.lst l) (.lst m)) ρ θ) Q = (l.length + m.length < bigL ∧ Q (.lst (l ++ m)) θ) := by
  have e : gAdd3 (.lst l) (.lst m) = if l.length + m.length < bigL then some (.lst (l ++ m)) else none := rfl
  rw [e]
  by_cases z : l.length + m.length < bigL
  · rw [if_pos z, gv_opt]
    exact propext ⟨fun q => ⟨z, q⟩, fun q => q.2⟩
  · rw [if_neg z]
    exact propext ⟨fun q => q.elim, fun q => absurd q.1 z⟩
theorem add3_t (l m : List Dt) {Q : Dt → Pot → Prop} : Gv (opt (gAdd3 (.tup l) (.tup m)) ρ θ) Q = (l.length + m.length < bigL ∧ Q (.tup (l ++ m)) θ) := by
  have e : gAdd3 (.tup l) (.tup m) = if l.length + m.length < bigL then some (.tup (l ++ m)) else none := by
    have e2 : gAdd2 (.tup l) (.tup m) = if l.length + m.length < bigL then some (.tup (l ++ m)) else none := by
      show (none : Option Dt).or (gCat (.tup l) (.tup m)) = _
      rfl
    unfold gAdd3
    rw [e2]
    by_cases z : l.length + m.length < bigL
    · rw [if_pos z]
      rfl
    · rw [if_neg z]
      rfl
  rw [e]
  by_cases z : l.length + m.length < bigL
  · rw [if_pos z, gv_opt]
    exact propext ⟨fun q => ⟨z, q⟩, fun q => q.2⟩
  · rw [if_neg z]
    exact propext ⟨fun q => q.elim, fun q => absurd q.1 z⟩
end
end Pd



namespace Pd
open PySem PySem.Spec PyProof.Rows L2
variable [Pd.LamTab]
def SqB (K : PySem.W.Frag) (H : Hp) : Bool → Addr → List V → Prop
  | true, a, xs => SqL K H a xs
  | false, a, xs => SqT K H a xs
def ItB (h : Heap) : Bool → Addr → Addr → Nat → Prop
  | true, it, a, i => h.IsListIter it a i
  | false, it, a, i => h.IsTupleIter it a i
def SB (h : Heap) : Bool → Addr → Array Value → Prop
  | true, a, items => h.IsList a items
  | false, a, items => h.IsTuple a items
def objZ : Bool → Addr → Obj
  | true, a => { cls := .type "list_iterator", data := .fields #[.ref a, .int 0 0] }
  | false, a => { cls := .type "tuple_iterator", data := .fields #[.ref a, .int 0 0] }
section
variable {X : Cx} {pins : List (Addr × Obj)} {σ : L2.St} {H : Hp} {s : Shared} {b : Bool} {a : Addr} {xs ys : List V}
end
def ItzB (K : PySem.W.Frag) (b1 b2 : Bool) (a b : Addr) : It where
  go := fun i H => ∃ xs ys x y, SqB K H b1 a xs ∧ SqB K H b2 b ys ∧ xs[i]? = some x ∧ ys[i]? = some y
  yld := fun i H v H' => ∃ T x y, v = V.ref T ∧ H T = none ∧ H' = upd H T (HO.tup [x, y]) ∧ (∀ xs : List V, SqB K H b1 a xs → xs[i]? = some x) ∧ ∀ ys : List V, SqB K H b2 b ys → ys[i]? = some y
  stop := fun i H => ∃ xs ys : List V, SqB K H b1 a xs ∧ SqB K H b2 b ys ∧ i = min xs.length ys.length
def iZipB (K : PySem.W.Frag) (ta : TA) : TI := fun σ H R => ta σ H fun vs H1 => ∃ b1 b2 a b xs ys, vs = [.ref a, .ref b] ∧ SqB K H1 b1 a xs ∧ SqB K H1 b2 b ys ∧ R (ItzB K b1 b2 a b) H1
def sqOf : Dt → Option (List Dt)
  | .lst l => some l
  | .tup l => some l
  | _ => none
def zipB : List Dt → Option (List Dt)
  | [x, y] => match sqOf x, sqOf y with
    | some l, some m => some (pairs l m)
    | _, _ => none
  | _ => none
def mZipB (ml : M (List Dt)) : M (List Dt) := bnd ml fun l => opt (zipB l)
section
variable {X : Cx} {F : Fr0} {W : WX} {a b c : Expr} {pos p tpos : Pos} {elts : List Expr} {kk : Nat}
end
section
variable {ρ : DEnv} {θ : Pot}
theorem gv_zipB (ml : M (List Dt)) {Q : List Dt → Pot → Prop} : Gv (mZipB ml ρ θ) Q = Gv (ml ρ θ) (optK zipB ρ Q) := by
  unfold mZipB
  rw [gv_bnd]
  rfl
theorem zipB_ll (l m : List Dt) {Q : List Dt → Pot → Prop} : Gv (opt (zipB [.lst l, .lst m]) ρ θ) Q = Q (pairs l m) θ := rfl
theorem zipB_tt (l m : List Dt) {Q : List Dt → Pot → Prop} : Gv (opt (zipB [.tup l, .tup m]) ρ θ) Q = Q (pairs l m) θ := rfl
theorem zipB_lt (l m : List Dt) {Q : List Dt → Pot → Prop} : Gv (opt (zipB [.lst l, .tup m]) ρ θ) Q = Q (pairs l m) θ := rfl
theorem zipB_tl (l m : List Dt) {Q : List Dt → Pot → Prop} : Gv (opt (zipB [.tup l, .lst m]) ρ θ) Q = Q (pairs l m) θ := rfl
end
end Pd



namespace Pd
open PySem PySem.Spec PyProof.Rows L2
variable [Pd.LamTab]
def Itz3 (K : PySem.W.Frag) (b1 b2 b3 : Bool) (a b c : Addr) : It where
  go := fun i H => ∃ xs ys zs x y z, SqB K H b1 a xs ∧ SqB K H b2 b ys ∧ SqB K H b3 c zs ∧ xs[i]? = some x ∧ ys[i]? = some y ∧ zs[i]? = some z
  yld := fun i H v H' => ∃ T x y z, v = V.ref T ∧ H T = none ∧ H' = upd H T (HO.tup [x, y, z]) ∧ (∀ xs : List V, SqB K H b1 a xs → xs[i]? = some x) ∧ (∀ ys : List V, SqB K H b2 b ys → ys[i]? = some y) ∧ ∀ zs : List V, SqB K H b3 c zs → zs[i]? = some z
  stop := fun i H => ∃ xs ys zs : List V, SqB K H b1 a xs ∧ SqB K H b2 b ys ∧ SqB K H b3 c zs ∧ i = min (min xs.length ys.length) zs.length
def trips : List Dt → List Dt → List Dt → List Dt
  | x :: l, y :: m, z :: n => .tup [x, y, z] :: trips l m n
  | _, _, _ => []
def iZip3 (K : PySem.W.Frag) (ta : TA) : TI := fun σ H R => ta σ H fun vs H1 => ∃ b1 b2 b3 a b c xs ys zs, vs = [.ref a, .ref b, .ref c] ∧ SqB K H1 b1 a xs ∧ SqB K H1 b2 b ys ∧ SqB K H1 b3 c zs ∧ R (Itz3 K b1 b2 b3 a b c) H1
def zip3 : List Dt → Option (List Dt)
  | [x, y, z] => match sqOf x, sqOf y, sqOf z with
    | some l, some m, some n => some (trips l m n)
    | _, _, _ => none
  | _ => none
def mZip3 (ml : M (List Dt)) : M (List Dt) := bnd ml fun l => opt (zip3 l)
section
variable {X : Cx} {F : Fr0} {W : WX} {a b c : Expr} {pos p tpos : Pos} {elts : List Expr} {kk : Nat}
end
section
variable {ρ : DEnv} {θ : Pot}
theorem gv_zip3 (ml : M (List Dt)) {Q : List Dt → Pot → Prop} : Gv (mZip3 ml ρ θ) Q = Gv (ml ρ θ) (optK zip3 ρ Q) := by
  unfold mZip3
  rw [gv_bnd]
  rfl
end
end Pd



namespace Pd
open PySem PySem.Spec PyProof.Rows L2
variable [Pd.LamTab]
def insI (x : Int) : List Int → List Int
  | [] => [x]
  | y :: l => if x ≤ y then x :: y :: l else y :: insI x l
def sortI : List Int → List Int
  | [] => []
  | x :: l => insI x (sortI l)
def sortOf : List Dt → Option (List Dt)
  | [.lst l] => (intsOf l).map fun ns => (sortI ns).map Dt.int
  | _ => none
def mSorted (ml : M (List Dt)) : M (List Dt) := bnd ml fun l => opt (sortOf l)
section
variable {X : Cx} {F : Fr0} {W : WX} {a : Expr} {pos p : Pos}
end
section
variable {ρ : DEnv} {θ : Pot}
theorem gv_sorted (ml : M (List Dt)) {Q : List Dt → Pot → Prop} : Gv (mSorted ml ρ θ) Q = Gv (ml ρ θ) (optK sortOf ρ Q) := by
  unfold mSorted
  rw [gv_bnd]
  rfl
end
end Pd



namespace Pd
open PySem PySem.Spec PyProof.Rows L2
variable [Pd.LamTab]
def slO (x : Dt) (lo hi : Option Int) : Option (List Dt) := match x with
  | .lst l => some (cutD l lo hi)
  | _ => none
def mSlO (ma : M Dt) (ml mh : M (Option Int)) : M (List Dt) := bnd ma fun x => bnd ml fun l => bnd mh fun u => opt (slO x l u)
def mLendT (m : M Bool) : M Bool := fun ρ θ => if noDic ρ = true then (match m (frzAll ρ) θ with
  | .ok d θ' => .ok d θ'
  | _ => .bad) else .bad
section
variable {X : Cx} {F : Fr0} {W : WX} {a b c e : Expr} {pos p p2 : Pos} {lo hi : Option Expr}
end
section
variable {ρ : DEnv} {θ : Pot}
theorem gv_lendT (m : M Bool) {Q : Bool → Pot → Prop} : Gv (mLendT m ρ θ) Q = (noDic ρ = true ∧ Gv (m (frzAll ρ) θ) Q) := by
  unfold mLendT
  by_cases nd : noDic ρ = true
  case neg => rw [if_neg nd]; exact propext ⟨fun h => h.elim, fun h => absurd h.1 nd⟩
  rw [if_pos nd]
  have un : ∀ p : Prop, (noDic ρ = true ∧ p) = p := fun p => propext ⟨fun h => h.2, fun h => ⟨nd, h⟩⟩
  rw [un]
  cases m (frzAll ρ) θ <;> rfl
def slOK (lo hi : Option Int) (Q : List Dt → Pot → Prop) : Dt → Pot → Prop := fun x θ => match x with
  | .lst l => Q (cutD l lo hi) θ
  | _ => False
theorem gv_slO0 (ma : M Dt) (mh : M (Option Int)) {Q : List Dt → Pot → Prop} : Gv (mSlO ma mNoP mh ρ θ) Q = Gv (ma ρ θ) fun x θ1 => Gv (mh ρ θ1) fun u θ2 => slOK none u Q x θ2 := by
  unfold mSlO
  rw [gv_bnd]
  congr 1
  funext x θ1
  rw [gv_bnd]
  show Gv (bnd mh (fun u => opt (slO x none u)) ρ θ1) Q = _
  rw [gv_bnd]
  congr 1
  funext u θ2
  cases x <;> rfl
theorem slOK_a (lo hi : Option Int) (l : List Dt) {Q : List Dt → Pot → Prop} : slOK lo hi Q (.lst l) θ = Q (cutD l lo hi) θ := rfl
end
end Pd



namespace Pd
open PySem PySem.Spec PyProof.Rows L2
variable [Pd.LamTab]
section
variable {prog : Program} {w : World} {A : Around} {E : Value → Shared → Prop} {s : Shared}
theorem rev_places (n : Nat) : Builtin.Slice.slicePlaces ((n : Int) - 1) (-1) (-1) = n := by
  unfold Builtin.Slice.slicePlaces
  rw [if_neg (by decide)]
  split
  · rw [show (- -1 : Int) = 1 by decide, Int.ediv_one]
    omega
  · omega
theorem rev_applied {sl : Addr} {vl vu vs : Value} {n : Nat} {Q : Int × Int × Nat → Shared → Prop} (hs : s.heap.IsSliceOf sl vl vu vs) (pl : IsPart vl none) (pu : IsPart vu none) (ps : IsPart vs (some (-1)))
    (h : Q ((n : Int) - 1, -1, n) s) : wpAny (model prog w) A (Builtin.Slice.sliceApplied (.ref sl) (pure (n : Int))) Q E s := by
  obtain ⟨os, hos, hcs, hds⟩ := id hs
  unfold Builtin.Slice.sliceApplied Builtin.Slice.sliceFields
  refine wpAny_bind (wpAny_bind (wpAny_field hos hds (x := vl) rfl (wpAny_bind (wpAny_field hos hds (x := vu) rfl (wpAny_bind (wpAny_field hos hds (x := vs) rfl (wpAny_pure ?_)))))))
  refine wpAny_bind (HT.slicePart_ ps ?_)
  show wpAny _ _ (if ((-1 : Int) == 0) = true then _ else _) _ _ s
  rw [if_neg (by decide)]
  refine wpAny_bind (HT.slicePart_ pl (wpAny_bind (HT.slicePart_ pu (wpAny_bind (wpAny_pure ?_)))))
  show wpAny _ _ (pure ((n : Int) - 1, (-1 : Int), Builtin.Slice.slicePlaces ((n : Int) - 1) (-1) (-1))) _ _ s
  rw [rev_places]
  exact wpAny_pure h
theorem fm_congr {α β : Type} {f g : α → Option β} : ∀ l : List α, (∀ a ∈ l, f a = g a) → l.filterMap f = l.filterMap g
  | [], _ => rfl
  | a :: l, h => by
    rw [List.filterMap_cons, List.filterMap_cons, h a List.mem_cons_self, fm_congr l fun b hb => h b (List.mem_cons_of_mem _ hb)]
theorem rev_pick (xs : Array Value) : ((List.range xs.size).filterMap fun (m : Nat) => xs[(((xs.size : Nat) : Int) - 1 + (m : Int) * (-1)).toNat]?).toArray = xs.toList.reverse.toArray := by
  have h := PySem.W.krv_all xs
  have e : ((List.range xs.size).filterMap fun (m : Nat) => xs[(((xs.size : Nat) : Int) - 1 + (m : Int) * (-1)).toNat]?) = ((List.range xs.size).map fun k => xs.size - 1 - k).filterMap (xs[·]?) := by
    rw [List.filterMap_map]
    refine fm_congr _ fun m hm => ?_
    have := List.mem_range.mp hm
    show _ = xs[xs.size - 1 - m]?
    congr 1
    omega
  rw [e, PySem.W.krv_range, List.filterMap_reverse, h]
theorem getItem_tuple_rev {t sl : Addr} {items : Array Value} {vl vu vs : Value} {Q : Value → Shared → Prop} (ht : IsTup s.heap t items) (hs : s.heap.IsSliceOf sl vl vu vs) (pl : IsPart vl none) (pu : IsPart vu none) (ps : IsPart vs (some (-1)))
    (h : Q (.ref s.heap.objs.size) { s with heap := s.heap.push { cls := .type "tuple", data := .seq items.toList.reverse.toArray } })
    (hsz : items.size ≤ sizeLine) : wpAny (model prog w) A (getItem (.ref t) (.ref sl)) Q E s := by
  have htake : sizeOk (.seq items.toList.reverse.toArray) := by
    show items.toList.reverse.toArray.size ≤ sizeLine
    rw [List.size_toArray, List.length_reverse, Array.length_toList]
    exact hsz
  obtain ⟨os, hos, hcs, hds⟩ := id hs
  have hTs : s.TypeIs (.ref sl) "slice" := ⟨os, hos, hcs⟩
  unfold getItem
  try with_reducible refine wpAny_holding ?_
  first | refine wpAny_bind (wpAny_pure ?_) | skip
  refine wpAny_bind (wpAny_sequenceKey ht.typeIs (by decide) ?_)
  refine wpAny_bind (wpAny_callSpecial?_slot (name := Str.ofString "__getitem__") ht.typeIs PyProof.Rows.slot_tuple_getitem
    (wpAny_call_entry PyProof.Rows.slot_tuple_getitem ht.typeIs entry_tuple_getitem ?_ (args_tuple_getitem _ _)))
  show wpAny _ _ (Builtin.Tuple.tupleItemsOf (.ref t) >>= _) _ _ s
  refine wpAny_bind (tupleItemsOf_ ht ?_)
  refine wpAny_bind (wpAny_typeOf hTs ?_)
  rw [if_pos (by decide)]
  refine wpAny_bind (rev_applied hs pl pu ps ?_)
  have hno : ¬ ((((items.size : Int) - 1) == 0 && (-1 : Int) == 1 && items.size == items.size) = true) := by
    intro q
    rw [Bool.and_eq_true, Bool.and_eq_true] at q
    exact absurd (eq_of_beq q.1.2) (by decide)
  show wpAny _ _ (if (((items.size : Int) - 1) == 0 && (-1 : Int) == 1 && items.size == items.size) = true then _ else _) _ _ s
  rw [if_neg hno, rev_pick]
  first
    | exact wpAny_bind (m := Builtin.Tuple.tupleExact _) (wpAny_newObj_type (wpAny_pure ⟨_, rfl, wpAny_pure h⟩) htake)
    | exact wpAny_bind (m := Builtin.Tuple.tupleExact _) (wpAny_newObj_type (wpAny_bind (wpAny_pure (wpAny_pure ⟨_, rfl, wpAny_pure h⟩))) htake)
    | exact wpAny_bind (wpAny_bind (m := Builtin.Tuple.tupleExact _) (wpAny_newObj_type (wpAny_pure (wpAny_pure ⟨_, rfl, wpAny_pure h⟩)) htake))
    | exact wpAny_bind (wpAny_bind (m := Builtin.Tuple.tupleExact _) (wpAny_newObj_type (wpAny_pure ⟨_, rfl, wpAny_pure h⟩) htake))
end
section
variable {X : Cx}
def tRevT (K : PySem.W.Frag) (te : TE) : TE := fun σ H Q => te σ H fun x H1 => ∃ a xs, x = .ref a ∧ SqT K H1 a xs ∧ ∀ p, H1 p = none → Q (.ref p) (upd H1 p (.tup xs.reverse))
theorem pe_revT {e : Expr} {te : TE} {k : Nat} {p1 p2 p3 pos : Pos} (he : PE X e te) : PE X (.Subscript e (.Slice none none (some (.UnaryOp .USub (.Constant (.int 1) k p1) p2)) p3) pos) (tRevT X.K te) := by
  refine ⟨fun pins s σ H Q I h => ?_⟩
  refine Subscript_ (thn (he.run pins s σ H _ I h) fun v s1 ⟨x, H1, I1, r1, q1⟩ => ?_)
  obtain ⟨a, xs, ex, hx, q⟩ := q1
  subst ex
  cases r1
  have hst : L2.PO X (some (.UnaryOp .USub (.Constant (.int 1) k p1) p2)) (tPart (tUn (rU fun i => .int (-i)) (tC (.int 1)))) := po_some (pe_un un_neg pe_int)
  refine wpAny_Slice (thn (po_none.run pins s1 σ H1 (fun o H2 => o = none ∧ H2 = H1) I1 ⟨rfl, rfl⟩) fun vl s2 ⟨l, H2, I2, pl, el, e2⟩ => ?_)
  subst el e2
  refine thn (po_none.run pins s2 σ H2 (fun o H3 => o = none ∧ H3 = H2) I2 ⟨rfl, rfl⟩) fun vu s3 ⟨u, H3, I3, pu, eu, e3⟩ => ?_
  subst eu e3
  refine thn (hst.run pins s3 σ H3 (fun o H4 => o = some (-1) ∧ H4 = H3) I3 ⟨1, rfl, -1, rfl, rfl, rfl⟩) fun vs s4 ⟨o, H4, I4, ps, eo, e4⟩ => ?_
  subst eo e4
  have I5 : Inv X pins σ H4 { s4 with heap := s4.heap.push { cls := .type "slice", data := .fields #[vl, vu, vs] } } := I4.kept (t' := s4.toks) fun b ob q => Heap.get?_push_of_some _ q
  obtain ⟨its, r, ht, hz⟩ := I5.tuple hx
  have hlen := r.length
  show wpAny (model X.prog X.w) X.A (subscriptTail e (.Slice none none (some (.UnaryOp .USub (.Constant (.int 1) k p1) p2)) p3) (.ref a) (.ref s4.heap.objs.size)) (EP X pins σ Q) X.xe { s4 with heap := s4.heap.push { cls := .type "slice", data := .fields #[vl, vu, vs] } }
  refine tail_any (ops := [.ref a, .ref s4.heap.objs.size]) ht.typeIs (PyProof.Rows.slot_tuple_getitem.lookup) ?_ (by with_unfolding_all rfl)
  refine getItem_tuple_rev ht (Heap.IsSliceOf.new _ vl vu vs) pl pu ps ?_ (by rw [List.size_toArray]; omega)
  refine ⟨.ref _, _, I5.laid (t' := s4.toks) (o := .tup xs.reverse) (fun b ob q => Heap.get?_push_of_some _ q) (Nat.le_refl _) ?_, rfl, q _ (I5.hok.fresh (Nat.le_refl _))⟩
  exact ⟨by rw [List.length_reverse]; exact hz, _, r.reverse, IsTup.new _ _⟩
variable {F : Fr0} {W : WX} {a : Expr}
def gRevT : Dt → Option Dt
  | .tup l => some (.tup l.reverse)
  | _ => none
def mRevTu (ma : M Dt) : M Dt := bnd ma fun x => opt (gRevT x)
theorem pd_revT {ma : M Dt} {k : Nat} {p1 p2 p3 pos : Pos} (ha : PD X F W a ma) : PD X F W (.Subscript a (.Slice none none (some (.UnaryOp .USub (.Constant (.int 1) k p1) p2)) p3) pos) (mRevTu ma) := by
  refine pe_imp (pe_revT ha) fun σ H Q h => ?_
  obtain ⟨ρ, θ, Hs, st, h⟩ := h
  refine then_D OkD.anti st h fun x dx H1 Hs1 θ1 s1 st1 r1 h => ?_
  obtain ⟨d, e, q⟩ := post_opt h
  cases dx with
  | tup y =>
    cases e
    obtain ⟨a0, xs, rfl, h1, h2⟩ := r1
    refine ⟨a0, xs, rfl, sqt_mono st1.sub h1, fun t nt => ?_⟩
    have g := Grow.new (o := .tup xs.reverse) st1.sub nt
    exact q (.ref t) _ _ g.s (st1.grow g) ⟨t, xs.reverse, rfl, SqT.of upd_same, reps_rev (Reps.mono g.s _ h2)⟩
  | _ => cases e
variable {ρ : DEnv} {θ : Pot}
theorem gv_revT (ma : M Dt) {Q : Dt → Pot → Prop} : Gv (mRevTu ma ρ θ) Q = Gv (ma ρ θ) (optK gRevT ρ Q) := by
  unfold mRevTu
  rw [gv_bnd]
  rfl
theorem revT_t (l : List Dt) {Q : Dt → Pot → Prop} : Gv (opt (gRevT (.tup l)) ρ θ) Q = Q (.tup l.reverse) θ := rfl
end
end Pd



namespace PdX
open PySem PySem.W PySem.Calls PyProof.Rows PySem.HandSPX Builtin Builtin.ObjectAttr
variable [Pd.LamTab]
/-- what the top has written of a class: its base's facts hold -/
structure ExB (K : Frag) (C : Addr) : Prop where
  kC : keepIn K (.ref C) = true
  exC : subIn K (.ref C) (.type "BaseException") = some true
  tyC : typeIn K (.ref C) = some (.type "type")
/-- one that stores: fI its __init__ -/
structure ExI (K : Frag) (C fI : Addr) (B newId initId : String) (bmB : List Value) : Prop where
  b : ExB K C
  ini : excInitIn K C bmB newId = true
  ov : excOver K C bmB = true
  hd : hasDictIn K C = true
  sa : findIn K (.ref C) "__setattr__" = some (some (.builtin "object.__setattr__"))
  iC : findIn K (.ref C) "__init__" = some (some (.ref fI))
  tI : typeIn K (.ref fI) = some (.type "function")
section
variable {prog : Program} {w : World} {A : Around} {E : Value → Shared → Prop} {R : Result → Shared → Prop} {hp : Heap} {g : Array GenState} {d : Drawn} {t : Nat} {os : OsState} {K : Frag} {C fI x : Addr} {B newId initId : String} {bmB : List Value} {name : Str} {tk : Tok} {v : Value}
/-- what __init__ leaves of the fresh exception at x -/
structure Inited (h h' : Heap) (x C dx t1 : Addr) (m : Str → Option Value) : Prop where
  keep : ∀ b o, b ≠ x → h.get? b = some o → h'.get? b = some o
  obj : h'.get? x = some { cls := .ref C, dict := some dx, data := .fields #[.ref t1, .none, .none, .none, .bool false, .none] }
  big : h.objs.size ≤ dx
  dne : dx ≠ x
  ns : h'.Ns1 dx m
def store1 (f : Str) (q1 q2 q3 q4 : Pos) : Stmt := .Assign [.Attribute (.Name "self" q1) f q2] (.Name f q3) q4
/-- how the parameters stand: facts of the scope -/
structure Par (scope : Scope) (q : Str) (ps : List Str) : Prop where
  kind : scope.kind = .function
  co : scope.isCoroutine = false
  gen : scope.isGenerator = false
  loc : ∀ (L a : Addr) (cd : Value), ∀ y ∈ ps, (envOfC q scope L a cd).kindOf y = some .local
  lok : ∀ y ∈ ps, scope.names.lookup y = some .local
  at_ : ∀ (L a : Addr) (cd : Value) (us : List Value), us.length = ps.length → ∀ (i : Nat) (y : Str), ps[i]? = some y → bindL (envOfC q scope L a cd).kindOf (ps.zip us) (fun _ => none) y = us[i]?
  dbg : ∀ y ∈ ps, (y == ("__debug__" : Str)) = false
theorem Par.kinds {scope : Scope} {q : Str} {ps : List Str} (P : Par scope q ps) (us : List Value) : ((ps.zip us).all fun y => scope.names.lookup y.1 == some .local || scope.names.lookup y.1 == some .cell) = true := by
  rw [List.all_eq_true]
  intro y hy
  obtain ⟨a, b⟩ := y
  rw [P.lok a (List.of_mem_zip hy).1] <;> rfl
structure Made (h h' : Heap) (e C d : Addr) (m : Str → Option Value) : Prop where
  keep : ∀ b o, h.get? b = some o → h'.get? b = some o
  new : h.objs.size ≤ e
  obj : ∃ oe vs, h'.get? e = some oe ∧ oe.cls = .ref C ∧ oe.dict = some d ∧ oe.data = .fields vs ∧ vs[1]? = some .none
  big : h.objs.size ≤ d
  dne : d ≠ e
  ns : h'.Ns1 d m
/-- what a class's __init__ does with its values: m us its fields -/
def InitOk (prog : Program) (w : World) (K : Frag) (C fI : Addr) (n : Nat) (m : List Value → Str → Option Value) : Prop :=
  ∀ (A : Around) (s : Shared) (x t0 : Addr) (us : List Value) (R : Result → Shared → Prop), us.length = n → K.In s.heap → s.heap.NoLimit → s.heap.get? x = some (excO C t0) → K.lookup x = none → A.depth < recursionLimit →
    (∀ h' tk dx, Inited s.heap h' x C dx t0 (m us) → R (.ok (.ret .none)) { s with heap := h', toks := tk }) → codeAny (model prog w) A (.call (.ref fI) ⟨.ref x :: us, []⟩) R s
theorem made (FB : ExcBaseFacts B newId initId bmB) (T : ExI K C fI B newId initId bmB) {n : Nat} {m : List Value → Str → Option Value} (IO : InitOk prog w K C fI n m) {s : Shared} {us : List Value} (hl : us.length = n) (hn : n ≤ 1000) (X : K.In s.heap) (hlim : s.heap.NoLimit) (hroom : A.depth + 1 < recursionLimit)
    (hq : ∀ h' tk e d, Made s.heap h' e C d (m us) → R (.ok (.ret (.ref e))) { s with heap := h', toks := tk }) : codeAny (model prog w) A (.call (.ref C) ⟨us, []⟩) R s := by
  obtain ⟨nm, N', qn, bs, bm, hdct, sn, sub, ab, col, dd, k0, k1, k2, k3, k5, hC, hT⟩ := excInit_of X T.ini
  obtain ⟨hp, g, dr, tk, os⟩ := s
  have k : ∀ b o, hp.get? b = some o → ((hp.push (kdv_tup us)).push (excO C hp.objs.size)).get? b = some o := fun b o e => Heap.get?_push_of_some _ (Heap.get?_push_of_some _ e)
  have hget : ((hp.push (kdv_tup us)).push (excO C hp.objs.size)).get? (hp.objs.size + 1) = some (excO C hp.objs.size) := by heap_get
  have nxK : K.lookup (hp.objs.size + 1) = none := by
    cases e : K.lookup (hp.objs.size + 1) with
    | none => rfl
    | some o => exact absurd (Nat.lt_of_succ_lt (Heap.lt_size (show hp.get? (hp.objs.size + 1) = some o from X _ _ e))) (Nat.lt_irrefl _)
  have hz : us.length ≤ sizeLine := by
    rw [sizeLine_eq]
    omega
  refine call_own FB hT hC (looks_findIn X T.iC) (fun self => bind_fn X self T.tI) hz ?_
  refine IO _ ⟨(hp.push (kdv_tup us)).push (excO C hp.objs.size), g, dr, tk, os⟩ _ _ us _ hl (X.keeps k) (hlim.keeps k) hget nxK hroom fun h' tk' dx Z => ?_
  have old : ∀ b o, hp.get? b = some o → h'.get? b = some o := fun b o e => Z.keep b o (Nat.ne_of_lt (Nat.lt_succ_of_lt (Heap.lt_size e))) (k b o e)
  have sz : hp.objs.size + 1 + 1 ≤ dx := by
    have q := Z.big
    rw [Heap.size_push, Heap.size_push] at q
    exact q
  exact ⟨rfl, hq h' tk' (hp.objs.size + 1) dx ⟨old, Nat.le_succ _, ⟨_, _, Z.obj, rfl, rfl, rfl, rfl⟩, Nat.le_trans (Nat.le_trans (Nat.le_succ _) (Nat.le_succ _)) sz, Z.dne, Z.ns⟩⟩
end
end PdX
namespace Pd
open PySem PySem.Spec PyProof.Rows L2 PdX
variable [Pd.LamTab]
section
variable {X : Cx} {F : Fr0} {W : WX} {C fI : Addr} {B newId initId : String} {bmB : List Value} {x : Str} {p pos pos2 : Pos} {es : List Expr}
/-- the fields of n values in the exception's dict -/
def FldOk (fs : List Str) (m : List Value → Str → Option Value) : Prop := ∀ (vs : List V) (us : List Value), Vals vs us → us.length = fs.length → ∀ f, RelO (List.lookup f (fs.zip vs)) (m us f)
def tMkI (C : Addr) (fs : List Str) (ta : TA) : L2.St → Hp → XK → Prop := fun σ H Q => ta σ H fun vs H1 => vs.length = fs.length ∧ ∀ d, H1 d = none → Q (.ref C) (some d) (upd H1 d (.xd (fs.zip vs)))
def mRaise0 (x : Str) : M Out := fun ρ θ => .exn ⟨x, []⟩ ρ θ
def mRaise (x : Str) (fs : List Str) (ml : M (List Dt)) : M Out := bnd ml fun l ρ θ => if l.length = fs.length then .exn ⟨x, fs.zip l⟩ ρ θ else .bad
end
end Pd



namespace Pd
open PySem PySem.Spec PyProof.Rows L2 PdX
variable [Pd.LamTab]
abbrev Suite := Addr → Value → Option Addr → TS
/-- what holds behind a suite: the name is gone -/
def goneE (D : Ends) (i : Nat) : Ends := { nx := fun σ H => D.nx (σ.set i none) H, rt := D.rt, bk := fun σ H => D.bk (σ.set i none) H, ct := fun σ H => D.ct (σ.set i none) H }
def wNam (K : PySem.W.Frag) (Wo : WX) (D : Ends) : List (Value × Option Nat × Suite) → WX
  | [] => Wo
  | (c, o, ts) :: r => fun cls d σ H => ∃ b, PySem.W.exmOne K cls c = some b ∧ (b = false → wNam K Wo D r cls d σ H) ∧
    (b = true → ∀ a, H a = none → match o with
      | none => ts a cls d D σ H
      | some i => ts a cls d (goneE D i) (σ.set i (some (.ref a))) H)
inductive HdN (X : Cx) : List ExceptHandler → List (Value × Option Nat × Suite) → Prop
  | nil : HdN X [] []
  | plain {x : Str} {c : Value} {ts : Suite} {b0 : Stmt} {bs : List Stmt} {q1 q2 : Pos} {hds : List ExceptHandler} {l : List (Value × Option Nat × Suite)} (hc : Names X x c)
      (su : ∀ (a : Addr) (oe : Obj) (cls : Value) (d : Option Addr) (pn : List (Addr × Obj)), Zc cls d oe → (∃ vs, oe.data = .fields vs) → PSs (X.suite a ((a, oe) :: pn)) (b0 :: bs) (ts a cls d)) (r : HdN X hds l) :
      HdN X (.ExceptHandler (some (.Name x q1)) none (b0 :: bs) q2 :: hds) ((c, none, ts) :: l)
  | named {x n : Str} {i : Nat} {c : Value} {ts : Suite} {b0 : Stmt} {bs : List Stmt} {q1 q2 : Pos} {hds : List ExceptHandler} {l : List (Value × Option Nat × Suite)} (hc : Names X x c) (hi : X.N[i]? = some n) (hk : X.env.kindOf n = some .local)
      (su : ∀ (a : Addr) (oe : Obj) (cls : Value) (d : Option Addr) (pn : List (Addr × Obj)), Zc cls d oe → (∃ vs, oe.data = .fields vs) → PSs (X.suite a ((a, oe) :: pn)) (b0 :: bs) (ts a cls d)) (r : HdN X hds l) :
      HdN X (.ExceptHandler (some (.Name x q1)) (some n) (b0 :: bs) q2 :: hds) ((c, some i, ts) :: l)
section
variable {X : Cx} {body : List Stmt} {h0 : ExceptHandler} {hds : List ExceptHandler} {l : List (Value × Option Nat × Suite)} {pos : Pos} {tb : WX → TS} {Wo : WX}
end
end Pd



namespace Pd
open PySem PySem.Spec PyProof.Rows L2 PdX
variable [Pd.LamTab]
def clsV (K : PySem.W.Frag) (y : Str) : Option Value := match PySem.W.nsIn K mainGlobals y with
  | some (some v) => some v
  | some none => bootBuiltins y
  | none => none
def exClsB (K : PySem.W.Frag) (C : Addr) (fns : List Str) : Bool := decide (PySem.W.findIn K (.ref C) "__getattribute__" = some (some (.builtin "BaseException.__getattribute__"))) && decide (PySem.W.findIn K (.ref C) "__getattr__" = some none) && decide (PySem.W.subIn K (.ref C) (.type "BaseException") = some true) &&
  PySem.W.hasDictIn K C && decide (PySem.W.findIn K (.ref C) "__class__" = some (some (.builtin "object.__class__"))) && decide (PySem.W.specialIn K (.builtin "object.__class__") "__get__" = some (some (.builtin "getset_descriptor.__get__"))) &&
  decide (PySem.W.takesIn K (.builtin "object.__class__") = some true) && decide (PySem.W.mroIn K C (.type "object") = some true) && fns.all fun f => decide (PySem.W.findIn K (.ref C) f = some none)
structure ExCls (K : PySem.W.Frag) (C : Addr) (fns : List Str) : Prop where
  ga : PySem.W.findIn K (.ref C) "__getattribute__" = some (some (.builtin "BaseException.__getattribute__"))
  gg : PySem.W.findIn K (.ref C) "__getattr__" = some none
  sb : PySem.W.subIn K (.ref C) (.type "BaseException") = some true
  hd : PySem.W.hasDictIn K C = true
  cl : PySem.W.findIn K (.ref C) "__class__" = some (some (.builtin "object.__class__"))
  sp : PySem.W.specialIn K (.builtin "object.__class__") "__get__" = some (some (.builtin "getset_descriptor.__get__"))
  tk : PySem.W.takesIn K (.builtin "object.__class__") = some true
  mr : PySem.W.mroIn K C (.type "object") = some true
  no : ∀ f ∈ fns, PySem.W.findIn K (.ref C) f = some none
/-- tab: for each class that may be caught, the names of the classes it is one of; ys: the classes that clauses name; fns: the fields that are read -/
structure KinOk (K : PySem.W.Frag) (mg : Str → Option Value) (tab : List (Str × List Str)) (ys fns : List Str) : Prop where
  cls : ∀ x l, tab.lookup x = some l → ∃ C, mg x = some (.ref C) ∧ ExCls K C fns ∧ (∀ y ∈ ys, ∃ c, (mg y = some c ∨ (mg y = none ∧ bootBuiltins y = some c)) ∧ PySem.W.exmOne K (.ref C) c = some (l.contains y)) ∧
    (∀ y ∈ l, ∃ c, (mg y = some c ∨ (mg y = none ∧ bootBuiltins y = some c)) ∧ PySem.W.kitOne K (.ref C) c = some true)
def exKin (K : PySem.W.Frag) (tab : List (Str × List Str)) (ys fns : List Str) : Bool := tab.all fun p => match PySem.W.nsIn K mainGlobals p.1 with
  | some (some (.ref C)) => exClsB K C fns && (ys.all fun y => match clsV K y with
      | some c => decide (PySem.W.exmOne K (.ref C) c = some (p.2.contains y))
      | none => false) && (p.2.all fun y => match clsV K y with
      | some c => decide (PySem.W.kitOne K (.ref C) c = some true)
      | none => false)
  | _ => false
def Fr0.hold (F : Fr0) (Hs : Hp) (a : Addr) : Fr0 := ⟨F.ap, fun b => (Hs b).or (F.H0 b), Hs, F.cells, fun n => if n = 1 then some a else F.xs n, F.op⟩
def noFix : Option Ent → Option Ent
  | some (.fix n) => if n = 1 then none else some (.fix n)
  | some (.opn _) => none
  | some (.dic _ _ _) => none
  | some (.dat d) => some (.dat d)
  | some (.own l) => some (.own l)
  | some .pot => some .pot
  | none => none
def unfix (ρ : DEnv) : DEnv := ρ.map noFix
section
variable {K : PySem.W.Frag} {F : Fr0} {σ : L2.St} {H Hs : Hp} {ρ : DEnv} {θ : Pot}
end
def kinOf (tab : List (Str × List Str)) (x y : Str) : Option Bool := (tab.lookup x).map fun l => l.contains y
def unOut (i : Nat) : Res Out → Res Out
  | .ok (.next ρ) θ => .ok (.next ((unfix ρ).set i none)) θ
  | .ok (.brk ρ) θ => .ok (.brk ((unfix ρ).set i none)) θ
  | .ok (.cnt ρ) θ => .ok (.cnt ((unfix ρ).set i none)) θ
  | .ok (.ret r) θ => .ok (.ret r) θ
  | _ => .bad
def mHand (tab : List (Str × List Str)) (i : Nat) (e : Exn) : List (Str × (Exn → M Out)) → M Out
  | [] => fun ρ θ => .exn e ρ θ
  | (y, h) :: r => fun ρ θ => match kinOf tab e.cls y with
    | some true => unOut i (h e ((unfix ρ).set i (some (.fix 1))) θ)
    | some false => mHand tab i e r ρ θ
    | none => .bad
def mTry (tab : List (Str × List Str)) (i : Nat) (mb : M Out) (hs : List (Str × (Exn → M Out))) : M Out := fun ρ θ => match mb ρ θ with
  | .exn e ρ1 θ1 => mHand tab i e hs ρ1 θ1
  | r => r
inductive HdD (X : Cx) (ys : List Str) (i : Nat) : List ExceptHandler → List (Str × (Exn → M Out)) → Prop
  | nil : HdD X ys i [] []
  | cons {y n : Str} {h : Exn → M Out} {b0 : Stmt} {bs : List Stmt} {q1 q2 : Pos} {hds : List ExceptHandler} {l : List (Str × (Exn → M Out))} (hy : y ∈ ys) (hg : Gl X y) (hd : (y == ("__debug__" : Str)) = false) (hn : y ≠ "__name__") (hi : X.N[i]? = some n) (hk : X.env.kindOf n = some .local)
      (su : ∀ (a : Addr) (oe : Obj) (pn : List (Addr × Obj)) (e : Exn) (F : Fr0), Caught X F a oe e → PSDs (X.suite a ((a, oe) :: pn)) F (fun _ _ _ _ => False) (b0 :: bs) (h e)) (r : HdD X ys i hds l) :
      HdD X ys i (.ExceptHandler (some (.Name y q1)) (some n) (b0 :: bs) q2 :: hds) ((y, h) :: l)
section
variable {X : Cx} {F : Fr0} {W : WX} {body : List Stmt} {h0 : ExceptHandler} {hds : List ExceptHandler} {hs : List (Str × (Exn → M Out))} {pos : Pos} {tab : List (Str × List Str)} {ys fns : List Str} {mb : M Out} {i : Nat}
/-- a suite's reading: for some exception and frame -/
def tSu (X : Cx) (h : Exn → M Out) : Suite := fun a cls d D σ H => ∃ (e : Exn) (F : Fr0), F.xs 1 = some a ∧ (∀ b, F.Hs0 b ≠ none → F.H0 b ≠ none) ∧ ExcAt X.K X.mg F.Hs0 F.Hs0 e cls d ∧ tS X F (fun _ _ _ _ => False) (h e) D σ H
def cval (X : Cx) (y : Str) : Value := match X.mg y with
  | some c => c
  | none => (bootBuiltins y).getD .none
def sus (X : Cx) (i : Nat) (l : List (Str × (Exn → M Out))) : List (Value × Option Nat × Suite) := l.map fun p => (cval X p.1, some i, tSu X p.2)
end
end Pd



namespace Pd
open PySem PySem.Spec PyProof.Rows L2 PdX
variable [Pd.LamTab]
/-- the exception in slot i -/
def isFix1 (ρ : DEnv) (i : Nat) : Bool := match ρ[i]? with
  | some (some (.fix n)) => decide (n = 1)
  | _ => false
def mFld (tab : List (Str × List Str)) (fns : List Str) (i : Nat) (e : Exn) (f : Str) : M Dt := fun ρ θ => if isFix1 ρ i && fns.contains f && (tab.lookup e.cls).isSome then (match e.flds.lookup f with
  | some d => .ok d θ
  | none => .bad) else .bad
def mIsE (tab : List (Str × List Str)) (i : Nat) (e : Exn) (y : Str) : M Dt := fun ρ θ => if isFix1 ρ i then (match tab.lookup e.cls with
  | some l => if l.contains y then .ok (.bl true) θ else .bad
  | none => .bad) else .bad
section
variable {X : Cx} {F : Fr0} {W : WX} {tab : List (Str × List Str)} {ys fns : List Str} {i : Nat} {a : Addr} {oe : Obj} {pn : List (Addr × Obj)} {e : Exn} {n y f : Str} {p q pos : Pos}
end
end Pd



namespace Pd
variable [Pd.LamTab]
open PySem PySem.Spec PyProof.Rows L2 PdX LamX
section
variable {X : Cx} {pins : List (Addr × Obj)} {σ : L2.St} {H : Hp} {s : Shared}
end
section
variable {K : PySem.W.Frag} {F : Fr0} {σ : L2.St} {H Hs : Hp} {ρ : DEnv} {θ : Pot}
end
/-- its code object, its table -/
def MkF (X : Cx) : Prop := ∃ c P, TabB X.base X.mg c P ∧ X.env.code = .ref c ∧ (P, X.env.qual ++ "<lambda>") ∈ tbK X.K ∧ ∀ p ∈ tbK X.K, p.1 = P → p.2 = X.env.qual ++ "<lambda>"
section
variable {X : Cx} {F : Fr0} {W : WX} {params : Arguments} {body : Expr} {scope : Scope} {pos : Pos}
def tLamO (X : Cx) (F : Fr0) (k : Nat) (scope : Scope) : TE := fun σ H Q => ∃ ρ θ Hs, StOk X.K F σ H Hs ρ θ ∧ ∀ a H' Hs', Same Hs Hs' → StOk X.K F σ H' Hs' ρ θ → LamAt Hs' k (cloFrom X.env.cells scope.names []) a → Q (.ref a) H'
end
def clrE : Option Ent → Option Ent
  | some (.opn _) => none
  | some (.dic _ _ _) => none
  | x => x
def clr (ρ : DEnv) : DEnv := ρ.map clrE
section
variable {K : PySem.W.Frag} {F : Fr0} {σ : L2.St} {H Hs : Hp} {ρ : DEnv} {θ : Pot}
theorem LamsAt.snoc {cells : List (Str × Addr)} {k : Nat} {a : Addr} {x : LamRec} (e : LamTab.tab k = some x) (h : LamAt Hs k (cloFrom cells x.scope.names []) a) : ∀ {ks : List Nat} {vs : List V}, LamsAt Hs cells ks vs → LamsAt Hs cells (ks ++ [k]) (vs ++ [.ref a])
  | [], _, g => by
    rw [show _ = _ from g]
    exact ⟨a, [], x, rfl, e, h, rfl⟩
  | j :: ks, _, g => by
    obtain ⟨b, r, y, rfl, g1, g2, g3⟩ := g
    exact ⟨b, _, y, rfl, g1, g2, LamsAt.snoc e h g3⟩
end
def opnR : Res Out → Res Out
  | .ok (.next ρ) θ => .ok (.next (clr ρ)) θ
  | .ok (.brk ρ) θ => .ok (.brk (clr ρ)) θ
  | .ok (.cnt ρ) θ => .ok (.cnt (clr ρ)) θ
  | .ok (.ret r) θ => .ok (.ret r) θ
  | .exn e ρ θ => .exn e (clr ρ) θ
  | .bad => .bad
def mOpn (i k : Nat) (m : M Out) : M Out := fun ρ θ => opnR (m ((clr ρ).set i (some (.opn [k]))) θ)
def mOpnA (i k : Nat) : M Out := fun ρ θ => match ρ[i]? with
  | some (some (.opn ks)) => if ks.length < bigL then .ok (.next ((clr ρ).set i (some (.opn (ks ++ [k]))))) θ else .bad
  | _ => .bad
section
variable {X : Cx} {F : Fr0} {W : WX} {params : Arguments} {body : Expr} {scope : Scope} {pos lpos pos' q apos cpos : Pos} {rest : List Stmt} {y : Str} {kt : Pos}
end
end Pd



namespace Pd
variable [Pd.LamTab]
open PySem PySem.Spec PyProof.Rows L2 PdX LamX
open Classical in
noncomputable def offC (C : Addr → Prop) (H : Hp) : Hp := fun b => if C b then none else H b
open Classical in
noncomputable def onC (C : Addr → Prop) (G H : Hp) : Hp := fun b => if C b then G b else H b
theorem offC_out {C : Addr → Prop} {H : Hp} {b : Addr} (h : ¬ C b) : offC C H b = H b := by unfold offC; rw [if_neg h]
section
variable {C : Addr → Prop} {H H1 : Hp}
end
def cellC (X : Cx) (b : Addr) : Prop := ∃ x, X.env.cells.lookup x = some b
structure LkX (X : Cx) (σ : L2.St) (H H1 : Hp) : Prop where
  lk : Lk (cellC X) H H1
  val : ∀ (i : Nat) (x : Str) (v : V) (c : Addr), X.N[i]? = some x → σ[i]? = some (some v) → (X.env.scope.names.lookup x = some .cell ∨ X.env.scope.names.lookup x = some .free) → X.env.cells.lookup x = some c → CellAt H1 c v
  inj : ∀ x y c, X.env.cells.lookup x = some c → X.env.cells.lookup y = some c → x = y
  has : ∀ x, (X.env.scope.names.lookup x = some .cell ∨ X.env.scope.names.lookup x = some .free) → ∃ c, X.env.cells.lookup x = some c
def spL (X : Cx) (σ : L2.St) (n : Nat) (f : Mir) (vs : List V) (H : Hp) (Q : VK) (E : XK) : Prop := ∀ H1, LkX X σ H H1 → spF X.K X.mg n f vs H1 (fun v H' => (∀ b, cellC X b → H' b = H1 b) → Q v (offC (cellC X) H')) (fun c d H' => (∀ b, cellC X b → H' b = H1 b) → E c d (offC (cellC X) H'))
section
variable {X : Cx} {F : Fr0} {W : WX}
end
end Pd



namespace Pd
variable [Pd.LamTab]
open PySem PySem.Spec PyProof.Rows L2 PdX LamX
def capt (ρ : DEnv) : List Nat → Option (List Dt)
  | [] => some []
  | i :: is => match ρ[i]? with
    | some (some (.dat d)) => (capt ρ is).map fun ds => d :: ds
    | _ => none
/-- cp: for each lambda that the def makes the slots of the names that it captures -/
def closeK (cp : List (Nat × List Nat)) (ρ : DEnv) (k : Nat) : Option Dt := match cp.lookup k with
  | some is => match capt ρ is with
    | some ds => if noClss ds = true then some (.cls k ds) else none
    | none => none
  | none => none
def closeKs (cp : List (Nat × List Nat)) (ρ : DEnv) : List Nat → Option (List Dt)
  | [] => some []
  | k :: ks => match closeK cp ρ k, closeKs cp ρ ks with
    | some d, some ds => some (d :: ds)
    | _, _ => none
def okRes : Dt → Bool
  | .lst l => l.all flatD
  | .tup l => l.all flatD
  | d => flatD d
def lres : Res Dt → Res Dt
  | .ok d θ => if okRes d = true then .ok d θ else .bad
  | .exn e ρ θ => if (e.flds.map (·.2)).all flatD = true then .exn e ρ θ else .bad
  | .bad => .bad
def mCallL (f : Mir) (cp : List (Nat × List Nat)) (k : Nat) : M Dt := fun ρ θ => match closeK cp ρ k with
  | some d => lres (callD f [.dat d] ρ θ)
  | none => .bad
def mCallS (f : Mir) (cp : List (Nat × List Nat)) (i : Nat) (mr : M (List Ent)) : M Dt := fun ρ θ => match ρ[i]? with
  | some (some (.opn (k :: ks))) => bnd mr (fun es ρ θ => match closeKs cp ρ (k :: ks) with
    | some ds => lres (callD f (.dat (.lst ds) :: es) ρ θ)
    | none => .bad) ρ θ
  | _ => .bad
def capB (sc : Scope) (N : List Str) (cp : List (Nat × List Nat)) : Bool := cp.all fun p => match LamTab.tab p.1 with
  | some r => lamSB sc r.scope && decide (p.2.map (fun i => N[i]?) = r.names.map some) && decide r.names.Nodup
  | none => false
def capOk (X : Cx) (cp : List (Nat × List Nat)) : Bool := capB X.env.scope X.N cp
structure Cap (X : Cx) (k : Nat) (is : List Nat) (r : LamRec) : Prop where
  tb : LamTab.tab k = some r
  sc : LamS X.env.scope r.scope
  at_ : is.map (fun i => X.N[i]?) = r.names.map some
  nd : r.names.Nodup
open Classical in
noncomputable def hsP (X : Cx) (Ln : Addr → Prop) (H1 H Hs : Hp) : Hp := fun b => if cellC X b then H1 b else if Ln b then H b else Hs b
section
variable {X : Cx} {F : Fr0} {W : WX} {σ : L2.St} {H Hs H1 : Hp} {ρ : DEnv} {θ : Pot} {Ln : Addr → Prop}
end
end Pd



namespace Pd
variable [Pd.LamTab]
open PySem PySem.Spec PyProof.Rows L2 PdX LamX
section
variable {X : Cx} {F : Fr0} {W : WX} {x y : Str} {p p2 pos lpos : Pos} {params : Arguments} {body : Expr} {scope : Scope} {es : List Expr}
end
end Pd



namespace Pd
variable [Pd.LamTab]
open PySem PySem.Spec PyProof.Rows L2 PdX LamX
def mX (LM : Nat → Mir) (i : Nat) : M Dt := fun ρ θ => match ρ[i]? with
  | some (some (.dat (.cls k ds))) => callD (LM k) (ds.map Ent.dat) ρ θ
  | _ => .bad
section
variable {X : Cx} {F : Fr0} {W : WX} {y : Str} {p1 p2 : Pos}
end
end Pd



namespace Pd
variable [Pd.LamTab]
open PySem PySem.Spec PyProof.Rows L2 PdX LamX
/-- no parameter, no name of its own -/
def lamSelf (r : LamRec) : Bool := decide (r.scope.kind = .function) && !r.scope.isCoroutine && !r.scope.isGenerator && (r.scope.names.all fun y => !decide (y.2 = .local) && !decide (y.2 = .cell)) && decide r.names.Nodup
structure LamSf (r : LamRec) : Prop where
  kind : r.scope.kind = .function
  co : r.scope.isCoroutine = false
  gen : r.scope.isGenerator = false
  own : ∀ y ∈ r.scope.names, y.2 ≠ .local ∧ y.2 ≠ .cell
  nd : r.names.Nodup
abbrev lEnv (r : LamRec) (cl : List (Str × Addr)) (L f c : Addr) : Env := PySem.W.envX r.q r.scope L f (.ref c) cl
/-- the context of the lambda's body -/
def lCx (P : Program) (w : World) (K : PySem.W.Frag) (mg : Str → Option Value) (base : Heap) (A : Around) (outer : List Env) (s : Shared) (H : Hp) (E : XK) (r : LamRec) (cl : List (Str × Addr)) (f c : Addr) : Cx where
  prog := P
  w := w
  K := K
  mg := mg
  base := base
  A := A.deeper (lEnv r cl s.heap.objs.size f c)
  N := r.names
  s_0 := s
  H_0 := H
  env := lEnv r cl s.heap.objs.size f c
  outer := outer
  stack := lEnv r cl s.heap.objs.size f c :: outer
  ex := []
  fn := fun _ => false
  calm := true
  pn := []
  xe := fun e s' => wpAny (model P w) (A.deeper (lEnv r cl s.heap.objs.size f c)) (leaving (lEnv r cl s.heap.objs.size f c) e) (fun _ s'' => L2.CX P w outer H s E e s'') (fun e' s'' => L2.CX P w outer H s E e' s'') s'
def clC (cl : List (Str × Addr)) (b : Addr) : Prop := b ∈ cl.map (·.2)
theorem CellsAt.mem {H : Hp} {c : Addr} : ∀ {cs : List Addr} {xs : List V}, CellsAt H cs xs → c ∈ cs → ∃ v, CellAt H c v
  | d :: cs, _, h, m => by
    obtain ⟨v, r, e, h1, h2⟩ := h
    rcases List.mem_cons.mp m with z | z
    · exact ⟨v, by rw [z]; exact h1⟩
    · exact CellsAt.mem h2 z
theorem rd_off1 {H : Hp} {C : Addr → Prop} (fz : ∀ b, C b → ∃ o, H b = some (.frz o (.ext fun _ => True))) {a : Addr} {u : HO} (hu : u ≠ .ext fun _ => True) (q : H a = some u ∨ ∃ o, H a = some (.frz o u)) (hf : ∀ o, u ≠ .frz o (.ext fun _ => True) := by intro o z; cases z) : offC C H a = some u ∨ ∃ o, offC C H a = some (.frz o u) := by
  have z : ¬ C a := fun z => by
    obtain ⟨o, e⟩ := fz a z
    rw [e] at q
    rcases q with k | ⟨o', k⟩
    · exact hf o (Option.some.inj k).symm
    · cases k
      exact hu rfl
  rw [offC_out z]
  exact q
mutual
theorem rep_off {K : PySem.W.Frag} {H : Hp} {C : Addr → Prop} (fz : ∀ b, C b → ∃ o, H b = some (.frz o (.ext fun _ => True))) : ∀ (d : Dt) {v : V}, noCls d = true → Rep K H d v → Rep K (offC C H) d v
  | .non, _, _, h => h
  | .bl _, _, _, h => h
  | .int _, _, _, h => h
  | .str _, _, _, h => h
  | .lst l, _, n, h => by
    obtain ⟨a, xs, e, q, r⟩ := h
    refine ⟨a, xs, e, ?_, reps_off fz l n r⟩
    rcases q with q | q
    · exact Or.inl (rd_off1 fz (by intro z; cases z) q)
    · exact Or.inr q
  | .tup l, _, n, h => by
    obtain ⟨a, xs, e, q, r⟩ := h
    refine ⟨a, xs, e, ?_, reps_off fz l n r⟩
    rcases q with q | q
    · exact Or.inl (rd_off1 fz (by intro z; cases z) q)
    · exact Or.inr q
  | .raw _, _, _, h => h
  | .cls _ _, _, n, _ => by cases n
  | .dct k l, _, n, h => by
    obtain ⟨a, e, ea, ⟨o, q⟩, q2, q3, q4⟩ := h
    refine ⟨a, e, ea, ⟨o, ?_⟩, q2, fun x hx => ?_, reps_off fz l n q4⟩
    · rw [offC_out fun z => ?_]
      · exact q
      · obtain ⟨o, w⟩ := fz a z
        rw [q] at w
        injection w with w
        injection w with _ w
        exact dicO_cell w
    · rcases q3 x hx with q | q
      · exact Or.inl (rd_off1 fz (by intro z; cases z) q)
      · exact Or.inr q
theorem reps_off {K : PySem.W.Frag} {H : Hp} {C : Addr → Prop} (fz : ∀ b, C b → ∃ o, H b = some (.frz o (.ext fun _ => True))) : ∀ (l : List Dt) {xs : List V}, noClss l = true → Reps K H l xs → Reps K (offC C H) l xs
  | [], _, _, h => h
  | d :: ds, _, n, h => by
    obtain ⟨x, r, e, h1, h2⟩ := h
    unfold noClss at n
    rw [Bool.and_eq_true] at n
    exact ⟨x, r, e, rep_off fz d n.1 h1, reps_off fz ds n.2 h2⟩
end
end Pd



namespace Pd
variable [Pd.LamTab]
open PySem PySem.Spec PyProof.Rows L2 PdX LamX
def lS (l : List Stmt) (i : Nat) : Stmt := l.getD i (.Pass ⟨0, 0, 0, 0⟩)
def lFor : Stmt → List Stmt
  | .For _ _ b _ _ => b
  | _ => []
def lIf : Stmt → List Stmt
  | .If _ b _ _ => b
  | _ => []
def lElse : Stmt → List Stmt
  | .If _ _ b _ => b
  | _ => []
def lTest : Stmt → Expr
  | .If t _ _ _ => t
  | _ => e0
def lVal : Stmt → Expr
  | .Assign _ v _ => v
  | .Expr v _ => v
  | .Return (some v) _ => v
  | _ => e0
def lLeft : Expr → Expr
  | .Compare l _ _ _ => l
  | _ => e0
def lArg : Expr → Nat → Expr
  | .Call _ a _ _, i => a.getD i e0
  | _, _ => e0
def lElt : Expr → Nat → Expr
  | .List a _, i => a.getD i e0
  | _, _ => e0
def lBool : Expr → Nat → Expr
  | .BoolOp _ a _, i => a.getD i e0
  | _, _ => e0
def lOpnd : Expr → Expr
  | .UnaryOp _ a _ => a
  | _ => e0
def lamR (x : Str) : Expr → LamRec
  | .Lambda a b s _ => ⟨(x ++ ".<locals>.") ++ "<lambda>", a, b, s⟩
  | _ => ⟨x, { posonlyargs := [], args := [], vararg := none, kwonlyargs := [], kw_defaults := [], kwarg := none, defaults := [] }, e0, { kind := .function, names := [], isGenerator := false, isCoroutine := false }⟩
def clsDef : Stmt → Nat → Stmt
  | .ClassDef _ _ _ b _ _ _ _ _ _ _, i => lS b i
  | s, _ => s
theorem LamP.up {P : Program} {w : World} {K : PySem.W.Frag} {mg : Str → Option Value} {base : Heap} {kr kr' k : Nat} {m : Mir} (h : LamP P w K mg base kr k m) (hk : kr ≤ kr') : LamP P w K mg base kr' k m :=
  ⟨fun A outer s H a ds Q E hr hg e0 hs => h.run A outer s H a ds Q E (hr.mono hk) hg e0 hs⟩
def exB (K : PySem.W.Frag) (C : Addr) : Bool := PySem.W.keepIn K (.ref C) && decide (PySem.W.subIn K (.ref C) (.type "BaseException") = some true) && decide (PySem.W.typeIn K (.ref C) = some (.type "type"))
def BE.nw : BE → String
  | .value => "ValueError.__new__"
  | .runtime => "RuntimeError.__new__"
  | .arith => "ArithmeticError.__new__"
  | .lookup => "LookupError.__new__"
def BE.ini : BE → String
  | .value => "ValueError.__init__"
  | .runtime => "RuntimeError.__init__"
  | .arith => "ArithmeticError.__init__"
  | .lookup => "LookupError.__init__"
/-- raise x(): what is known -/
def Rz0 (K : PySem.W.Frag) (mg : Str → Option Value) (x : Str) : Prop := ∃ (b : BE) (C : Addr), ExB K C ∧ PySem.W.excIn K C b.bm b.nw = true ∧ mg x = some (.ref C)
def exRz0 (K : PySem.W.Frag) (b : BE) (x : Str) : Bool := match PySem.W.nsIn K mainGlobals x with
  | some (some (.ref C)) => exB K C && PySem.W.excIn K C b.bm b.nw
  | _ => false
/-- raise x(e, ..): what is known -/
def Rz (P : Program) (w : World) (K : PySem.W.Frag) (mg : Str → Option Value) (x : Str) (fs : List Str) : Prop := ∃ (b : BE) (C fI : Addr) (m : List Value → Str → Option Value), ExI K C fI b.B b.nw b.ini b.bm ∧ InitOk P w K C fI fs.length m ∧ FldOk fs m ∧ mg x = some (.ref C)
def exRz (K : PySem.W.Frag) (b : BE) (x : Str) (fI : Addr) (fs : List Str) : Bool := match PySem.W.nsIn K mainGlobals x with
  | some (some (.ref C)) => exB K C && PySem.W.excInitIn K C b.bm b.nw && PySem.W.excOver K C b.bm && PySem.W.hasDictIn K C && decide (PySem.W.findIn K (.ref C) "__setattr__" = some (some (.builtin "object.__setattr__"))) && decide (PySem.W.findIn K (.ref C) "__init__" = some (some (.ref fI))) &&
      decide (PySem.W.typeIn K (.ref fI) = some (.type "function")) && fs.all fun f => decide (PySem.W.findIn K (.ref C) f = some none)
  | _ => false
structure RzF (K : PySem.W.Frag) (mg : Str → Option Value) (b : BE) (x : Str) (fI : Addr) (fs : List Str) (C : Addr) : Prop where
  t : ExI K C fI b.B b.nw b.ini b.bm
  no : ∀ f ∈ fs, PySem.W.findIn K (.ref C) f = some none
  m : mg x = some (.ref C)
section
variable {X : Cx} {F : Fr0} {W : WX} {x : Str} {e : Expr} {es : List Expr} {p pos pos2 : Pos}
end
end Pd



namespace Pd
variable [Pd.LamTab]
open PySem PySem.Spec PyProof.Rows L2 PdX LamX
/-- what the head tells of the tables -/
structure TbH (K : PySem.W.Frag) (h : Heap) : Prop where
  hd : ∀ x ∈ LamTab.mks, PySem.W.codeHdIn K (He.cT K (x, none)).1 (He.cT K (x, none)).2 = true
  out : ∀ x ∈ LamTab.mks, K.lookup (He.cT K (x, none)).2 = none
  empty : ∀ x ∈ LamTab.mks, h.get? (He.cT K (x, none)).2 = some { cls := .none, data := .fields #[] }
def Mks (K : PySem.W.Frag) (mg : Str → Option Value) (base : Heap) : Prop := ∀ x ∈ LamTab.mks, TabB base mg (He.cT K (x, none)).1 (He.cT K (x, none)).2
end Pd



namespace Pd
variable [Pd.LamTab]
open PySem PySem.Spec PyProof.Rows L2 PdX LamX
section
variable {X : Cx} {F : Fr0} {W : WX} {pos : Pos}
theorem dicO_ok {P : Program} {w : World} {H : Hp} {h : Heap} {a : Addr} {e : List DE} {o : Obj} (d : DicW a e) (ho : h.get? a = some o) (hd : DicObj e o) : ObjOk P w H h a (DicO a e) :=
  ⟨⟨d, o, ho, hd⟩, ⟨o, ho⟩, fun h1 h2 ⟨d', o', ho', hd'⟩ k => ⟨d', o', k _ ho', hd'⟩⟩
theorem dicObj_nil : DicObj [] { cls := .type "dict", data := .dict #[] } := ⟨⟨rfl, rfl, rfl⟩, #[], 0, [], rfl, .nil, rfl⟩
theorem dicW_nil {a : Addr} (h : (a == sysModules) = false) : DicW a [] := ⟨h, Nat.zero_le _, List.nodup_nil⟩
/-- {}, to be written -/
theorem pe_dnewO : PE X (.Dict [] [] pos) (fun _ H Q => ∀ p, H p = none → Q (.ref p) (upd H p (DicO p []))) := ⟨fun pins s σ H Q I h =>
  wpAny_Dict_empty ⟨.ref s.heap.objs.size, _, I.laid (a := s.heap.objs.size) (o := DicO s.heap.objs.size []) (t' := s.toks) (fun _ _ q => Heap.get?_push_of_some _ q) (Nat.le_refl _) (dicO_ok (dicW_nil (beq_eq_false_iff_ne.mpr (Nat.ne_of_gt I.big))) (Heap.get?_push_size _ rfl) dicObj_nil), rfl, h _ (I.hok.fresh (Nat.le_refl _))⟩⟩
/-- a dict that has just been made is data from now on -/
theorem st_dicL {σ : L2.St} {ρ : DEnv} {H Hs : Hp} {θ : Pot} {p : Addr} {e : List DE} {o : Obj} (st : StOk X.K F σ H Hs ρ θ) (hp : H p = some (DicO p e)) (n1 : Hs p = none) (n2 : F.H0 p = none) (n3 : F.ap ≠ some p)
    (n4 : ∀ (i : Nat) (g : Bool) (ks : List (List Int)) (vs : List Dt), ρ[i]? = some (some (.dic g ks vs)) → σ[i]? ≠ some (some (.ref p))) : StOk X.K F σ (upd H p (.frz o (DicO p e))) (upd Hs p (.frz o (DicO p e))) ρ θ where
  sub := fun b u q => by
    by_cases z : b = p
    · subst z
      rw [upd_same] at q ⊢
      exact q
    · rw [upd_ne z] at q ⊢
      exact st.sub _ _ q
  hap := fun q h => by
    have z : q ≠ p := fun z => n3 (by rw [← z]; exact h)
    rw [upd_ne z]
    exact st.hap q h
  pot := fun q h => by
    have z : q ≠ p := fun z => n3 (by rw [← z]; exact h)
    rw [upd_ne z]
    exact st.pot q h
  old := fun b u h1 n h2 => by
    have z : b ≠ p := fun z => by rw [z, n2] at h2; cases h2
    rw [upd_ne z]
    exact st.old b u h1 n h2
  thr := fun b hb z => by
    by_cases k : b = p
    · rw [k, upd_same] at z
      cases z
    · rw [upd_ne k] at z
      exact st.thr b hb z
  tab := by
    intro q hq
    obtain ⟨k0, ps, k1, k2, k3⟩ := st.tab q hq
    have z : q.1 ≠ p := fun z => by rw [z, hp] at k1; exact dicO_tbl _ (Option.some.inj k1)
    refine ⟨by rw [upd_ne z]; exact k0, ps, by rw [upd_ne z]; exact k1, k2, fun pos cv hc => ?_⟩
    obtain ⟨c, e1, e2, e3⟩ := k3 pos cv hc
    have zc : c ≠ p := fun z => by rw [z, n1] at e3; cases e3
    exact ⟨c, e1, by rw [upd_ne zc]; exact e2, by rw [upd_ne zc]; exact e3⟩
  frs := fun b hb => by
    have z : b ≠ p := fun z => hb (by rw [z]; exact n2)
    rw [upd_ne z]
    exact st.frs b hb
  dat := fun i d q => by
    obtain ⟨v, e1, e2⟩ := st.dat i d q
    exact ⟨v, e1, Rep.mono (same_upd n1) d e2⟩
  own := fun i l q => by
    obtain ⟨a, ys, e1, e2, e3, e4, e5, e6⟩ := st.own i l q
    have z : a ≠ p := fun z => by rw [z, hp] at e2; exact dicO_lst _ (Option.some.inj e2)
    exact ⟨a, ys, e1, by rw [upd_ne z]; exact e2, Reps.mono (same_upd n1) l e3, by rw [upd_ne z]; exact e4, e5, e6⟩
  sep := st.sep
  pt := st.pt
  fx := st.fx
  opn := fun i ks q => by
    obtain ⟨a, ys, e0, e1, e2, e3, e4, e5, e6⟩ := st.opn i ks q
    have z : a ≠ p := fun z => by rw [z, n2] at e5; cases e5
    exact ⟨a, ys, e0, e1, by rw [upd_ne z]; exact e2, e3.mono (same_upd n1), by rw [upd_ne z]; exact e4, e5, e6⟩
  len := st.len
  dic := fun i g ks vs q => by
    obtain ⟨a, ys, e1, e2, e3, e4, e5⟩ := st.dic i g ks vs q
    have z : a ≠ p := fun z => n4 i g ks vs q (by rw [← z]; exact e1)
    exact ⟨a, ys, e1, by rw [upd_ne z]; exact e2, e3.mono (same_upd n1), by rw [upd_ne z]; exact e4, e5⟩
  sepD := st.sepD
def mDct (m : M KD) : M Dt := bnd m fun l => ret (.dct l.1 l.2)
theorem pd_frzQ {e : Expr} {m : M KD} (h : PQ X F W e m) : PD X F W e (mDct m) := by
  refine ⟨fun pins s σ H Q I q => ?_⟩
  obtain ⟨ρ, θ, Hs, st, q⟩ := q
  have q1 : tQ X F W m σ H (fun v H' => ∃ p es, v = .ref p ∧ H' p = some (DicO p es) ∧ ∀ o, Q v (upd H' p (.frz o (DicO p es)))) := by
    refine then_Q (okb := fun Hs d θ => OkD X F σ ρ Q Hs d θ) OkD.anti st q fun p es l H1 Hs1 θ1 s1 st1 e1 e2 e3 e4 e5 e6 h => ⟨p, es, rfl, e1, fun o => ?_⟩
    exact h (.ref p) _ _ (same_upd e3) (st_dicL st1 e1 e3 e4 e5 e6) ⟨p, es, rfl, ⟨o, upd_same⟩, e2.ks, e2.at_.mono (same_upd e3), Reps.mono (same_upd e3) _ e2.vs⟩
  refine thn (h.run pins s σ H _ I q1) fun v s1 ⟨x, H1, I1, rx, p, es, ex, ep, q2⟩ => ?_
  obtain ⟨o, I2⟩ := I1.lock ep True.intro
  exact ⟨x, _, I2, rx, q2 o⟩
theorem pq_emp : PQ X F W (.Dict [] [] pos) (ret ([], [])) := by
  refine pe_imp pe_dnewO fun σ H Q h => ?_
  obtain ⟨ρ, θ, Hs, st, h⟩ := h
  intro a na
  exact h a [] _ Hs (Same.refl _) (st_new st na) upd_same ⟨rfl, fun x hx => (List.not_mem_nil hx).elim, Reps.nil⟩ (st.sub.free na) (h0_none st na) (ap_ne st na) (dic_ne st na)
theorem pd_emp : PD X F W (.Dict [] [] pos) (ret .emp) := pd_frzQ pq_emp
def gReprE : List Dt → Option Dt
  | [.dct [] []] => some (.str "{}")
  | _ => none
theorem cs_reprE (hu : X.A.units + 178 < cLine) (hg : X.A.guards = some []) : CallS X (.builtin "repr") gReprE := by
  refine ⟨fun xs H Q => ∃ a, xs = [.ref a] ∧ DicL H a [] ∧ Q (.str "{}") H, ?_, fun ds d e H xs Q r q => ?_⟩
  · intro pins s σ H xs us Q I r h
    obtain ⟨a, rfl, hd, q⟩ := h
    obtain ⟨u, rfl, ru⟩ := vals1 r
    obtain rfl : u = .ref a := ru
    obtain ⟨dw, o, _, h1, h2, es, ep, xs, h3, h5, h4⟩ := dicL_obj I hd
    have nm := dw.sys
    cases h5
    have h5 : es.toList = [] := h4
    have rd : Reads s.heap (.ref a) (.dict []) (a :: [] ++ []) := by
      refine .dict (kvs := []) h1 h2.1 h3 ?_ ?_ <;> rw [h5] <;> exact .nil
    exact PySem.repr_of_reads' rd rfl (fun _ z => by simp only [List.append_nil, List.mem_singleton] at z; rw [z, beq_self_eq_true] at nm; cases nm) hg (by
      have e : PyData.depth (.dict []) = 1 := rfl
      rw [e]
      omega) (fun _ _ z => z) (fun h' u tk kk => ⟨.str "{}", H, I.kept kk, ⟨u, rfl⟩, q⟩)
  · unfold gReprE at e
    split at e
    · cases e
      obtain ⟨x, rfl, rx⟩ := rep1 r
      obtain ⟨a, es, rfl, h, h2, _⟩ := rx
      have h3 : es = [] := List.map_eq_nil_iff.mp h2
      subst h3
      exact ⟨a, rfl, h, q _ fun _ => rfl⟩
    · cases e
def gRepr2 (l : List Dt) : Option Dt := (gRepr l).or (gReprE l)
theorem cs_repr2U (hu : X.A.units + 178 < cLine) (hg : X.A.guards = some []) : CallS X (.builtin "repr") gRepr2 := (cs_reprU hu hg).or (cs_reprE hu hg)
theorem room_178 {k : Nat} {A : Around} (hr : Room k A) : A.units + 178 < cLine := by
  have := hr.un
  omega
end
end Pd
namespace Pd
section
variable [Pd.LamTab]
open PySem PySem.Spec PyProof.Rows L2
end
end Pd



namespace Pd
variable [Pd.LamTab]
open PySem PySem.Spec PyProof.Rows L2 PdX LamX
def parB (scope : Scope) (ps : List Str) : Bool := decide (scope.kind = .function) && !scope.isCoroutine && !scope.isGenerator && (ps.all fun y => decide (scope.names.lookup y = some .local) && !(y == ("__debug__" : Str))) && decide ps.Nodup
end Pd



namespace Pd
variable [Pd.LamTab]
open PySem PySem.Spec PyProof.Rows L2
def asY (g : Addr → Option Obj) (n : Nat) (cs : List Str) : List Addr := He.asD g n ++ He.growD g (He.growD g (cs.map fun c => He.fAd (He.frT g (He.asD g n)) (c, some "__init__")))
def obsY (n : Nat) (cs : List Str) (fa : List He.Fa) (fn : List He.DefD) (ts : List He.Tab) (tf : List He.Defn) (ex : PySem.W.Frag → Bool) (g : Addr → Option Obj) : He.AlX :=
  let K := He.frT g (asY g n cs)
  (He.obsT fa fn ts K, ex K && He.tabsB g tf K)
theorem saysY_of {n : Nat} {cs : List Str} {fa : List He.Fa} {fn : List He.DefD} {ts : List He.Tab} {tf : List He.Defn} {ex : PySem.W.Frag → Bool} {w : World} {h : Heap} (e : obsY n cs fa fn ts tf ex h.get? = He.valX fn ts w) : He.SaysX fa fn ts tf ex w h (He.frT h.get? (asY h.get? n cs)) := by
  obtain ⟨k1, k2⟩ := Prod.mk.inj (show (_, _) = (_, _) from e)
  rw [Bool.and_eq_true] at k2
  obtain ⟨k2, k3⟩ := k2
  have all : ∀ p ∈ tf, PySem.W.codeHdIn (He.frT h.get? (asY h.get? n cs)) (He.cT (He.frT h.get? (asY h.get? n cs)) p).1 (He.cT (He.frT h.get? (asY h.get? n cs)) p).2 = true ∧ ∃ o, h.get? (He.cT (He.frT h.get? (asY h.get? n cs)) p).2 = some o ∧ He.emptyTab o = true := fun p hp => by
    have z := List.all_eq_true.mp k3 p hp
    rw [Bool.and_eq_true] at z
    refine ⟨z.1, ?_⟩
    have z2 := z.2
    split at z2
    · rename_i o q
      exact ⟨o, q, z2⟩
    · cases z2
  refine ⟨k1, k2, fun p hp => (all p hp).1, fun p hp => ?_, fun p hp => ?_⟩ <;> obtain ⟨_, o, q, z⟩ := all p hp
  · exact He.frT_none q z
  · rw [q, He.emptyTab_eq z]
def hookY (n : Nat) (cs : List Str) (fa : List He.Fa) (fn : List He.DefD) (ts : List He.Tab) (tf : List He.Defn) (ex : PySem.W.Frag → Bool) : PySem.W.Hook where
  α := He.AlX
  obs := fun s => obsY n cs fa fn ts tf ex s.heap.get?
  val := fun w => He.valX fn ts w
  says := fun w h => ∃ K : PySem.W.Frag, K.In h ∧ He.SaysX fa fn ts tf ex w h K
  of := fun _ _ e => ⟨_, He.frT_in, saysY_of e⟩
  keeps := fun _ _ _ ⟨K, hK, c⟩ k => ⟨K, PySem.W.Frag.In.keeps hK k, ⟨c.t, c.more, c.hd, c.out, fun p hp => k _ _ (c.empty p hp)⟩⟩
end Pd



namespace Pd
open PySem PySem.Spec
section
variable {ρ ρ' : DEnv} {θ θ' : Pot}
theorem gv_eq {α : Type} {r : Res α} {x : α} (h : Gv r fun a θ' => a = x ∧ θ' = θ) : r = .ok x θ := by
  cases r with
  | ok a θ1 =>
    obtain ⟨e1, e2⟩ := (show a = x ∧ θ1 = θ from h)
    rw [e1, e2]
  | exn e ρ θ => exact h.elim
  | bad => exact h.elim
theorem clr_nil : clr [] = [] := rfl
theorem clr_0 (ρ : DEnv) : clr (none :: ρ) = none :: clr ρ := rfl
theorem clr_d (d : Dt) (ρ : DEnv) : clr (some (.dat d) :: ρ) = some (.dat d) :: clr ρ := rfl
theorem clr_p (ρ : DEnv) : clr (some .pot :: ρ) = some .pot :: clr ρ := rfl
theorem clr_o (l : List Dt) (ρ : DEnv) : clr (some (.own l) :: ρ) = some (.own l) :: clr ρ := rfl
theorem clr_n (l : List Nat) (ρ : DEnv) : clr (some (.opn l) :: ρ) = none :: clr ρ := rfl
theorem hide_n (l : List Nat) (ρ : DEnv) : hide (some (.opn l) :: ρ) = none :: hide ρ := rfl
theorem frzE1_opn (l : List Nat) : frzE1 (some (.opn l)) = some (.opn l) := rfl
def opnK (Q : Out → Pot → Prop) : Out → Pot → Prop
  | .next ρ, θ => Q (.next (clr ρ)) θ
  | .brk ρ, θ => Q (.brk (clr ρ)) θ
  | .cnt ρ, θ => Q (.cnt (clr ρ)) θ
  | .ret r, θ => Q (.ret r) θ
theorem opnK_n {Q : Out → Pot → Prop} : opnK Q (.next ρ) θ = Q (.next (clr ρ)) θ := rfl
theorem opnK_b {Q : Out → Pot → Prop} : opnK Q (.brk ρ) θ = Q (.brk (clr ρ)) θ := rfl
theorem opnK_c {Q : Out → Pot → Prop} : opnK Q (.cnt ρ) θ = Q (.cnt (clr ρ)) θ := rfl
theorem opnK_r {r : Ret} {Q : Out → Pot → Prop} : opnK Q (.ret r) θ = Q (.ret r) θ := rfl
theorem gv_opn (i k : Nat) (m : M Out) {Q : Out → Pot → Prop} : Gv (mOpn i k m ρ θ) Q = Gv (m ((clr ρ).set i (some (.opn [k]))) θ) (opnK Q) := by
  unfold mOpn
  cases m ((clr ρ).set i (some (.opn [k]))) θ with
  | ok o θ1 => cases o <;> rfl
  | exn e ρ θ => rfl
  | bad => rfl
def opnA (k : Nat) (ρ : DEnv) (i : Nat) (θ : Pot) (Q : Out → Pot → Prop) : Option (Option Ent) → Prop
  | some (some (.opn ks)) => ks.length < bigL ∧ Q (.next ((clr ρ).set i (some (.opn (ks ++ [k]))))) θ
  | _ => False
theorem opnA_a (k : Nat) (i : Nat) (ks : List Nat) {Q : Out → Pot → Prop} : opnA k ρ i θ Q (some (some (.opn ks))) = (ks.length < bigL ∧ Q (.next ((clr ρ).set i (some (.opn (ks ++ [k]))))) θ) := rfl
theorem gv_opnA (i k : Nat) {Q : Out → Pot → Prop} : Gv (mOpnA i k ρ θ) Q = opnA k ρ i θ Q ρ[i]? := by
  unfold mOpnA
  generalize ρ[i]? = x
  match x with
  | some (some (.opn ks)) =>
    show Gv (if ks.length < bigL then _ else Res.bad) Q = (ks.length < bigL ∧ _)
    exact if_gv
  | some (some (.dat d)) => rfl
  | some (some (.own l)) => rfl
  | some (some .pot) => rfl
  | some (some (.fix n)) => rfl
  | some (some (.dic g k l)) => rfl
  | some none => rfl
  | none => rfl
/-- what a call that hands on lambdas gives -/
def lamK (Q : Dt → Pot → Prop) : Ret → Pot → Prop
  | .d d, θ => okRes d = true ∧ Q d θ
  | .o l, θ => l.all flatD = true ∧ Q (.lst l) θ
  | .q _ _, _ => False
theorem lamK_d {d : Dt} {Q : Dt → Pot → Prop} : lamK Q (.d d) θ = (okRes d = true ∧ Q d θ) := rfl
theorem lamK_o {l : List Dt} {Q : Dt → Pot → Prop} : lamK Q (.o l) θ = (l.all flatD = true ∧ Q (.lst l) θ) := rfl
theorem gv_lres (f : Mir) (es : List Ent) {Q : Dt → Pot → Prop} : Gv (lres (callD f es ρ θ)) Q = Gv (f es θ) (lamK Q) := by
  unfold callD
  cases f es θ with
  | ok r θ1 =>
    cases r with
    | d d =>
      show Gv (if okRes d = true then Res.ok d θ1 else .bad) Q = (okRes d = true ∧ Q d θ1)
      by_cases z : okRes d = true
      · rw [if_pos z]
        exact propext ⟨fun h => ⟨z, h⟩, fun h => h.2⟩
      · rw [if_neg z]
        exact propext ⟨fun h => h.elim, fun h => absurd h.1 z⟩
    | o l =>
      show Gv (if l.all flatD = true then Res.ok (.lst l) θ1 else .bad) Q = (l.all flatD = true ∧ Q (.lst l) θ1)
      by_cases z : l.all flatD = true
      · rw [if_pos z]
        exact propext ⟨fun h => ⟨z, h⟩, fun h => h.2⟩
      · rw [if_neg z]
        exact propext ⟨fun h => h.elim, fun h => absurd h.1 z⟩
    | q k l => rfl
  | exn e ρ1 θ1 =>
    show Gv (if (e.flds.map (·.2)).all flatD = true then Res.exn e ρ θ1 else .bad) Q = False
    by_cases z : (e.flds.map (·.2)).all flatD = true
    · rw [if_pos z]
      rfl
    · rw [if_neg z]
      rfl
  | bad => rfl
def clK (f : Mir) (θ : Pot) (es : List Ent) (Q : Dt → Pot → Prop) : Option Dt → Prop
  | some d => Gv (f (.dat d :: es) θ) (lamK Q)
  | none => False
theorem clK_a (f : Mir) (es : List Ent) (d : Dt) {Q : Dt → Pot → Prop} : clK f θ es Q (some d) = Gv (f (.dat d :: es) θ) (lamK Q) := rfl
theorem gv_callL (f : Mir) (cp : List (Nat × List Nat)) (k : Nat) {Q : Dt → Pot → Prop} : Gv (mCallL f cp k ρ θ) Q = clK f θ [] Q (closeK cp ρ k) := by
  unfold mCallL
  cases closeK cp ρ k with
  | none => rfl
  | some d => exact gv_lres f [.dat d]
def csE (f : Mir) (cp : List (Nat × List Nat)) (ρ : DEnv) (ks : List Nat) (Q : Dt → Pot → Prop) : List Ent → Pot → Prop := fun es θ => clK f θ es Q ((closeKs cp ρ ks).map Dt.lst)
theorem csE_a (f : Mir) (cp : List (Nat × List Nat)) (ks : List Nat) (es : List Ent) {Q : Dt → Pot → Prop} : csE f cp ρ ks Q es θ = clK f θ es Q ((closeKs cp ρ ks).map Dt.lst) := rfl
def csK (f : Mir) (cp : List (Nat × List Nat)) (mr : M (List Ent)) (ρ : DEnv) (θ : Pot) (Q : Dt → Pot → Prop) : Option (Option Ent) → Prop
  | some (some (.opn (k :: ks))) => Gv (mr ρ θ) (csE f cp ρ (k :: ks) Q)
  | _ => False
theorem csK_a (f : Mir) (cp : List (Nat × List Nat)) (mr : M (List Ent)) (k : Nat) (ks : List Nat) {Q : Dt → Pot → Prop} : csK f cp mr ρ θ Q (some (some (.opn (k :: ks)))) = Gv (mr ρ θ) (csE f cp ρ (k :: ks) Q) := rfl
theorem gv_callS (f : Mir) (cp : List (Nat × List Nat)) (i : Nat) (mr : M (List Ent)) {Q : Dt → Pot → Prop} : Gv (mCallS f cp i mr ρ θ) Q = csK f cp mr ρ θ Q ρ[i]? := by
  unfold mCallS
  generalize e : ρ[i]? = x
  match x, e with
  | some (some (.opn (k :: ks))), e =>
    show Gv (bnd mr _ ρ θ) Q = Gv (mr ρ θ) (csE f cp ρ (k :: ks) Q)
    rw [gv_bnd]
    congr 1
    funext es θ1
    unfold csE
    cases closeKs cp ρ (k :: ks) with
    | none => rfl
    | some ds => exact gv_lres f _
  | some (some (.opn [])), _ => rfl
  | some (some (.dat d)), _ => rfl
  | some (some (.own l)), _ => rfl
  | some (some .pot), _ => rfl
  | some (some (.fix n)), _ => rfl
  | some (some (.dic g k l)), _ => rfl
  | some none, _ => rfl
  | none, _ => rfl
def consO {α : Type} : Option α → Option (List α) → Option (List α)
  | some d, some ds => some (d :: ds)
  | _, _ => none
end
end Pd



namespace Pd
open PySem PySem.Spec PyProof.Rows L2
variable [Pd.LamTab]
def noEx : Res Out → Res Out
  | .exn _ _ _ => .bad
  | r => r
def mHand0 (tab : List (Str × List Str)) (e : Exn) : List (Str × M Out) → M Out
  | [] => fun ρ θ => .exn e ρ θ
  | (y, h) :: r => fun ρ θ => match kinOf tab e.cls y with
    | some true => noEx (h ρ θ)
    | some false => mHand0 tab e r ρ θ
    | none => .bad
def mTry0 (tab : List (Str × List Str)) (mb : M Out) (hs : List (Str × M Out)) : M Out := fun ρ θ => match mb ρ θ with
  | .exn e ρ1 θ1 => mHand0 tab e hs ρ1 θ1
  | r => r
inductive HdU (X : Cx) (F : Fr0) (ys : List Str) : List ExceptHandler → List (Str × M Out) → Prop
  | nil : HdU X F ys [] []
  | cons {y : Str} {h : M Out} {b0 : Stmt} {bs : List Stmt} {q1 q2 : Pos} {hds : List ExceptHandler} {l : List (Str × M Out)} (hy : y ∈ ys) (hg : Gl X y) (hd : (y == ("__debug__" : Str)) = false) (hn : y ≠ "__name__")
      (su : ∀ (a : Addr) (oe : Obj) (pn : List (Addr × Obj)), PSDs (X.suite a ((a, oe) :: pn)) F (fun _ _ _ _ => False) (b0 :: bs) h) (r : HdU X F ys hds l) :
      HdU X F ys (.ExceptHandler (some (.Name y q1)) none (b0 :: bs) q2 :: hds) ((y, h) :: l)
section
variable {X : Cx} {F : Fr0} {W : WX} {body : List Stmt} {h0 : ExceptHandler} {hds : List ExceptHandler} {hs : List (Str × M Out)} {pos : Pos} {tab : List (Str × List Str)} {ys fns : List Str} {mb : M Out}
def tSu0 (X : Cx) (F : Fr0) (h : M Out) : Suite := fun a cls d D σ H => tS X F (fun _ _ _ _ => False) h D σ H
def sus0 (X : Cx) (F : Fr0) (l : List (Str × M Out)) : List (Value × Option Nat × Suite) := l.map fun p => (cval X p.1, none, tSu0 X F p.2)
end
/-- the body of a try -/
def lTry : Stmt → List Stmt
  | .Try b _ _ _ _ => b
  | _ => []
end Pd



namespace Pd
open PySem PySem.Spec PyProof.Rows L2
variable [Pd.LamTab]
structure RoomC (k : Nat) (A : Around) : Prop where
  dp : A.depth + 3 * k + 5 < recursionLimit
  un : A.units + 16 * k + 200 < cLine
theorem RoomC.deeper {k : Nat} {A : Around} (r : RoomC (k + 1) A) (env : Env) : RoomC k (A.deeper env) :=
  ⟨by have := r.dp; show A.depth + 1 + 3 * k + 5 < _; omega, by have := r.un; show A.units + 3 + 16 * k + 200 < _; omega⟩
theorem RoomC.depth {k : Nat} {A : Around} (r : RoomC k A) : A.depth < recursionLimit := by have := r.dp; omega
theorem RoomC.su {k : Nat} {X : Cx} {a : Addr} {pn : List (Addr × Obj)} (r : RoomC k X.A) : RoomC k (X.suite a pn).A := ⟨r.dp, r.un⟩
structure FnPC (P : Program) (w : World) (K : PySem.W.Frag) (mg : Str → Option Value) (base : Heap) (k : Nat) (f : Addr) (fd : FuncData) (ps : List Str) (m : Mir) : Prop where
  run : ∀ (A : Around) (outer : List Env) (s : Shared) (H : Hp) (args : Args) (us : List Value) (vs : List V) (Q : VK) (E : XK), RoomC k A → A.guards = some [] → Env0 P w K mg base A outer s H → BindsTo s fd args (ps.zip us) → Vals vs us →
    spF K mg ps.length m vs H Q E → codeAny (model P w) A (.call (.ref f) args) (CR (L2.CX P w) outer P w H s Q E) s
abbrev cxC (CX : CXT) (P : Program) (w : World) (K : PySem.W.Frag) (mg : Str → Option Value) (base : Heap) (N : List Str) (qual : Str) (scope : Scope) (f : Addr) (cd : Value) (A : Around) (outer : List Env) (s : Shared) (H : Hp) (E : XK) : Cx :=
  { cxOf CX P w K mg base N qual scope f cd A outer s H E with calm := false }
section
variable {X : Cx} {F : Fr0} {W : WX} {k : Nat} {f : Addr} {fd : FuncData} {ps ks : List Str} {m : Mir} {n j : Nat} {ds : List Value} {dvs : List V} {des : List Ent} {is : List Nat} {ma mk : M (List Ent)} {kws : List Keyword} {e : Expr} {x : Str} {p pos : Pos}
end
end Pd



namespace Pd
open PySem PySem.Spec PyProof.Rows L2
variable [Pd.LamTab]
abbrev tx (l : List Nat) : Str := ⟨l.toArray⟩
section
variable {X : Cx} {F : Fr0} {W : WX} {a b c e : Expr} {es : List Expr} {pos p p2 : Pos} {x : Str} {lo hi : Option Expr}
def gCatS : Dt → Dt → Option Dt
  | .str x, .str y => if x.length + y.length ≤ sizeLine then some (.str (tx (x.cps.toList ++ y.cps.toList))) else none
  | _, _ => none
def gAddS (a b : Dt) : Option Dt := (gAdd a b).or (gCatS a b)
/-- a text so often -/
def gRepS : Dt → Dt → Option Dt
  | .str x, .int n => if 0 ≤ n ∧ n ≤ 1000 ∧ x.length ≤ 16 then some (.str (Txt.mul x n)) else none
  | _, _ => none
def gMulS (a b : Dt) : Option Dt := (gMul a b).or (gRepS a b)
/-- a sign in a text, or what it was in a list -/
def gInT : Dt → Dt → Option Dt
  | .str x, .str z => match x.cps.toList with
    | [c] => some (.bl (decide (c ∈ z.cps.toList)))
    | _ => none
  | _, _ => none
def gInS (a b : Dt) : Option Dt := (gIn a b).or (gInT a b)
def cutT (l : List Nat) (lo hi : Option Int) : List Nat := (l.drop (HT.sIx l.length 0 lo)).take (HT.sIx l.length l.length hi - HT.sIx l.length 0 lo)
def gSlS (x : Dt) (lo hi : Option Int) : Option Dt := match x with
  | .str z => if z.length ≤ sizeLine then some (.str (tx (cutT z.cps.toList lo hi))) else none
  | _ => none
def mSlS (ma : M Dt) (ml mh : M (Option Int)) : M Dt := bnd ma fun x => bnd ml fun l => bnd mh fun u => opt (gSlS x l u)
def sgn1 (c : Nat) : Dt := .str (tx [c])
def seqS : Dt → Option (List Dt)
  | .str z => some (z.cps.toList.map sgn1)
  | _ => none
def mSeqS (ma : M Dt) : M (List Dt) := bnd ma fun d => opt (seqS d)
def gStr : List Dt → Option Dt
  | [.int i] => if i.natAbs.log2 < 1920 then some (.str (toString i)) else none
  | _ => none
def gIntT : List Dt → Option Dt
  | [.str z] => if z.length ≤ 640 then (intText? z).map Dt.int else none
  | _ => none
def gIntS (l : List Dt) : Option Dt := (gInt l).or (gIntT l)
end
end Pd



namespace Pd
open PySem PySem.Spec PyProof.Rows L2
variable [Pd.LamTab]
section
variable {X : Cx} {F : Fr0} {W : WX} {a b c e o : Expr} {es : List Expr} {pos p p2 : Pos} {x : Str} {st : Stmt} {sts : List Stmt}
def PDT (X : Cx) (F : Fr0) (W : WX) (e : Expr) (m : M Dt) : Prop := PET X e (tD X F W m)
def PADT (X : Cx) (F : Fr0) (W : WX) (es : List Expr) (m : M (List Dt)) : Prop := PAT X es (tA X F W m)
def PSDsT (X : Cx) (F : Fr0) (W : WX) (st : List Stmt) (m : M Out) : Prop := PSsT X st (tS X F W m)
def PSDT (X : Cx) (F : Fr0) (W : WX) (st : Stmt) (m : M Out) : Prop := PST X st (tS X F W m)
def mRepl (ma : M Dt) (y z : Str) : M Dt := bnd ma fun d => match d with
  | .str x => if x.length + (x.length + 1) * z.length ≤ 16777216 then ret (.str (Txt.replace x y z)) else bad
  | _ => bad
def strsOf : List Dt → Option (List Str)
  | [] => some []
  | .str x :: l => (strsOf l).map fun r => x :: r
  | _ => none
def gInP : Dt → Dt → Option Dt
  | .str x, .tup l => (strsOf l).map fun ss => .bl (inV (.str x) (ss.map V.str))
  | _, _ => none
def gIn3 (a b : Dt) : Option Dt := (gInS a b).or (gInP a b)
end
end Pd



namespace Pd
open PySem PySem.Spec
variable {ρ : DEnv} {θ : Pot}
theorem addS_i (i j : Int) {Q : Dt → Pot → Prop} : Gv (opt (gAddS (.int i) (.int j)) ρ θ) Q = Q (.int (i + j)) θ := rfl
theorem mulS_i (i j : Int) {Q : Dt → Pot → Prop} : Gv (opt (gMulS (.int i) (.int j)) ρ θ) Q = ((small i && small j) = true ∧ Q (.int (i * j)) θ) := by
  by_cases h : (small i && small j) = true
  · have e : gMulS (.int i) (.int j) = some (.int (i * j)) := by
      unfold gMulS gMul gI
      simp only [h, if_true]
      rfl
    rw [e, gv_opt]
    exact propext ⟨fun q => ⟨h, q⟩, fun q => q.2⟩
  · have e : gMulS (.int i) (.int j) = none := by
      unfold gMulS gMul gI
      simp only [h, Bool.false_eq_true, if_false]
      rfl
    rw [e]
    exact propext ⟨fun q => q.elim, fun q => h q.1⟩
theorem intS_i (i : Int) {Q : Dt → Pot → Prop} : Gv (opt (gIntS [.int i]) ρ θ) Q = Q (.int i) θ := rfl
theorem addS_t (l m : List Nat) {Q : Dt → Pot → Prop} : Gv (opt (gAddS (.str (tx l)) (.str (tx m))) ρ θ) Q = (l.length + m.length ≤ 16777216 ∧ Q (.str (tx (l ++ m))) θ) := by
  have e : gAddS (.str (tx l)) (.str (tx m)) = if l.length + m.length ≤ 16777216 then some (.str (tx (l ++ m))) else none := rfl
  rw [e]
  by_cases h : l.length + m.length ≤ 16777216
  · rw [if_pos h, gv_opt]
    exact propext ⟨fun q => ⟨h, q⟩, fun q => q.2⟩
  · rw [if_neg h]
    exact propext ⟨fun q => q.elim, fun q => h q.1⟩
theorem lenS_t (l : List Nat) {Q : Dt → Pot → Prop} : Gv (opt (gLen [.str (tx l)]) ρ θ) Q = (l.length ≤ 16777216 ∧ Q (.int (l.length : Nat)) θ) := by
  have e : gLen [.str (tx l)] = if l.length ≤ 16777216 then some (.int (l.length : Nat)) else none := rfl
  rw [e]
  by_cases h : l.length ≤ 16777216
  · rw [if_pos h, gv_opt]
    exact propext ⟨fun q => ⟨h, q⟩, fun q => q.2⟩
  · rw [if_neg h]
    exact propext ⟨fun q => q.elim, fun q => h q.1⟩
theorem tx_inj {l m : List Nat} : tx l = tx m ↔ l = m := by
  constructor
  · intro h
    have := congrArg (fun s : Str => s.cps.toList) h
    exact this
  · intro h
    rw [h]
theorem eqS_t (l m : List Nat) {Q : Dt → Pot → Prop} : Gv (opt (gEq (.str (tx l)) (.str (tx m))) ρ θ) Q = Q (.bl (decide (l = m))) θ := by
  rw [gv_eqS]
  congr 2
  exact decide_eq_decide.mpr tx_inj
theorem neS_t (l m : List Nat) {Q : Dt → Pot → Prop} : Gv (opt (gNe (.str (tx l)) (.str (tx m))) ρ θ) Q = Q (.bl (!decide (l = m))) θ := by
  show Q (.bl (!decide (tx l = tx m))) θ = _
  rw [decide_eq_decide.mpr tx_inj]
def slS0 (ml mh : M (Option Int)) (ρ : DEnv) (Q : Dt → Pot → Prop) : Dt → Pot → Prop := fun x θ => Gv (ml ρ θ) fun l θ => Gv (mh ρ θ) fun u θ => Gv (opt (gSlS x l u) ρ θ) Q
theorem gv_slS (ma : M Dt) (ml mh : M (Option Int)) {Q : Dt → Pot → Prop} : Gv (mSlS ma ml mh ρ θ) Q = Gv (ma ρ θ) (slS0 ml mh ρ Q) := by
  unfold mSlS slS0
  rw [gv_bnd]
  congr 1
  funext x θ
  rw [gv_bnd]
  congr 1
  funext l θ
  rw [gv_bnd]
theorem slS0_a (ml mh : M (Option Int)) (x : Dt) {Q : Dt → Pot → Prop} : slS0 ml mh ρ Q x θ = Gv (ml ρ θ) fun l θ => Gv (mh ρ θ) fun u θ => Gv (opt (gSlS x l u) ρ θ) Q := rfl
theorem slS_t (d : List Nat) (l u : Option Int) {Q : Dt → Pot → Prop} : Gv (opt (gSlS (.str (tx d)) l u) ρ θ) Q = (d.length ≤ 16777216 ∧ Q (.str (tx (cutT d l u))) θ) := by
  have e : gSlS (.str (tx d)) l u = if d.length ≤ 16777216 then some (.str (tx (cutT d l u))) else none := rfl
  rw [e]
  by_cases h : d.length ≤ 16777216
  · rw [if_pos h, gv_opt]
    exact propext ⟨fun q => ⟨h, q⟩, fun q => q.2⟩
  · rw [if_neg h]
    exact propext ⟨fun q => q.elim, fun q => h q.1⟩
theorem gv_seqS (ma : M Dt) {Q : List Dt → Pot → Prop} : Gv (mSeqS ma ρ θ) Q = Gv (ma ρ θ) fun d θ => Gv (opt (seqS d) ρ θ) Q := by
  unfold mSeqS
  rw [gv_bnd]
theorem seqS_t (l : List Nat) {Q : List Dt → Pot → Prop} : Gv (opt (seqS (.str (tx l))) ρ θ) Q = Q (l.map sgn1) θ := rfl
end Pd



namespace Pd
variable [Pd.LamTab]
open PySem PySem.Spec PyProof.Rows L2 PdX LamX
section
variable {X : Cx} {F : Fr0} {W : WX}
/-- the cells are neither frames nor of the base -/
structure CellOk (X : Cx) : Prop where
  base : ∀ b, cellC X b → X.base.objs.size ≤ b
  fr : ∀ b ∈ frs X.stack, ¬ cellC X b
def tLcL (X : Cx) (wi : TI) (g : TG) (tt : TT) (te : TE) (vs : List Nat) : TE := fun σ H Q => wi σ H fun J H1 => ∀ D, H1 D = none → ∀ HL, LkX X σ (upd H1 D (.lst [])) HL → ∃ W : Nat → Nat → Hp → Prop, (∃ m, W 0 m HL) ∧ ∀ i m H, W i m H →
  (J.stop i H ∧ ((∀ b, cellC X b → H b = HL b) → Q (.ref D) (offC (cellC X) H))) ∨ (J.go i H ∧ ∃ Nx : Hp → Prop, (∀ H', Nx H' → ∃ m', m' < m ∧ W (i + 1) m' H') ∧ ∀ x H', J.yld i H x H' → g x (wipe σ vs) H' fun σ2 H2 => wipe σ2 vs = wipe σ vs ∧ tt σ2 H2 fun b H3 =>
    if b = true then te σ2 H3 fun y H4 => ∃ acc, H4 D = some (.lst acc) ∧ acc.length < sizeLine ∧ Nx (upd H4 D (.lst (acc ++ [y]))) else Nx H3)
end
end Pd



namespace Pd
variable [Pd.LamTab]
open PySem PySem.Spec PyProof.Rows L2 PdX LamX
section
variable {X : Cx} {F : Fr0} {W : WX} {σ : L2.St} {H Hs H1 : Hp} {ρ : DEnv} {θ : Pot} {Ln : Addr → Prop}
end
section
variable {X : Cx} {F : Fr0} {W : WX} {elt tg iter : Expr} {ifs : List Expr} {scope : Scope} {own : List (Str × Nat)} {pos : Pos} {T : Tgt} {ms : M (List Dt)} {mt : M Bool} {me : M Dt}
/-- the mirror: the comprehension over an open list -/
def mCompL (cp : List (Nat × List Nat)) (i : Nat) (T : Tgt) (vs : List Nat) (tt : M Bool) (elt : M Dt) : M Dt := fun ρ θ => match ρ[i]? with
  | some (some (.opn (k :: ks))) => match closeKs cp ρ (k :: ks) with
    | some ds => if ds.length < bigL then (match compGo T vs tt elt ds (hide ρ) θ with
      | .ok ys θ' => if ys.all okRes = true then .ok (.lst ys) θ' else .bad
      | _ => .bad) else .bad
    | none => .bad
  | _ => .bad
end
end Pd



namespace Pd
variable [Pd.LamTab]
open PySem PySem.Spec PyProof.Rows L2 PdX LamX
/-- the element of a comprehension -/
def lComp : Expr → Expr
  | .ListComp e _ _ _ => e
  | _ => e0
section
variable {X : Cx} {F : Fr0} {W : WX}
variable {x y : Str} {p p2 pos lpos : Pos} {params : Arguments} {body : Expr} {scope : Scope} {es : List Expr}
end
section
variable {X : Cx}
end
section
variable {X : Cx} {F : Fr0} {W : WX} {elt tg iter : Expr} {ifs : List Expr} {scope : Scope} {own : List (Str × Nat)} {pos : Pos} {T : Tgt} {ms : M (List Dt)} {mt : M Bool} {me : M Dt}
end
end Pd



namespace Pd
variable [Pd.LamTab]
open PySem PySem.Spec PyProof.Rows L2 PdX LamX
section
variable {X : Cx} {F : Fr0} {W : WX} {e : Expr} {pos p p3 : Pos} {x : Str}
def mPotC (f : Mir) (ml : M (List Dt)) (n : Int) : M Dt := bnd ml fun l ρ θ => match l with
  | [.int i, .int j] => match f [.pot, .dat (.int n)] (i, j) with
    | .ok (.d d) _ => .ok d θ
    | _ => .bad
  | _ => .bad
end
end Pd



namespace Pd
variable [Pd.LamTab]
open PySem PySem.Spec PyProof.Rows L2
abbrev tkd (X : Cx) : HeapKind X.prog X.w (List Int) := tupleKind (intKind X.prog X.w)
section
variable {X : Cx} {pins : List (Addr × Obj)} {σ : L2.St} {H : Hp} {s : Shared} {a b : Addr} {e : List DE} {k : List Int}
theorem ints_are {P : Program} {w : World} : ∀ {ks : List Int} {us : List Value}, Vals (ks.map V.int) us → ItemsAre (intKind P w) ks us
  | [], _, r => by rw [List.map_nil] at r; cases r; exact .nil
  | k :: ks, _, r => by
    rw [List.map_cons] at r
    cases r with
    | cons h t =>
      obtain ⟨t', rfl⟩ := h
      exact .cons (show Value.isInt k (.int k t') = true by simp [Value.isInt]) (ints_are t)
theorem key_at (I : Inv X pins σ H s) (q : SqT X.K H b (k.map V.int)) : (tkd X).is s.heap k b := by
  obtain ⟨its, rv, ⟨o, h1, h2, n, h3⟩, _⟩ := I.tuple q
  exact ⟨o, its.toArray, n, h1, h2, h3, by simpa using ints_are rv⟩
theorem RelE.keys {e : List DE} {xs : List (List Int × Addr × Value)} (r : RelE e xs) : xs.map (·.1) = e.map (·.1) := by
  induction r with
  | nil => rfl
  | cons h t ih => rw [List.map_cons, List.map_cons, ih, h.1]
theorem RelE.ats {P : List Int → Addr → Prop} {e : List DE} {xs : List (List Int × Addr × Value)} (r : RelE e xs) (h : ∀ x ∈ e, P x.1 x.2.1) : ∀ x ∈ xs, P x.1 x.2.1 := by
  induction r with
  | nil => exact fun x hx => nomatch hx
  | @cons p q ps qs hq t ih =>
    intro x hx
    rcases List.mem_cons.mp hx with z | hx
    · subst z
      rw [← hq.1, ← hq.2.1]
      exact h p List.mem_cons_self
    · exact ih (fun y hy => h y (List.mem_cons_of_mem _ hy)) x hx
theorem dic_h (I : Inv X pins σ H s) {o : Obj} (w : DicW a e) (ho : s.heap.get? a = some o) (hd : DicObj e o) (at_ : KeysAt X.K H e) : ∃ xs, RelE e xs ∧ s.heap.DictOfH (tkd X) a xs := by
  obtain ⟨hx, es, ep, xs, h1, r, h2⟩ := hd
  refine ⟨xs, r, o, es, ep, ho, hx, h1, h2, r.ats (P := fun k b => (tkd X).is s.heap k b) fun x hx => key_at I (at_ x hx), ?_⟩
  rw [r.keys]
  exact w.nd
/-- a dict that may be read -/
def DAt (K : PySem.W.Frag) (H : Hp) (a : Addr) (e : List DE) : Prop := (H a = some (DicO a e) ∨ DicL H a e) ∧ KeysAt K H e
theorem dat_h (I : Inv X pins σ H s) (d : DAt X.K H a e) : DicW a e ∧ ∃ xs, RelE e xs ∧ s.heap.DictOfH (tkd X) a xs := by
  obtain ⟨h | h, at_⟩ := d
  · obtain ⟨⟨w, o, ho, hd⟩, _⟩ := (show ObjOk X.prog X.w H s.heap a (DicO a e) from I.hok a _ h)
    exact ⟨w, dic_h I w ho hd at_⟩
  · obtain ⟨w, o, _, ho, hd⟩ := dicL_obj I h
    exact ⟨w, dic_h I w ho hd at_⟩
theorem dat_ty (I : Inv X pins σ H s) (d : DAt X.K H a e) : s.TypeIs (.ref a) "dict" := by
  obtain ⟨_, xs, _, dd⟩ := dat_h I d
  exact dd.typeIs
theorem dat_nod (I : Inv X pins σ H s) (d : DAt X.K H a e) : ∀ b, Value.ref a = .ref b → ∃ ob, s.heap.get? b = some ob ∧ ob.dict = none := fun b q => by
  cases q
  obtain ⟨_, xs, _, o, es, ep, h1, h2, _⟩ := dat_h I d
  exact ⟨o, h1, h2.2.1⟩
/-- behind d[k] = v, the key's tuple at b -/
def putE (e : List DE) (k : List Int) (b : Addr) (v : V) : List DE := if (valE e k).isSome = true then e.map (fun x => if x.1 = k then (x.1, x.2.1, v) else x) else e ++ [(k, b, v)]
theorem RelE.repl {e : List DE} {xs : List (List Int × Addr × Value)} (r : RelE e xs) (k : List Int) {v : V} {u : Value} (rv : RelV v u) : RelE (e.map fun x => if x.1 = k then (x.1, x.2.1, v) else x) (xs.map (putAt k u)) := by
  induction r with
  | nil => exact .nil
  | @cons p q ps qs h t ih =>
    rw [List.map_cons, List.map_cons]
    refine .cons ?_ ih
    obtain ⟨h1, h2, h3⟩ := h
    unfold putAt
    by_cases z : p.1 = k
    · rw [if_pos z, if_pos (h1.symm.trans z)]
      exact ⟨h1, h2, rv⟩
    · rw [if_neg z, if_neg (fun w => z (h1.trans w))]
      exact ⟨h1, h2, h3⟩
theorem RelE.put {e : List DE} {xs : List (List Int × Addr × Value)} (r : RelE e xs) (k : List Int) (b : Addr) {v : V} {u : Value} (rv : RelV v u) : RelE (putE e k b v) (storedH xs k b u) := by
  have z : (valE e k).isSome = (atKey xs k).isSome := by
    rw [(r.val k).isSome_eq, Option.isSome_map]
  unfold putE storedH
  rw [z]
  by_cases q : (atKey xs k).isSome = true
  · rw [if_pos q, if_pos q]
    exact r.repl k rv
  · rw [if_neg q, if_neg q]
    exact Paired.snoc r ⟨rfl, rfl, rv⟩
theorem putE_len (e : List DE) (k : List Int) (b : Addr) (v : V) : (putE e k b v).length ≤ e.length + 1 := by
  unfold putE
  split
  · rw [List.length_map]
    omega
  · rw [List.length_append, List.length_cons, List.length_nil]
    omega
theorem putE_at {K : PySem.W.Frag} {v : V} (at_ : KeysAt K H e) (q : SqT K H b (k.map V.int)) : KeysAt K H (putE e k b v) := by
  intro x hx
  unfold putE at hx
  split at hx
  · obtain ⟨y, hy, rfl⟩ := List.mem_map.mp hx
    by_cases z : y.1 = k
    · rw [if_pos z]
      exact at_ y hy
    · rw [if_neg z]
      exact at_ y hy
  · rcases List.mem_append.mp hx with hx | hx
    · exact at_ x hx
    · rw [List.mem_singleton.mp hx]
      exact q
/-- d[k] -/
def rIxQ (K : PySem.W.Frag) : R2 := fun x y H Q => ∃ a e k b v, x = .ref a ∧ y = .ref b ∧ DAt K H a e ∧ SqT K H b (k.map V.int) ∧ valE e k = some v ∧ Q v H
theorem ix_dic (hu : X.A.units + 1 < cLine) : IxR X (rIxQ X.K) := by
  intro value slice pins s σ H x y v u Q I rx ry h hs
  obtain ⟨a, e, k, b, z, rfl, rfl, d, kb, hv, q⟩ := h
  cases rx
  cases ry
  obtain ⟨w, xs, r, dd⟩ := dat_h I d
  obtain ⟨w', hw, rw'⟩ := RelO.some_of (v := z) (o := (atKey xs k).map (·.2)) (by rw [← hv]; exact r.val k)
  obtain ⟨p, hp, hp2⟩ := Option.map_eq_some_iff.mp hw
  refine tail_any dd.typeIs PySem.F.slot_dict_getitem.lookup (wpAny_getItem_heap (tupleKind_room_in1 hu) (key_at I kb) dd hp ?_) hs
  rw [hp2]
  exact ⟨z, H, I.tok _, rw', q⟩
/-- d.get(y, z) -/
def tQGet (K : PySem.W.Frag) (td ty tx : TE) : TE := fun σ H Q => td σ H fun x H1 => ∃ a, x = .ref a ∧ (∃ e, DAt K H1 a e) ∧ ty σ H1 fun y H2 => tx σ H2 fun z H3 => ∃ e k b, DAt K H3 a e ∧ y = .ref b ∧ SqT K H3 b (k.map V.int) ∧ Q ((valE e k).getD z) H3
theorem pe_qget {o i f : Expr} {apos cpos : Pos} {td ty tx : TE} (hu : X.A.units + 1 < cLine) (ho : PE X o td) (he : PE X i ty) (hf : PE X f tx) (m : M2 X o "get" apos i f cpos) : PE X (.Call (.Attribute o "get" apos) [i, f] [] cpos) (tQGet X.K td ty tx) := by
  refine ⟨fun pins s σ H Q I h => ?_⟩
  refine wpAny_Call_method m.base m.few m.line PySem.F.plainAttrs_dict PySem.F.slot_dict_get PySem.F.type_dict_get (thn (ho.run pins s σ H _ I h) fun u s1 ⟨x, H1, I1, rx, a, ex, ⟨e, d⟩, q1⟩ => ?_)
  subst ex
  obtain rfl : u = Value.ref a := rx
  refine ⟨dat_ty I1 d, dat_nod I1 d, ?_⟩
  rw [m.trees]
  refine Calls.callWith_builtin rfl (Calls.evalArgs_plain (Calls.spliced_cons (thn (he.run pins s1 σ H1 _ I1 q1) fun iv s2 ⟨y, H2, I2, ry, q2⟩ =>
    Calls.spliced_cons (thn (hf.run pins s2 σ H2 _ I2 q2) fun fv s3 ⟨z, H3, I3, rz, e3, k, b, d3, ey, kb, q3⟩ => Calls.spliced_nil ?_))))
  subst ey
  obtain rfl : iv = Value.ref b := ry
  obtain ⟨w, xs, r, dd⟩ := dat_h I3 d3
  refine call_meetsIn PySem.F.slot_dict_get dd.typeIs PySem.F.entry_dict_get (PySem.F.args_dict_get_3 _ _ _) (meetsH_dict_get_default (tkd X) a b w.sys fv) ⟨tupleKind_room_in1 hu, k, xs, key_at I3 kb, dd, ⟨_, H3, I3.tok _, ?_, q3⟩⟩
  exact (r.val k).getD rz
/-- d[y] = v -/
def sQPut (K : PySem.W.Frag) (td ty tv : TE) : TS := fun D σ H => tv σ H fun v H1 => td σ H1 fun x H2 => ty σ H2 fun y H3 => ∃ a e k b, x = .ref a ∧ H3 a = some (DicO a e) ∧ KeysAt K H3 e ∧ y = .ref b ∧ SqT K H3 b (k.map V.int) ∧ e.length < sizeLine ∧ D.nx σ (upd H3 a (DicO a (putE e k b v)))
theorem dicW_put {e : List DE} {k : List Int} {b : Addr} {v : V} (w : DicW a e) (hl : e.length < sizeLine) (nd : ((putE e k b v).map (·.1)).Nodup) : DicW a (putE e k b v) := ⟨w.sys, by have := putE_len e k b v; omega, nd⟩
theorem ps_qput {o i value : Expr} {pos pos' : Pos} {td ty tv : TE} (hu : X.A.units + 1 < cLine) (ho : PE X o td) (hi : PE X i ty) (hv : PE X value tv) (hs : swapsWith value (some (.Subscript o i pos')) pos.line X.env = pure false) :
    PS X (.Assign [.Subscript o i pos'] value pos) (sQPut X.K td ty tv) := by
  refine ⟨fun pins s σ H D I h => ?_⟩
  refine wpAny_Assign_Subscript (thn (hv.run pins s σ H _ I h) fun r s1 ⟨v, H1, I1, rv, q1⟩ => thn (ho.run pins s1 σ H1 _ I1 q1) fun u s2 ⟨x, H2, I2, rx, q2⟩ => thn (hi.run pins s2 σ H2 _ I2 q2) fun iv s3 ⟨y, H3, I3, ry, a, e, k, b, ex, ea, at_, ey, kb, hl, q3⟩ => ?_) hs
  subst ex ey
  obtain rfl : u = Value.ref a := rx
  obtain rfl : iv = Value.ref b := ry
  obtain ⟨w, xs, rel, dd⟩ := dat_h I3 ⟨Or.inl ea, at_⟩
  have hz : xs.length ≤ sizeLine := by rw [← rel.len]; omega
  refine wpAny_setItem_heap (hsz := hz) (tupleKind_room_in1 hu) (key_at I3 kb) dd fun h' dd' hs => ?_
  obtain ⟨q, es, ep, hq, h2, h3, h4, _, h5⟩ := dd'
  have rel' := rel.put k b rv
  refine ⟨σ, _, d_write I3 (by rw [ea]; exact True.intro) hs ⟨q, hq⟩ (dicO_ok (dicW_put w hl ?_) hq ⟨h2, es, ep, _, h3, rel', h4⟩), q3⟩
  rw [← rel'.keys]
  exact h5
end
end Pd



namespace Pd
variable [Pd.LamTab]
open PySem PySem.Spec PyProof.Rows L2
section
variable {X : Cx} {pins : List (Addr × Obj)} {σ : L2.St} {H : Hp} {s : Shared} {a b : Addr} {e : List DE} {k : List Int}
theorem dat_raw (I : Inv X pins σ H s) (d : DAt X.K H a e) : DicW a e ∧ ∃ o, s.heap.get? a = some o ∧ DicObj e o := by
  obtain ⟨h | h, at_⟩ := d
  · obtain ⟨⟨w, o, ho, hd⟩, _⟩ := (show ObjOk X.prog X.w H s.heap a (DicO a e) from I.hok a _ h)
    exact ⟨w, o, ho, hd⟩
  · obtain ⟨w, o, _, ho, hd⟩ := dicL_obj I h
    exact ⟨w, o, ho, hd⟩
theorem relE_refs : ∀ {e : List DE} {xs : List (List Int × Addr × Value)}, RelE e xs → (xs.map fun x => x.2.1) = e.map fun x => x.2.1
  | _, _, .nil => rfl
  | _, _, .cons h t => by rw [List.map_cons, List.map_cons, relE_refs t, h.2.1]
/-- list(d) -/
theorem call_listQ (hc : X.calm = true) : CallR X (.type "list") (fun xs H Q => ∃ d e, xs = [V.ref d] ∧ DAt X.K H d e ∧ ∀ p, H p = none → Q (.ref p) (upd H p (.lst (e.map fun x => V.ref x.2.1)))) := by
  intro pins s σ H xs us Q I r h
  obtain ⟨d, e, rfl, hd, q⟩ := h
  obtain ⟨u, rfl, rx⟩ := r.one
  cases rx
  obtain ⟨w, o, ho, hx, es, ep, ks, hdt, pr, he⟩ := dat_raw I hd
  have l1 : es.size = ks.length := by
    have := congrArg List.length he
    rw [List.length_map, Array.length_toList] at this
    exact this
  have l2 : e.length = ks.length := pr.len
  have wl := w.len
  refine PySem.W.kdl_call (kdl_raw w.sys hx hdt) (I.ok.hd hc) ho (by omega) fun h' tk acc' c' kp e' it => ?_
  have ea : acc'.toList = ks.map fun x => Value.ref x.2.1 := by
    have hl : acc'.toList.length = ks.length := by rw [Array.length_toList, it.1]; exact l1
    apply List.ext_getElem?
    intro j
    rw [List.getElem?_map]
    cases hj : acc'.toList[j]? with
    | none =>
      have h1 := List.getElem?_eq_none_iff.mp hj
      rw [List.getElem?_eq_none (by omega)]
      all_goals rfl
    | some v =>
      obtain ⟨en, hen, hv⟩ := it.2 j v (by rw [← Array.getElem?_toList]; exact hj)
      have qe : es.toList[j]? = (ks.map entT)[j]? := by rw [he]
      rw [Array.getElem?_toList, hen, List.getElem?_map] at qe
      cases hb : ks[j]? with
      | none =>
        rw [hb] at qe
        exact nomatch (show some en = none from qe)
      | some b =>
        rw [hb] at qe
        have e2 : en = entT b := Option.some.inj qe
        rw [hv, e2]
        all_goals rfl
  have eb : acc'.toList = (e.map fun x => x.2.1).map Value.ref := by rw [ea, ← relE_refs pr, List.map_map]; all_goals rfl
  have ec : (e.map fun x => V.ref x.2.1) = (e.map fun x => x.2.1).map V.ref := by rw [List.map_map]; all_goals rfl
  have rv : Vals (e.map fun x => V.ref x.2.1) acc'.toList := by rw [eb, ec]; exact vals_refs _
  have hz : (e.map fun x => V.ref x.2.1).length ≤ sizeLine := by rw [List.length_map]; omega
  refine ⟨.ref s.heap.objs.size, _, I.laid (t' := tk) (o := .lst (e.map fun x => V.ref x.2.1)) kp (Nat.le_refl _) ?_, rfl, q _ (I.hok.fresh (Nat.le_refl _))⟩
  exact ⟨hz, acc'.toList, c', rv, by rw [Array.toArray_toList]; exact e'⟩
/-- for k in d, d data -/
def Itq (d : Addr) (o : Obj) (e : List DE) : It :=
  ⟨fun i H => H d = some (.frz o (DicO d e)) ∧ i < e.length, fun i H x H' => H' = H ∧ ∃ q : DE, e[i]? = some q ∧ x = .ref q.2.1, fun i H => H d = some (.frz o (DicO d e)) ∧ e.length ≤ i⟩
theorem frzQ {o : Obj} (I : Inv X pins σ H s) (h : H a = some (.frz o (DicO a e))) : (a == sysModules) = false ∧ s.heap.get? a = some o ∧ o.ExactDict ∧ ∃ (es : Array DictEntry) (ep : Nat), o.data = .dict es ep ∧ es.size = e.length ∧
    ∀ (i : Nat) (q : DE), e[i]? = some q → ∃ en : DictEntry, es[i]? = some en ∧ en.key = .ref q.2.1 := by
  obtain ⟨hg, ⟨w, o', ho, hx, es, ep, ks, hdt, pr, he⟩, _⟩ := (show ObjOk X.prog X.w H s.heap a (.frz o (DicO a e)) from I.hok a _ h)
  rw [hg] at ho
  cases ho
  have l1 : es.size = ks.length := by
    have := congrArg List.length he
    rw [List.length_map, Array.length_toList] at this
    exact this
  refine ⟨w.sys, hg, hx, es, ep, hdt, l1.trans pr.len.symm, fun i q hq => ?_⟩
  have l2 := pr.len
  have hi : i < ks.length := by rw [← l2]; exact (List.getElem?_eq_some_iff.mp hq).1
  have qe : es.toList[i]? = (ks.map entT)[i]? := by rw [he]
  rw [Array.getElem?_toList, List.getElem?_map, List.getElem?_eq_getElem hi] at qe
  refine ⟨_, qe, ?_⟩
  have z : (ks.map fun x => x.2.1)[i]? = (e.map fun x => x.2.1)[i]? := by rw [relE_refs pr]
  rw [List.getElem?_map, List.getElem?_map, hq, List.getElem?_eq_getElem hi] at z
  exact congrArg Value.ref (Option.some.inj z)
theorem turn_q {P : Program} {w : World} {K : PySem.W.Frag} {tg : Expr} {d : Addr} {o : Obj} {es : Array DictEntry} {ep : Nat} {e : List DE} (it : Addr) (hod : o.data = .dict es ep) : Turn P w K tg (Itq d o e) [it] it (fun i h => h.IsKeyIter it d i e.length ep) where
  mem := by simp
  obj := fun i h st b hb => by
    have e : b = it := by simpa using hb
    subst e
    obtain ⟨oi, e, c, dd⟩ := st
    exact ⟨oi, e, fun v z => by rw [dd] at z; cases z⟩
  keep := fun i h h' st k => st.at fun oi e => k it (by simp) oi e
  item := by
    intro X hP hw hK hc i pins s σ H E I hf st hg
    subst hP hw hK
    obtain ⟨hd, hi⟩ := hg
    obtain ⟨f0, f1, f2, f3, f4, f5⟩ := hf it (by simp)
    obtain ⟨hs, hgd, hx, es', ep', hdt, hsz, ent⟩ := frzQ I hd
    obtain ⟨rfl, rfl⟩ := dict_ep hod hdt
    obtain ⟨q, hkv⟩ : ∃ p, e[i]? = some p := ⟨e[i], List.getElem?_eq_getElem hi⟩
    obtain ⟨en, hen, hkey⟩ := ent i q hkv
    refine next_key_item st hgd hdt hsz hen fun h' st' sb => ?_
    have I1 : Inv X pins σ H { s with heap := h' } := I.turned (t' := s.toks) (fun b ob hb e => (sb.2 b hb).trans e) f0 f1 f3 f4 f5
    obtain ⟨oi, e, c, dd⟩ := id st'
    exact ⟨en.key, rfl, go_of (s := { s with heap := h' }) e c dd (by decide) ⟨.ref q.2.1, H, I1, hkey, ⟨rfl, q, hkv, rfl⟩, st', fun b hb => (hf b hb).1⟩⟩
  done := by
    intro X hP hw hK hc i pins s σ H E I hf st hg
    subst hP hw hK
    obtain ⟨hd, hi⟩ := hg
    obtain ⟨f0, f1, f2, f3, f4, f5⟩ := hf it (by simp)
    obtain ⟨hs, hgd, hx, es', ep', hdt, hsz, ent⟩ := frzQ I hd
    obtain ⟨rfl, rfl⟩ := dict_ep hod hdt
    exact next_key_end (I.ok.hd hc) st hgd hdt hsz hi fun h' eb => ⟨rfl, I.turned (t' := s.toks) (fun b ob hb e => eb b ob hb e) f0 f1 f3 f4 f5⟩
  self := fun A i s Q E st h => wpAny_pyIter_keyiter st h
/-- a list, a tuple, a dict -/
def iSeqQ (K : PySem.W.Frag) (tl : TE) : TI := fun σ H R => tl σ H fun x H1 => ∃ a, x = .ref a ∧ ((∃ xs, SqL K H1 a xs ∧ R (Itl K a) H1) ∨ (∃ xs, SqT K H1 a xs ∧ R (Itt K a) H1) ∨ (∃ o e, H1 a = some (.frz o (DicO a e)) ∧ R (Itq a o e) H1))
theorem pi_seqQ {tg l : Expr} {tl : TE} (hl : PE X l tl) : PI X tg l (iSeqQ X.K tl) := by
  refine ⟨fun pins s σ H R I h => ?_⟩
  refine thn (hl.run pins s σ H _ I h) fun v s1 ⟨x, H1, I1, r1, q1⟩ => ?_
  obtain ⟨a, rfl, q1⟩ := q1
  cases r1
  have fresh : ∀ {o : Obj}, ∀ b ∈ [s1.heap.objs.size], FpOk X pins H1 b := fun {o} b hb => by
    have e := List.mem_singleton.mp hb
    subst e
    exact I1.fpOk (Nat.le_refl _) (I1.hok.fresh (Nat.le_refl _))
  rcases q1 with ⟨xs, hq, q⟩ | ⟨xs, hq, q⟩ | ⟨o, e, hd, q⟩
  · obtain ⟨its, rv, pl, hz⟩ := I1.list hq
    refine wpAny_pyIter_list pl.isList ?_
    exact ⟨_, [s1.heap.objs.size], _, Itl X.K a, H1, rfl, I1.kept (t' := s1.toks) fun b o z => Heap.get?_push_of_some _ z, turn_list a _, ⟨_, Heap.get?_push_size _ rfl, rfl, rfl⟩, fresh (o := default), q⟩
  · obtain ⟨its, rv, pl, hz⟩ := I1.tuple hq
    refine wpAny_pyIter_tuple (show s1.heap.IsTuple a its.toArray from pl) ?_
    exact ⟨_, [s1.heap.objs.size], _, Itt X.K a, H1, rfl, I1.kept (t' := s1.toks) fun b o z => Heap.get?_push_of_some _ z, turn_tuple a _, ⟨_, Heap.get?_push_size _ rfl, rfl, rfl⟩, fresh (o := default), q⟩
  · obtain ⟨hs, hgd, hx, es, ep, hdt, hsz, ent⟩ := frzQ I1 hd
    refine iter_keys hs hgd hx hdt (pi_one (tk := s1.toks) I1 _ (turn_q _ hdt) ⟨_, Heap.get?_push_size _ rfl, rfl, ?_⟩ q)
    rw [hsz] <;> rfl
/-- len(d) -/
theorem call_lenQ : CallR X (.builtin "len") (fun xs H Q => ∃ d e, xs = [V.ref d] ∧ DAt X.K H d e ∧ Q (.int e.length) H) := by
  intro pins s σ H xs us Q I r h
  obtain ⟨d, e, rfl, hd, q⟩ := h
  obtain ⟨u, rfl, rx⟩ := r.one
  cases rx
  obtain ⟨w, ks, pr, dd⟩ := dat_h I hd
  have l2 : e.length = ks.length := pr.len
  have wl := w.len
  exact call_len_dictH w.sys dd (by rw [sizeLine_eq] at wl; omega) ⟨.int e.length, H, I.tok _, ⟨_, by rw [← l2]⟩, q⟩
def putAllE (e ps : List DE) : List DE := ps.foldl (fun acc x => putE acc x.1 x.2.1 x.2.2) e
theorem RelE.putAll : ∀ {ps : List DE} {rs : List (List Int × Addr × Value)} {e : List DE} {xs : List (List Int × Addr × Value)}, RelE ps rs → RelE e xs → RelE (putAllE e ps) (storedAllH xs rs)
  | _, _, _, _, .nil, r => r
  | _, _, _, xs, .cons (a := p) (b := q) h t, r => by
    have r' := r.put p.1 p.2.1 h.2.2
    have z : storedH xs p.1 p.2.1 q.2.2 = storedH xs q.1 q.2.1 q.2.2 := by rw [h.1, h.2.1]
    rw [z] at r'
    have w := RelE.putAll t r'
    exact w
theorem putAllE_len : ∀ (ps e : List DE), (putAllE e ps).length ≤ e.length + ps.length
  | [], e => by show e.length ≤ e.length + 0; omega
  | p :: ps, e => by
    have h1 := putAllE_len ps (putE e p.1 p.2.1 p.2.2)
    have h2 := putE_len e p.1 p.2.1 p.2.2
    show (putAllE (putE e p.1 p.2.1 p.2.2) ps).length ≤ _
    rw [List.length_cons]
    omega
/-- the pairs, each a tuple of a key tuple and a value -/
def PairsAt (K : PySem.W.Frag) (H : Hp) (ts : List Addr) (ps : List DE) : Prop := Paired (fun t x => SqT K H t [.ref x.2.1, x.2.2]) ts ps
theorem pairsAt_get {ts : List Addr} {ps : List DE} (I : Inv X pins σ H s) (h : PairsAt X.K H ts ps) : ∃ vs : List (Value × Value), ∃ rs : List (List Int × Addr × Value), RelE ps rs ∧ vs.length = ts.length ∧ rs.length = ts.length ∧ ∀ (j : Nat) (k v : Value), vs[j]? = some (k, v) → ∃ t r, ts[j]? = some t ∧ rs[j]? = some r ∧ k = .ref r.2.1 ∧ v = r.2.2 ∧ s.heap.IsTuple t #[k, v] := by
  induction h with
  | nil => exact ⟨[], [], .nil, rfl, rfl, fun j k v z => by simp at z⟩
  | @cons t x ts ps h tl ih =>
    obtain ⟨vs, rs, r, l1, l2, g⟩ := ih
    obtain ⟨its, rv, ht, _⟩ := I.tuple h
    obtain ⟨u, y, ei, ru, ry⟩ := vals2 rv
    subst ei
    obtain rfl : u = Value.ref x.2.1 := ru
    refine ⟨(.ref x.2.1, y) :: vs, (x.1, x.2.1, y) :: rs, .cons ⟨rfl, rfl, ry⟩ r, by rw [List.length_cons, List.length_cons, l1], by rw [List.length_cons, List.length_cons, l2], fun j k v z => ?_⟩
    cases j with
    | zero =>
      cases (show some _ = some _ from z)
      exact ⟨t, _, rfl, rfl, rfl, rfl, ht⟩
    | succ j =>
      obtain ⟨t', r', e1, e2, e3⟩ := g j k v (by simpa using z)
      exact ⟨t', r', by simpa using e1, by simpa using e2, e3⟩
theorem refs_at' : ∀ {ps : List Addr} {us : List Value}, Vals (ps.map V.ref) us → us = ps.map Value.ref
  | [], us, r => by
    rw [List.map_nil] at r
    cases r
    rfl
  | p :: ps, us, r => by
    rw [List.map_cons] at r
    cases r with
    | cons h t =>
      cases h
      rw [List.map_cons, ← refs_at' t]
/-- dict(l), l a list of pairs -/
theorem call_dictQ (hu : X.A.units + 3 < cLine) (hcalm : X.calm = true) : CallR X (.type "dict") (fun xs H Q => ∃ (a : Addr) (ts : List Addr) (ps : List DE), xs = [V.ref a] ∧ SqL X.K H a (ts.map V.ref) ∧ PairsAt X.K H ts ps ∧ KeysAt X.K H ps ∧
    ∀ p, H p = none → Q (.ref p) (upd H p (DicO p (putAllE [] ps)))) := by
  intro pins s σ H xs us Q I r q
  obtain ⟨a, ts, ps, ex, hq, hp, hk, q⟩ := q
  subst ex
  obtain ⟨u, eu, rx⟩ := vals1 r
  subst eu
  cases rx
  obtain ⟨its, rv, pl, hz⟩ := I.list hq
  have ei := refs_at' rv
  subst ei
  rw [List.length_map] at hz
  obtain ⟨vs, rs, rel, l1, l2, hpr⟩ := pairsAt_get I hp
  obtain ⟨o, n, ho, hc, hd, hdat⟩ := pl
  have hat : ∀ x ∈ rs, (tkd X).is s.heap x.1 x.2.1 := rel.ats (P := fun k b => (tkd X).is s.heap k b) fun x hx => key_at I (hk x hx)
  refine call_dict_pairsH (knd := tkd X) (ps := rs) (PairArg.list a (ts.map Value.ref).toArray (fun j => ts.getD j 0) vs) (I.ok.hd hcalm) (show X.A.in1.in1.units < cLine by have e : X.A.in1.in1.units = X.A.units + 1 + 1 := rfl; omega)
    ⟨⟨o, n, ho, hc, hd, hdat⟩, by simp [l1], fun j k v z => ?_⟩ ⟨by rw [l2, l1], fun i key v z => ?_⟩ (fun h' hk' x hx => ?_) (by rw [l1]; exact hz) fun h' tk hd' k => ?_
  · obtain ⟨t, r, e1, e2, e3, e4, e5⟩ := hpr j k v z
    have e6 : ts.getD j 0 = t := by rw [List.getD_eq_getElem?_getD, e1] <;> rfl
    refine ⟨?_, ?_⟩
    · show (List.map Value.ref ts).toArray[j]? = some (Value.ref (ts.getD j 0))
      rw [e6, List.getElem?_toArray, List.getElem?_map, e1] <;> rfl
    · show PairAt s.heap (ts.getD j 0) k v
      rw [e6]
      exact .inl e5
  · obtain ⟨t, r, e1, e2, e3, e4, e5⟩ := hpr i key v z
    exact ⟨r.1, r.2.1, by rw [e2, e4], e3⟩
  · obtain ⟨o2, items, n2, h1, h2, h3, h4⟩ := hat x hx
    exact ⟨o2, items, n2, hk' _ _ (Nat.ne_of_lt (Heap.lt_size h1)) (fun w => nomatch w) h1, h2, h3, h4⟩
  · have hm : (s.heap.objs.size == sysModules) = false := beq_eq_false_iff_ne.mpr (Nat.ne_of_gt I.big)
    have rel' := RelE.putAll rel (.nil : RelE [] [])
    obtain ⟨o', es, ep, g1, g2, g3, g4, _, g5⟩ := hd'
    have hlen : (putAllE [] ps).length ≤ sizeLine := by
      refine Nat.le_trans (putAllE_len ps []) ?_
      rw [List.length_nil, Nat.zero_add, rel.len, l2]
      exact hz
    refine ⟨.ref s.heap.objs.size, _, I.laid (t' := tk) (fun b o z => k b o (fun w => nomatch w) z) (Nat.le_refl _) (dicO_ok ⟨hm, hlen, ?_⟩ g1 ⟨g2, es, ep, _, g3, rel', g4⟩), rfl, q _ (I.hok.fresh (Nat.le_refl _))⟩
    rw [← rel'.keys]
    exact g5
end
end Pd



namespace Pd
variable [Pd.LamTab]
open PySem PySem.Spec PyProof.Rows L2
def dGet : List (List Int) → List Dt → List Int → Option Dt
  | k :: ks, d :: vs, j => if k = j then some d else dGet ks vs j
  | _, _, _ => none
def dMap : List (List Int) → List Dt → List Int → Dt → List Dt
  | k :: ks, d :: vs, j, x => (if k = j then x else d) :: dMap ks vs j x
  | _, _, _, _ => []
def dPut (c : KD) (j : List Int) (x : Dt) : KD := if (dGet c.1 c.2 j).isSome = true then (c.1, dMap c.1 c.2 j x) else (c.1 ++ [j], c.2 ++ [x])
def keyD (k : List Int) : Dt := .tup (k.map Dt.int)
/-- a key, as data -/
def keyOf : Dt → Option (List Int)
  | .tup l => intsOf l
  | _ => none
def pairOf : Dt → Option (List Int × Dt)
  | .tup [k, d] => (keyOf k).map fun k => (k, d)
  | _ => none
def pairsOf : List Dt → Option (List (List Int × Dt))
  | [] => some []
  | d :: l => match pairOf d, pairsOf l with
    | some p, some ps => some (p :: ps)
    | _, _ => none
def dAll (c : KD) (ps : List (List Int × Dt)) : KD := ps.foldl (fun c p => dPut c p.1 p.2) c
section
variable {K : PySem.W.Frag} {H : Hp}
theorem key_rep {k : Dt} {x : V} {j : List Int} (e : keyOf k = some j) (r : Rep K H k x) : ∃ b, x = .ref b ∧ SqT K H b (j.map V.int) := by
  cases k with
  | tup l =>
    obtain ⟨b, xs, rfl, h1, h2⟩ := r
    have e' : intsOf l = some j := e
    rw [intsOf_eq e'] at h2
    rw [Reps.ints h2] at h1
    exact ⟨b, rfl, h1⟩
  | _ => cases e
theorem keyD_rep {j : List Int} {b : Addr} (h : SqT K H b (j.map V.int)) : Rep K H (keyD j) (.ref b) := ⟨b, _, rfl, h, Reps.of_ints j⟩
theorem dGet_rep : ∀ {e : List DE} {vs : List Dt} (k : List Int), Reps K H vs (e.map (·.2.2)) → (∀ d, dGet (e.map (·.1)) vs k = some d → ∃ v, valE e k = some v ∧ Rep K H d v) ∧ (dGet (e.map (·.1)) vs k = none → valE e k = none)
  | [], vs, k, r => ⟨fun d h => (by cases vs <;> cases h), fun _ => rfl⟩
  | p :: e, [], k, r => by
    rw [List.map_cons] at r
    cases (show _ = [] from r)
  | p :: e, d :: vs, k, r => by
    rw [List.map_cons] at r
    obtain ⟨x, xs, e0, r1, r2⟩ := r
    cases e0
    obtain ⟨g1, g2⟩ := dGet_rep k r2
    rw [List.map_cons]
    by_cases z : p.1 = k
    · have e1 : dGet (p.1 :: e.map (·.1)) (d :: vs) k = some d := if_pos z
      have e2 : valE (p :: e) k = some p.2.2 := by simp [valE, List.find?_cons, z]
      rw [e1, e2]
      exact ⟨fun d' h => by cases h; exact ⟨_, rfl, r1⟩, fun h => nomatch h⟩
    · have e1 : dGet (p.1 :: e.map (·.1)) (d :: vs) k = dGet (e.map (·.1)) vs k := if_neg z
      have e2 : valE (p :: e) k = valE e k := by simp [valE, List.find?_cons, z]
      rw [e1, e2]
      exact ⟨g1, g2⟩
theorem dGet_some {ks : List (List Int)} {vs : List Dt} {e : List DE} {k : List Int} {d : Dt} (c : DicK K H ks vs e) (h : dGet ks vs k = some d) : ∃ v, valE e k = some v ∧ Rep K H d v := by
  rw [← c.ks] at h
  exact (dGet_rep k c.vs).1 d h
theorem dGet_none {ks : List (List Int)} {vs : List Dt} {e : List DE} {k : List Int} (c : DicK K H ks vs e) (h : dGet ks vs k = none) : valE e k = none := by
  rw [← c.ks] at h
  exact (dGet_rep k c.vs).2 h
theorem dMap_rep {k : List Int} {d : Dt} {v : V} (rd : Rep K H d v) : ∀ {e : List DE} {vs : List Dt}, Reps K H vs (e.map (·.2.2)) → Reps K H (dMap (e.map (·.1)) vs k d) ((e.map fun x => if x.1 = k then (x.1, x.2.1, v) else x).map (·.2.2))
  | [], vs, r => by cases vs <;> rfl
  | p :: e, [], r => by
    rw [List.map_cons] at r
    cases (show _ = [] from r)
  | p :: e, d' :: vs, r => by
    rw [List.map_cons] at r
    obtain ⟨x, xs, e0, r1, r2⟩ := r
    cases e0
    have ih := dMap_rep (k := k) rd r2
    rw [List.map_cons, List.map_cons, List.map_cons]
    refine Reps.cons ?_ ih
    by_cases z : p.1 = k
    · rw [if_pos z, if_pos z]
      exact rd
    · rw [if_neg z, if_neg z]
      exact r1
theorem dicK_put {ks : List (List Int)} {vs : List Dt} {e : List DE} {k : List Int} {b : Addr} {d : Dt} {v : V} (c : DicK K H ks vs e) (kb : SqT K H b (k.map V.int)) (rd : Rep K H d v) : DicK K H (dPut (ks, vs) k d).1 (dPut (ks, vs) k d).2 (putE e k b v) := by
  obtain ⟨rfl, c2, c3⟩ := c
  have at_ := putE_at (v := v) c2 kb
  unfold dPut
  cases h : dGet (e.map (·.1)) vs k with
  | some d' =>
    obtain ⟨v', e1, _⟩ := (dGet_rep k c3).1 d' h
    have z : (valE e k).isSome = true := by rw [e1]; rfl
    unfold putE at at_ ⊢
    rw [if_pos z] at at_ ⊢
    simp only [h, Option.isSome_some, if_true]
    refine ⟨?_, at_, dMap_rep rd c3⟩
    rw [List.map_map]
    congr 1
    funext x
    show (if x.1 = k then (x.1, x.2.1, v) else x).1 = x.1
    by_cases w : x.1 = k
    · rw [if_pos w]
    · rw [if_neg w]
  | none =>
    have e1 := (dGet_rep k c3).2 h
    have z : ¬ (valE e k).isSome = true := by rw [e1]; exact fun h => nomatch h
    unfold putE at at_ ⊢
    rw [if_neg z] at at_ ⊢
    simp only [h, Option.isSome_none, Bool.false_eq_true, if_false]
    refine ⟨?_, at_, ?_⟩
    · rw [List.map_append]
      rfl
    · rw [List.map_append]
      exact c3.append (Reps.cons rd Reps.nil)
theorem dicK_all : ∀ {ps : List (List Int × Dt)} {qs : List DE} {ks : List (List Int)} {vs : List Dt} {e : List DE}, DicK K H ks vs e → DicK K H (ps.map (·.1)) (ps.map (·.2)) qs → DicK K H (dAll (ks, vs) ps).1 (dAll (ks, vs) ps).2 (putAllE e qs)
  | [], [], _, _, _, c, _ => c
  | [], q :: qs, _, _, _, _, g => by cases g.ks
  | p :: ps, [], _, _, _, _, g => by cases g.ks
  | p :: ps, q :: qs, ks, vs, e, c, g => by
    obtain ⟨g1, g2, g3⟩ := g
    rw [List.map_cons, List.map_cons] at g1
    rw [List.map_cons, List.map_cons] at g3
    obtain ⟨x, xs, e0, r1, r2⟩ := g3
    cases e0
    injection g1 with h1 h2
    have kq := g2 q List.mem_cons_self
    rw [h1] at kq
    have c' := dicK_put c kq r1
    have w := dicK_all (ps := ps) (qs := qs) c' ⟨h2, fun x hx => g2 x (List.mem_cons_of_mem _ hx), r2⟩
    show DicK K H (dAll (dPut (ks, vs) p.1 p.2) ps).1 (dAll (dPut (ks, vs) p.1 p.2) ps).2 (putAllE (putE e q.1 q.2.1 q.2.2) qs)
    rw [h1]
    exact w
theorem pairs_rep : ∀ {l : List Dt} {xs : List V} {ps : List (List Int × Dt)}, pairsOf l = some ps → Reps K H l xs → ∃ ts qs, xs = ts.map V.ref ∧ PairsAt K H ts qs ∧ DicK K H (ps.map (·.1)) (ps.map (·.2)) qs
  | [], xs, ps, e, r => by
    cases e
    exact ⟨[], [], r, .nil, rfl, fun x hx => (List.not_mem_nil hx).elim, rfl⟩
  | d :: l, xs, ps, e, r => by
    unfold pairsOf at e
    split at e
    · rename_i p ps' e1 e2
      cases e
      obtain ⟨x, xs', rfl, r1, r2⟩ := r
      obtain ⟨ts, qs, rfl, h1, h2⟩ := pairs_rep e2 r2
      unfold pairOf at e1
      split at e1
      · rename_i k d'
        obtain ⟨k', e3, rfl⟩ := Option.map_eq_some_iff.mp e1
        obtain ⟨t, ys, rfl, q1, y1, w1, rfl, q2, y2, w2, rfl, q3, e4⟩ := r1
        cases (show w2 = [] from e4)
        obtain ⟨b, rfl, q4⟩ := key_rep e3 q2
        refine ⟨t :: ts, (k', b, y2) :: qs, rfl, .cons q1 h1, ?_, fun x hx => ?_, Reps.cons q3 h2.vs⟩
        · rw [List.map_cons, List.map_cons, h2.ks]
        · rcases List.mem_cons.mp hx with z | hx
          · rw [z]
            exact q4
          · exact h2.at_ x hx
      · cases e1
    · cases e
theorem rep_dct {ks : List (List Int)} {vs : List Dt} {v : V} (r : Rep K H (.dct ks vs) v) : ∃ a e, v = .ref a ∧ DicL H a e ∧ DicK K H ks vs e := by
  obtain ⟨a, e, h0, h1, h2, h3, h4⟩ := r
  exact ⟨a, e, h0, h1, h2, h3, h4⟩
end
section
variable {X : Cx} {F : Fr0} {W : WX} {a b c : Expr} {es : List Expr} {pos p : Pos} {x : Str}
def gIxD : Dt → Dt → Option Dt
  | .dct ks vs, k => (keyOf k).bind fun j => dGet ks vs j
  | _, _ => none
def gIxQ (a b : Dt) : Option Dt := (gIx a b).or (gIxD a b)
theorem dat_of {Hs H : Hp} {a : Addr} {e : List DE} {ks : List (List Int)} {vs : List Dt} (s : Same Hs H) (h : DicL Hs a e) (c : DicK X.K Hs ks vs e) : DAt X.K H a e := ⟨Or.inr (h.mono s), c.at_.mono s⟩
theorem gIxD_run {K : PySem.W.Frag} (a b d : Dt) (e : gIxD a b = some d) (Hs H : Hp) (x y : V) (Q : VK) (s : Same Hs H) (ra : Rep K Hs a x) (rb : Rep K Hs b y) (q : ∀ v Hs' H', Grow Hs H Hs' H' → Rep K Hs' d v → Q v H') : rIxQ K x y H Q := by
  unfold gIxD at e
  split at e
  · rename_i ks vs
    obtain ⟨j, e1, e2⟩ := Option.bind_eq_some_iff.mp e
    obtain ⟨a0, es, rfl, h1, h2⟩ := rep_dct ra
    obtain ⟨b0, rfl, h3⟩ := key_rep e1 rb
    obtain ⟨v, e3, r3⟩ := dGet_some h2 e2
    exact ⟨a0, es, j, b0, v, rfl, rfl, ⟨Or.inr (h1.mono s), h2.at_.mono s⟩, sqt_mono s h3, e3, q v Hs H (Grow.refl s) r3⟩
  · cases e
theorem pd_ixQ {ma mb : M Dt} (hu : X.A.units + 178 < cLine) (ha : PD X F W a ma) (hb : PD X F W b mb) (hs : PlainIx b := by intro _ _; rfl) : PD X F W (.Subscript a b pos) (mOp gIxQ ma mb) :=
  pe_imp (pe_ix (ix_seq.or (ix_dic (show X.A.units + 1 < cLine by omega))) ha hb hs) fun σ H Q h => op_run (f := binaryOp .Add) (fun a b d e Hs H x y Q s ra rb q => by
    have e : (gIx a b).or (gIxD a b) = some d := e
    cases e1 : gIx a b with
    | some d' =>
      rw [e1] at e
      exact Or.inl (gIx_run a b d (e1.trans e) Hs H x y Q s ra rb q)
    | none =>
      rw [e1] at e
      exact Or.inr (gIxD_run a b d e Hs H x y Q s ra rb q)) h
/-- x[k], x a dict of one's own -/
def mIxW (i : Nat) (mb : M Dt) : M Dt := fun ρ θ => match ρ[i]? with
  | some (some (.dic _ ks vs)) => bnd mb (fun k => opt ((keyOf k).bind fun j => dGet ks vs j)) ρ θ
  | _ => .bad
theorem st_dic_at {σ : L2.St} {H Hs : Hp} {ρ : DEnv} {θ : Pot} (st : StOk X.K F σ H Hs ρ θ) {i : Nat} {g : Bool} {ks : List (List Int)} {vs : List Dt} (e : ρ[i]? = some (some (.dic g ks vs))) : ∃ a q, σ[i]? = some (some (.ref a)) ∧ H a = some (DicO a q) ∧ DicK X.K Hs ks vs q := by
  obtain ⟨a, q, e1, e2, e3, _⟩ := st.dic i g ks vs e
  exact ⟨a, q, e1, e2, e3⟩
def getK (ks : List (List Int)) (vs : List Dt) (k z : Dt) : Option Dt := (keyOf k).map fun j => (dGet ks vs j).getD z
def mGetQ (ma mb mc : M Dt) : M Dt := bnd ma fun d => match d with
  | .dct ks vs => bnd mb fun k => bnd mc fun z => opt (getK ks vs k z)
  | _ => bad
theorem getK_rep {K : PySem.W.Frag} {H : Hp} {ks : List (List Int)} {vs : List Dt} {e : List DE} {k z d : Dt} {j : List Int} {w : V} (c : DicK K H ks vs e) (h : (dGet ks vs j).getD z = d) (rz : Rep K H z w) : Rep K H d ((valE e j).getD w) := by
  cases g : dGet ks vs j with
  | some d' =>
    obtain ⟨v, e1, r1⟩ := dGet_some c g
    rw [g] at h
    rw [e1, ← h]
    exact r1
  | none =>
    rw [g] at h
    rw [dGet_none c g, ← h]
    exact rz
theorem pd_getQ {ma mb mc : M Dt} {apos : Pos} (hu : X.A.units + 178 < cLine) (ha : PD X F W a ma) (hb : PD X F W b mb) (hc : PD X F W c mc) (m : M2 X a "get" apos b c pos := by exact ⟨rfl, rfl, rfl, rfl⟩) : PD X F W (.Call (.Attribute a "get" apos) [b, c] [] pos) (mGetQ ma mb mc) := by
  refine pe_imp (pe_qget (show X.A.units + 1 < cLine by omega) ha hb hc m) fun σ H Q h => ?_
  obtain ⟨ρ, θ, Hs, st, h⟩ := h
  refine then_D OkD.anti st h fun v d H1 Hs1 θ1 s1 st1 r1 h => ?_
  split at h
  · rename_i ks vs
    obtain ⟨a0, e0, rfl, h1, h2⟩ := rep_dct r1
    refine ⟨a0, rfl, ⟨e0, dat_of st1.sub h1 h2⟩, ?_⟩
    refine then_D OkD.anti st1 h fun y k H2 Hs2 θ2 s2 st2 r2 h => ?_
    refine then_D OkD.anti st2 h fun w z H3 Hs3 θ3 s3 st3 r3 h => ?_
    obtain ⟨d, e, q⟩ := post_opt h
    obtain ⟨j, g1, g2⟩ := Option.map_eq_some_iff.mp e
    obtain ⟨b0, rfl, h3⟩ := key_rep g1 r2
    have h2' := h2.mono (s2.trans s3)
    exact ⟨e0, j, b0, dat_of st3.sub (h1.mono (s2.trans s3)) h2', rfl, sqt_mono (s3.trans st3.sub) h3, fin_D q st3 (getK_rep (k := k) h2' g2 r3)⟩
  · exact h.elim
def mGetW (i : Nat) (mb mc : M Dt) : M Dt := fun ρ θ => match ρ[i]? with
  | some (some (.dic _ ks vs)) => bnd mb (fun k => bnd mc fun z => opt (getK ks vs k z)) ρ θ
  | _ => .bad
theorem pd_getW (i : Nat) {y : Str} {mb mc : M Dt} {apos q : Pos} (hu : X.A.units + 178 < cLine) (hb : PD X F W b mb) (hc : PD X F W c mc) (hN : X.N[i]? = some y := by rfl) (hv : Vis X.env.scope y := by first | exact Or.inl rfl | exact Or.inr (Or.inl rfl) | exact Or.inr (Or.inr rfl)) (hd : (y == ("__debug__" : Str)) = false := by decide)
    (hcd : (y == ("__classdict__" : Str)) = false := by decide) (m : M2 X (.Name y q) "get" apos b c pos := by exact ⟨rfl, rfl, rfl, rfl⟩) : PD X F W (.Call (.Attribute (.Name y q) "get" apos) [b, c] [] pos) (mGetW i mb mc) := by
  refine pe_imp (pe_qget (show X.A.units + 1 < cLine by omega) (pe_var hN hv hd hcd) hb hc m) fun σ H Q h => ?_
  obtain ⟨ρ, θ, Hs, st, h⟩ := h
  unfold mGetW at h
  split at h
  · rename_i g ks vs eo
    obtain ⟨a0, e0, f1, f2, f3⟩ := st_dic_at st eo
    refine ⟨.ref a0, f1, a0, rfl, ⟨e0, Or.inl f2, f3.at_.mono st.sub⟩, ?_⟩
    refine then_D OkD.anti st h fun y k H2 Hs2 θ2 s2 st2 r2 h => ?_
    refine then_D OkD.anti st2 h fun w z H3 Hs3 θ3 s3 st3 r3 h => ?_
    obtain ⟨d, e, q⟩ := post_opt h
    obtain ⟨j, g1, g2⟩ := Option.map_eq_some_iff.mp e
    obtain ⟨b0, rfl, h3⟩ := key_rep g1 r2
    obtain ⟨a1, e1, i1, i2, i3⟩ := st_dic_at st3 eo
    rw [f1] at i1
    cases i1
    exact ⟨e1, j, b0, ⟨Or.inl i2, i3.at_.mono st3.sub⟩, rfl, sqt_mono (s3.trans st3.sub) h3, fin_D q st3 (getK_rep (k := k) i3 g2 r3)⟩
  · exact h.elim
/-- a change of a dict of one's own in slot i -/
theorem st_dicU {σ : L2.St} {H Hs : Hp} {ρ : DEnv} {θ : Pot} (st : StOk X.K F σ H Hs ρ θ) {i : Nat} {g : Bool} {ks ks' : List (List Int)} {vs vs' : List Dt} {a : Addr} {e e' : List DE} (h : ρ[i]? = some (some (.dic g ks vs))) (h1 : σ[i]? = some (some (.ref a))) (h2 : H a = some (DicO a e)) (c : DicK X.K Hs ks' vs' e') :
    StOk X.K F σ (upd H a (DicO a e')) Hs (ρ.set i (some (.dic g ks' vs'))) θ := by
  obtain ⟨a', q', f1, f2, f3, f4, f5, f6⟩ := st.dic i g ks vs h
  rw [h1] at f1
  cases f1
  have z : ∀ b u, Hs b = some u → b ≠ a := fun b u q k => by rw [k, f4] at q; cases q
  have st1 : StOk X.K F σ (upd H a (DicO a e')) Hs (ρ.set i none) θ := by
    refine ⟨fun b u q => by rw [upd_ne (z b u q)]; exact st.sub b u q, st.hap, fun p q => ?_, fun b o h1 nt h2 => ?_, fun b hb z => ?_, ?_, st.frs, fun j d q => st.dat j d (set_none_at q).2, fun j m' q => ?_, fun j k m1 m2 b q1 q2 => st.sep j k m1 m2 b (set_none_at q1).2 (set_none_at q2).2, fun j q => st.pt j (set_none_at q).2, fun j n q => st.fx j n (set_none_at q).2, fun j n q => ?_, by rw [List.length_set]; exact st.len, fun j g2 ks2 vs2 q => ?_, fun j k g2 g3 k2 k3 v2 v3 b q1 q2 => st.sepD j k g2 g3 k2 k3 v2 v3 b (set_none_at q1).2 (set_none_at q2).2⟩
    · rw [upd_ne (fun k => f6 (by rw [← k]; exact q))]
      exact st.pot p q
    · have ne : b ≠ a := fun k => by
        rw [k] at h2
        cases g with
        | true =>
          obtain ⟨f5, _⟩ := (show F.H0 a = some (.tbl #[]) ∧ F.xs 2 = some a from f5)
          rw [h2] at f5
          cases f5
          exact nt _ rfl
        | false =>
          have f5 : F.H0 a = none := f5
          rw [h2] at f5
          cases f5
      rw [upd_ne ne]
      exact st.old b o h1 nt h2
    · by_cases k : b = a
      · rw [k, upd_same] at z
        cases z
      · rw [upd_ne k] at z
        exact st.thr b hb z
    · intro p hp
      obtain ⟨k0, ps, k1, k2, k3⟩ := st.tab p hp
      have ne : p.1 ≠ a := fun w => by rw [w, h2] at k1; exact dicO_tbl _ (Option.some.inj k1)
      refine ⟨k0, ps, by rw [upd_ne ne]; exact k1, k2, fun pos cv hc => ?_⟩
      obtain ⟨cc, w1, w2, w3⟩ := k3 pos cv hc
      have nc : cc ≠ a := fun w => by rw [w, f4] at w3; cases w3
      exact ⟨cc, w1, by rw [upd_ne nc]; exact w2, w3⟩
    · obtain ⟨k, q⟩ := set_none_at q
      obtain ⟨b, zs, g1, g2, g3⟩ := st.own j m' q
      have ne : b ≠ a := fun w => by rw [w, h2] at g2; exact dicO_lst _ (Option.some.inj g2)
      exact ⟨b, zs, g1, by rw [upd_ne ne]; exact g2, g3⟩
    · obtain ⟨k, q⟩ := set_none_at q
      obtain ⟨b, zs, g0, g1, g2, g3⟩ := st.opn j n q
      have ne : b ≠ a := fun w => by rw [w, h2] at g2; exact dicO_lst _ (Option.some.inj g2)
      exact ⟨b, zs, g0, g1, by rw [upd_ne ne]; exact g2, g3⟩
    · obtain ⟨k, q⟩ := set_none_at q
      obtain ⟨b, zs, g1, g3, g4⟩ := st.dic j g2 ks2 vs2 q
      have ne : b ≠ a := fun w => k (st.sepD i j g g2 ks ks2 vs vs2 a h q h1 (by rw [← w]; exact g1))
      exact ⟨b, zs, g1, by rw [upd_ne ne]; exact g3, g4⟩
  have st2 := st_setQ st1 i (a := a) (g := g) (e := e') (ks := ks') (vs := vs') upd_same c f4 f5 f6 fun j g2 k2 v2 k q w => by
    rw [List.getElem?_set_ne (Ne.symm k)] at q
    exact k (st.sepD i j g g2 ks k2 vs v2 a h q h1 w).symm
  rw [List.set_set, getElem?_set_self_of h1] at st2
  exact st2
def mPutQ (i : Nat) (mb ma : M Dt) : M Out := bnd ma fun d ρ θ => match ρ[i]? with
  | some (some (.dic g ks vs)) => bnd mb (fun k ρ θ => match keyOf k with
    | some j => if ks.length < bigL then .ok (.next (ρ.set i (some (.dic g (dPut (ks, vs) j d).1 (dPut (ks, vs) j d).2)))) θ else .bad
    | none => .bad) ρ θ
  | _ => .bad
theorem psd_putQ (i : Nat) {y : Str} {ma mb : M Dt} {q spos : Pos} (hu : X.A.units + 178 < cLine) (ha : PD X F W a ma) (hb : PD X F W b mb) (hN : X.N[i]? = some y := by rfl) (hv : Vis X.env.scope y := by first | exact Or.inl rfl | exact Or.inr (Or.inl rfl) | exact Or.inr (Or.inr rfl)) (hd : (y == ("__debug__" : Str)) = false := by decide)
    (hcd : (y == ("__classdict__" : Str)) = false := by decide) (hs : swapsWith a (some (.Subscript (.Name y q) b spos)) pos.line X.env = pure false := by rfl) : PSD X F W (.Assign [.Subscript (.Name y q) b spos] a pos) (mPutQ i mb ma) := by
  refine ps_imp (ps_qput (show X.A.units + 1 < cLine by omega) (pe_var hN hv hd hcd) hb ha hs) fun D σ H h => ?_
  obtain ⟨ρ, θ, Hs, st, h⟩ := h
  refine then_D OkS.anti st h fun v d H1 Hs1 θ1 s1 st1 r1 h => ?_
  split at h
  · rename_i g ks vs eo
    obtain ⟨p0, q0, e1, e2, e3⟩ := st_dic_at st1 eo
    refine ⟨.ref p0, e1, ?_⟩
    refine then_D OkS.anti st1 h fun u k H2 Hs2 θ2 s2 st2 r2 h => ?_
    split at h
    · rename_i j ej
      by_cases z : ks.length < bigL
      · rw [if_pos z] at h
        obtain ⟨p1, q1, f1, f2, f3⟩ := st_dic_at st2 eo
        rw [e1] at f1
        cases f1
        obtain ⟨b0, rfl, h3⟩ := key_rep ej r2
        have ln : q1.length < sizeLine := by
          have := congrArg List.length f3.ks
          rw [List.length_map] at this
          rw [sizeLine_eq]
          unfold bigL at z
          omega
        exact ⟨p0, q1, j, b0, rfl, f2, f3.at_.mono st2.sub, rfl, sqt_mono st2.sub h3, ln, h σ _ Hs2 (Same.refl _) (st_dicU st2 eo e1 f2 (dicK_put f3 h3 (Rep.mono s2 d r1)))⟩
      · rw [if_neg z] at h
        exact h.elim
    · exact h.elim
  · exact h.elim
def frzQ' (i : Nat) (ρ : DEnv) : DEnv := match ρ[i]? with
  | some (some (.dic false ks vs)) => ρ.set i (some (.dat (.dct ks vs)))
  | _ => ρ
def mFrzQ (i : Nat) (m : M Out) : M Out := fun ρ θ => m (frzQ' i ρ) θ
theorem st_frzQ (i : Nat) {pins : List (Addr × Obj)} {s : Shared} {σ : L2.St} {H Hs : Hp} {ρ : DEnv} {θ : Pot} (I : Inv X pins σ H s) (st : StOk X.K F σ H Hs ρ θ) : ∃ H' Hs', Inv X pins σ H' s ∧ Same Hs Hs' ∧ StOk X.K F σ H' Hs' (frzQ' i ρ) θ := by
  unfold frzQ'
  split
  · rename_i ks vs e
    obtain ⟨a, q, e1, e2, e3, e4, e5, e6⟩ := st.dic i false ks vs e
    obtain ⟨o, I1⟩ := I.lock e2 True.intro
    have st1 : StOk X.K F σ H Hs (ρ.set i none) θ := by
      exact ⟨st.sub, st.hap, st.pot, st.old, st.thr, st.tab, st.frs, fun j d z => st.dat j d (set_none_at z).2, fun j m z => st.own j m (set_none_at z).2, fun j k m m' b z1 z2 => st.sep j k m m' b (set_none_at z1).2 (set_none_at z2).2, fun j z => st.pt j (set_none_at z).2, fun j n z => st.fx j n (set_none_at z).2, fun j n z => st.opn j n (set_none_at z).2, by rw [List.length_set]; exact st.len, fun j g ks vs z => st.dic j g ks vs (set_none_at z).2, fun j k g g' ks ks' vs vs' b z1 z2 => st.sepD j k g g' ks ks' vs vs' b (set_none_at z1).2 (set_none_at z2).2⟩
    have st2 := st_dicL (o := o) st1 e2 e4 e5 e6 fun j g k2 v2 z q => by
      obtain ⟨k, z⟩ := set_none_at z
      exact k (st.sepD i j false g ks k2 vs v2 a e z e1 q)
    have st3 := st_set st2 i (d := .dct ks vs) (v := .ref a) ⟨a, q, rfl, ⟨o, upd_same⟩, e3.ks, e3.at_.mono (same_upd e4), Reps.mono (same_upd e4) _ e3.vs⟩
    rw [List.set_set] at st3
    rw [getElem?_set_self_of e1] at st3
    exact ⟨_, _, I1, same_upd e4, st3⟩
  · exact ⟨H, Hs, I, Same.refl _, st⟩
theorem psd_frzQ (i : Nat) {st : Stmt} {m : M Out} (h : PSD X F W st m) : PSD X F W st (mFrzQ i m) := by
  refine ⟨fun pins s σ H D I q => ?_⟩
  obtain ⟨ρ, θ, Hs, st0, q⟩ := q
  obtain ⟨H1, Hs1, I1, s1, st1⟩ := st_frzQ i I st0
  exact h.run pins s σ H1 D I1 ⟨_, θ, Hs1, st1, q.imp (OkS.anti s1) (ExW.anti s1)⟩
def listOfQ : List Dt → Option (List Dt)
  | [.lst l] => some l
  | [.tup l] => some l
  | [.dct ks _] => some (ks.map keyD)
  | _ => none
theorem keys_rep {K : PySem.W.Frag} {H : Hp} : ∀ {e : List DE}, KeysAt K H e → Reps K H ((e.map (·.1)).map keyD) (e.map fun x => V.ref x.2.1)
  | [], _ => rfl
  | p :: e, h => Reps.cons (keyD_rep (h p List.mem_cons_self)) (keys_rep fun x hx => h x (List.mem_cons_of_mem _ hx))
def mListOfQ (ml : M (List Dt)) : M (List Dt) := bnd ml fun l => opt (listOfQ l)
theorem po_listOfQ {ml : M (List Dt)} (hc : X.calm = true) (hm : X.mg "list" = none) (ha : PAD X F W [a] ml) (hg : Gl X "list" := by rfl)
    (he : starEach [a] X.env = (false, eval a X.env) :: starEach [] X.env := by rfl) (hpl : (backTo pos (starEach [] X.env)).any (·.1) = false := by rfl) : PO X F W (.Call (.Name "list" p) [a] [] pos) (mListOfQ ml) := by
  refine pe_imp (pe_callTy (call_list_of.or (call_listQ hc)) hg hm (by decide +kernel) ha (by decide) (by decide) he hpl) fun σ H Q h => ?_
  obtain ⟨ρ, θ, Hs, st, h⟩ := h
  refine then_A OkO.anti st h fun xs l H1 Hs1 θ1 s1 st1 r1 h => ?_
  obtain ⟨d, e, q⟩ := post_opt h
  unfold listOfQ at e
  split at e
  · rename_i l
    cases e
    obtain ⟨y, r0, er, ⟨b0, ys0, eb, h3, h4⟩, e0⟩ := r1
    cases eb
    cases er
    cases e0
    refine Or.inl ⟨b0, ys0, rfl, Or.inl (st1.sub.seq h3), fun t nt => ?_⟩
    exact q t ys0 _ Hs1 (Same.refl _) (st_new st1 nt) upd_same h4 (st1.sub.free nt) (h0_none st1 nt) (ap_ne st1 nt) (own_ne st1 nt)
  · rename_i l
    cases e
    obtain ⟨y, r0, er, ⟨b0, ys0, eb, h3, h4⟩, e0⟩ := r1
    cases eb
    cases er
    cases e0
    refine Or.inl ⟨b0, ys0, rfl, Or.inr (sqt_mono st1.sub h3), fun t nt => ?_⟩
    exact q t ys0 _ Hs1 (Same.refl _) (st_new st1 nt) upd_same h4 (st1.sub.free nt) (h0_none st1 nt) (ap_ne st1 nt) (own_ne st1 nt)
  · rename_i ks vs
    cases e
    obtain ⟨y, r0, er, rd, e0⟩ := r1
    cases er
    cases e0
    obtain ⟨b0, e0, rfl, h3, h4⟩ := rep_dct rd
    refine Or.inr ⟨b0, e0, rfl, dat_of st1.sub h3 h4, fun t nt => ?_⟩
    refine q t _ _ Hs1 (Same.refl _) (st_new st1 nt) upd_same ?_ (st1.sub.free nt) (h0_none st1 nt) (ap_ne st1 nt) (own_ne st1 nt)
    rw [← h4.ks]
    exact keys_rep h4.at_
  · cases e
def seqOfQ : Dt → Option (List Dt)
  | .lst l => some l
  | .tup l => some l
  | .dct ks _ => some (ks.map keyD)
  | _ => none
theorem itd_q {K : PySem.W.Frag} {Hs0 : Hp} {q : Addr} {o : Obj} {e : List DE} {ks : List (List Int)} {vs : List Dt} (h : Hs0 q = some (.frz o (DicO q e))) (c : DicK K Hs0 ks vs e) : ItD K (Itq q o e) (ks.map keyD) Hs0 where
  go := fun i H Hs hi s1 s2 => by
    have ln := congrArg List.length c.ks
    rw [List.length_map] at ln hi
    exact ⟨s2 _ _ (s1 _ _ h), by omega⟩
  yld := fun i H Hs x H' d g s1 s2 y => by
    obtain ⟨rfl, p, y1, rfl⟩ := y
    have z : d = keyD p.1 := by
      rw [← c.ks, List.map_map, List.getElem?_map, y1] at g
      exact (Option.some.inj g).symm
    rw [z]
    exact ⟨Hs, Grow.refl s2, keyD_rep (sqt_mono s1 (c.at_ p (List.mem_of_getElem? y1)))⟩
  stop := fun H Hs s1 s2 => by
    have ln := congrArg List.length c.ks
    rw [List.length_map] at ln
    exact ⟨s2 _ _ (s1 _ _ h), by rw [List.length_map]; omega⟩
def mSeqQ (ma : M Dt) : M (List Dt) := bnd ma fun d => opt (seqOfQ d)
theorem pid_seqQ {tg : Expr} {ma : M Dt} (ha : PD X F W a ma) : PID X F W tg a (mSeqQ ma) := by
  refine pi_imp (pi_seqQ ha) fun σ H R h => ?_
  obtain ⟨ρ, θ, Hs, st, h⟩ := h
  refine then_D OkI.anti st h fun v d H1 Hs1 θ1 s1 st1 r1 h => ?_
  obtain ⟨l, e, q⟩ := post_opt h
  cases d with
  | lst l' =>
    cases e
    obtain ⟨q1, xs, rfl, h1, h2⟩ := r1
    exact ⟨q1, rfl, Or.inl ⟨xs, st1.sub.seq h1, q _ H1 Hs1 (Same.refl _) st1 (itd_list h1 h2)⟩⟩
  | tup l' =>
    cases e
    obtain ⟨q1, xs, rfl, h1, h2⟩ := r1
    exact ⟨q1, rfl, Or.inr (Or.inl ⟨xs, sqt_mono st1.sub h1, q _ H1 Hs1 (Same.refl _) st1 (itd_tup h1 h2)⟩)⟩
  | dct ks vs =>
    cases e
    obtain ⟨q1, e1, rfl, ⟨o, h1⟩, h2⟩ := rep_dct r1
    exact ⟨q1, rfl, Or.inr (Or.inr ⟨o, e1, st1.sub _ _ h1, q _ H1 Hs1 (Same.refl _) st1 (itd_q h1 h2)⟩)⟩
  | _ => cases e
def gLenD : List Dt → Option Dt
  | [.dct ks _] => some (.int ks.length)
  | _ => none
theorem cs_lenD : CallS X (.builtin "len") gLenD := by
  refine ⟨_, call_lenQ, fun ds d e H xs Q r q => ?_⟩
  unfold gLenD at e
  split at e
  · rename_i ks vs
    cases e
    obtain ⟨x, rfl, rx⟩ := rep1 r
    obtain ⟨a, e1, rfl, h1, h2⟩ := rep_dct rx
    have ln := congrArg List.length h2.ks
    rw [List.length_map] at ln
    refine ⟨a, e1, rfl, ⟨Or.inr h1, h2.at_⟩, q _ fun _ => ?_⟩
    show V.int _ = V.int _
    rw [ln]
  · cases e
def gLenQ (l : List Dt) : Option Dt := (gLen l).or (gLenD l)
theorem cs_lenQ : CallS X (.builtin "len") gLenQ := cs_len.or cs_lenD
def dictOf : List Dt → Option KD
  | [.lst l] => (pairsOf l).map fun ps => dAll ([], []) ps
  | _ => none
def mDictOf (ml : M (List Dt)) : M KD := bnd ml fun l => opt (dictOf l)
theorem pq_dictOf {ml : M (List Dt)} (hu : X.A.units + 178 < cLine) (hc : X.calm = true) (hm : X.mg "dict" = none) (ha : PAD X F W [a] ml) (hg : Gl X "dict" := by rfl)
    (he : starEach [a] X.env = (false, eval a X.env) :: starEach [] X.env := by rfl) (hpl : (backTo pos (starEach [] X.env)).any (·.1) = false := by rfl) : PQ X F W (.Call (.Name "dict" p) [a] [] pos) (mDictOf ml) := by
  refine pe_imp (pe_callTy (call_dictQ (show X.A.units + 3 < cLine by omega) hc) hg hm (by decide +kernel) ha (by decide) (by decide) he hpl) fun σ H Q h => ?_
  obtain ⟨ρ, θ, Hs, st, h⟩ := h
  refine then_A OkQ.anti st h fun xs l H1 Hs1 θ1 s1 st1 r1 h => ?_
  obtain ⟨d, e, q⟩ := post_opt h
  unfold dictOf at e
  split at e
  · rename_i l
    obtain ⟨ps, e1, rfl⟩ := Option.map_eq_some_iff.mp e
    obtain ⟨y, r0, er, ⟨b0, ys0, eb, h3, h4⟩, e0⟩ := r1
    cases eb
    cases er
    cases e0
    obtain ⟨ts, qs, rfl, h5, h6⟩ := pairs_rep e1 h4
    have up : PairsAt X.K H1 ts qs := Paired.mapP h5 fun _ _ z => sqt_mono st1.sub z
    refine ⟨b0, ts, qs, rfl, st1.sub.seq h3, up, h6.at_.mono st1.sub, fun t nt => ?_⟩
    have c0 : DicK X.K Hs1 [] [] [] := ⟨rfl, fun x hx => (List.not_mem_nil hx).elim, rfl⟩
    exact q t _ _ Hs1 (Same.refl _) (st_new st1 nt) upd_same (dicK_all c0 h6) (st1.sub.free nt) (h0_none st1 nt) (ap_ne st1 nt) (dic_ne st1 nt)
  · cases e
theorem call_isiT2 : CallR X (.builtin "isinstance") (fun xs H Q => ∃ (x : V) (tp : Addr) (cs : List V) (t : Value) (us : List Value) (b : Bool), xs = [x, .ref tp] ∧ H tp = some (.tup cs) ∧ Paired ClsV cs us ∧ TyD X.K H x t ∧ PySem.W.kitAny X.K t us = some b ∧ Q (.bl b) H) := by
  intro pins s σ H xs us Q I r h
  obtain ⟨x, tp, cs, t, ws, b, rfl, hT, k, ty, e, q⟩ := h
  obtain ⟨u1, u2, rfl, r1, r2⟩ := vals2 r
  cases (show u2 = Value.ref tp from r2)
  obtain ⟨P, Z, p, hx⟩ := kit_ofD I r1 ty
  obtain ⟨_, its, rv, o, h1, h2, n, h3⟩ := (show ObjOk X.prog X.w H s.heap tp (.tup cs) from I.hok tp _ hT)
  have e3 := ClsV.all k rv
  subst e3
  obtain ⟨oc, od, dt, sl⟩ := o
  simp only at h2 h3
  subst h2 h3
  exact PySem.W.kia_tup Z I.kIn p h1 e hx fun tk => ⟨.bl b, H, I.tok tk, rfl, q⟩
def isT2 (n m : String) (d : Dt) : Option Bool := match isT n d, isT m d with
  | some a, some b => some (a || b)
  | _, _ => none
def mIsi2 (n m : String) (ma : M Dt) : M Dt := bnd ma fun d => opt ((isT2 n m d).map Dt.bl)
theorem pd_isi2 {n m : String} {ma : M Dt} {T U : Str} {q q2 tp : Pos} {kt : Nat} (hm : X.mg "isinstance" = none) (hT : X.mg T = none) (hU : X.mg U = none) (ha : PD X F W a ma) (hvT : bootBuiltins T = some (.type n) := by decide +kernel) (hvU : bootBuiltins U = some (.type m) := by decide +kernel) (hg : Gl X "isinstance" := by rfl) (hgT : Gl X T := by rfl) (hgU : Gl X U := by rfl)
    (hnT : T ≠ "__name__" := by decide) (hdT : (T == ("__debug__" : Str)) = false := by decide) (hnU : U ≠ "__name__" := by decide) (hdU : (U == ("__debug__" : Str)) = false := by decide)
    (he : starEach (a :: [.Tuple [.Name T q, .Name U q2] kt tp]) X.env = (false, eval a X.env) :: starEach [.Tuple [.Name T q, .Name U q2] kt tp] X.env := by rfl) (he2 : starEach [.Tuple [.Name T q, .Name U q2] kt tp] X.env = (false, eval (.Tuple [.Name T q, .Name U q2] kt tp) X.env) :: starEach [] X.env := by rfl)
    (he3 : starEach [.Name T q, .Name U q2] X.env = (false, eval (.Name T q) X.env) :: starEach [.Name U q2] X.env := by rfl) (he4 : starEach [.Name U q2] X.env = (false, eval (.Name U q2) X.env) :: starEach [] X.env := by rfl) (hpl : (backTo pos (starEach [.Tuple [.Name T q, .Name U q2] kt tp] X.env)).any (·.1) = false := by rfl) :
    PD X F W (.Call (.Name "isinstance" p) [a, .Tuple [.Name T q, .Name U q2] kt tp] [] pos) (mIsi2 n m ma) := by
  refine pe_imp (pe_callB call_isiT2 hg hm (by decide +kernel) (pa_cons ha (pa_cons (pe_tup (pa_cons (pe_bltn (v := .ty n) hgT hT hvT rfl hnT hdT) (pa_cons (pe_bltn (v := .ty m) hgU hU hvU rfl hnU hdU) pa_nil he4) he3)) pa_nil he2) he) (by decide) (by decide) he hpl) fun σ H Q h => ?_
  obtain ⟨ρ, θ, Hs, st, h⟩ := h
  refine then_D OkD.anti st h fun v d H1 Hs1 θ1 s1 st1 r1 h => ?_
  obtain ⟨d', e, q'⟩ := post_opt h
  obtain ⟨k, e0, rfl⟩ := Option.map_eq_some_iff.mp e
  unfold isT2 at e0
  split at e0
  · rename_i a1 b1 ea eb
    cases e0
    obtain ⟨m1, f1, f2⟩ := Option.bind_eq_some_iff.mp ea
    obtain ⟨m2, f3, f4⟩ := Option.bind_eq_some_iff.mp eb
    rw [f1] at f3
    cases f3
    refine ⟨by show 2 ≤ sizeLine; decide, fun t nt => ?_⟩
    have g := Grow.new (o := .tup [.ty n, .ty m]) st1.sub nt
    refine ⟨v, t, [.ty n, .ty m], .type m1, [.type n, .type m], a1 || b1, rfl, upd_same, .cons (.ty n) (.cons (.ty m) .nil), tyName_ok (Rep.mono (st1.sub.trans (same_upd nt)) d r1) f1, ?_, fin_D (OkD.anti g.s _ _ q') (st1.grow g) rfl⟩
    refine kitAny_cons (kit_ty f2) (fun z => kitAny_cons (kit_ty f4) (fun z2 => ?_) fun z2 => ?_) fun z => ?_
    · rw [z, z2]
      exact kitAny_nil
    · rw [z2, Bool.or_true]
    · rw [z, Bool.true_or]
  · cases e0
end
end Pd



namespace Pd
variable [Pd.LamTab]
open PySem PySem.Spec PyProof.Rows L2
/-- by the dict's keys and values and the other arguments: the dict behind -/
abbrev MirW := List (List Int) → List Dt → List Ent → Pot → Res KD
def spW (K : PySem.W.Frag) (n : Nat) (m : MirW) : List V → Hp → VK → Prop := fun vs H Q => vs.length = n ∧ ∃ ap Hs es θ a r ks ds q, vs = .ref a :: r ∧ Same Hs H ∧ TabOk (tbK K) Hs H ∧ (∀ p, ap = some p → Hs p = none) ∧ PotAt H ap θ ∧ Ents K ap Hs es r ∧ H a = some (DicO a q) ∧ DicK K Hs ks ds q ∧ Hs a = none ∧ ap ≠ some a ∧
  Post (m ks ds es θ) (fun c θ' => ∀ H' Hs' q', FnEnd ap (tbK K) Hs (upd H a (.tbl #[])) Hs' H' θ' → H' a = some (DicO a q') → DicK K Hs' c.1 c.2 q' → Hs' a = none → Q .non H') (fun _ _ _ => False)
structure FnPW (P : Program) (w : World) (K : PySem.W.Frag) (mg : Str → Option Value) (base : Heap) (k : Nat) (f : Addr) (fd : FuncData) (ps : List Str) (m : MirW) : Prop where
  run : ∀ (A : Around) (outer : List Env) (s : Shared) (H : Hp) (args : Args) (us : List Value) (vs : List V) (Q : VK) (E : XK), Room k A → A.guards = some [] → Env0 P w K mg base A outer s H → BindsTo s fd args (ps.zip us) → Vals vs us →
    spW K ps.length m vs H Q → codeAny (model P w) A (.call (.ref f) args) (CR (L2.CX P w) outer P w H s Q E) s
def mFnW (n : Nat) (m : M Out) : MirW := fun ks ds es θ => match m (some (.dic true ks ds) :: (es.map some ++ List.replicate (n - (es.length + 1)) none)) θ with
  | .ok (.next ρ) θ' => match ρ[0]? with
    | some (some (Ent.dic true ks' ds')) => .ok (ks', ds') θ'
    | _ => .bad
  | _ => .bad
theorem fnpW {P : Program} {w : World} {K : PySem.W.Frag} {mg : Str → Option Value} {base : Heap} {k : Nat} {f : Addr} {fd : FuncData} {x qual : Str} {params : Arguments} {body : List Stmt} {scope : Scope} {dvs : List V} {kws : List (Str × V)} {N ps : List Str} {m : M Out}
    (T : FunD K x qual params body scope dvs kws f fd) (S : FnScope N ps scope)
    (hb : ∀ (cdv : Value) (A : Around) (outer : List Env) (s : Shared) (H : Hp) (E : XK) (F : Fr0), Room k (A.deeper (envOfC qual scope s.heap.objs.size f cdv)) → (A.deeper (envOfC qual scope s.heap.objs.size f cdv)).guards = some [] →
      PSDs (cxOf (L2.CX P w) P w K mg base N qual scope f cdv A outer s H E) F (fun c d _ H' => E c d H') body m) : FnPW P w K mg base (k + 1) f fd ps (mFnW N.length m) := by
  obtain ⟨oc, od, dV, kV, doc, pm, an, cdv, ct, osl, rfl, lk, hcd, _, _⟩ := T.ex
  refine ⟨fun A outer s H args us vs Q E hr hg e0 hbd r hsp => ?_⟩
  obtain ⟨hl, ap, Hs, es, θ, a, rr, ks, ds, q, hvs, hsub, htab, hap, hpot, hes, hq, hck, hna, hpa, post⟩ := hsp
  have KX : K.In s.heap := e0.mod.kin.keeps fun b o z => (e0.bs b o z).1
  have lim : s.heap.NoLimit := e0.mod.nolimit.keeps fun b o z => (e0.bs b o z).1
  have kinds : ∀ y ∈ ps.zip us, scope.names.lookup y.1 = some .local ∨ (scope.names.lookup y.1 = some .cell ∧ ((cellsFrom (s.heap.objs.size + 1) scope.names []).lookup y.1).isSome = true) := by
    rintro ⟨n, v⟩ hy
    refine (S.par n (List.of_mem_zip hy).1).imp id fun q => ⟨q, ?_⟩
    exact PySem.W.cellsFrom_some _ _ _ (Or.inl q)
  refine codeAny_call_function hr.depth (KX _ _ lk) rfl S.co S.gen rfl (PySem.W.codeRec_of KX hcd) (hbd _ _ _ _ ?_)
  refine wpAny_newFunctionEnv_cells S.kind kinds fun env he s1 x1 => ?_
  cases he
  refine ⟨lim.keeps x1.toInCall.keep, codeAny_func ?_⟩
  have I := inv_start (CX := L2.CX P w) (E := E) S hr.hd e0 hl r x1
  have gd : (A.deeper (envOfC qual scope s.heap.objs.size f cdv)).guards = some [] := hg
  obtain ⟨F, eF⟩ : ∃ F : Fr0, F = ⟨ap, upd H a (.tbl #[]), Hs, (envOfC qual scope s.heap.objs.size f cdv).cells, fun n => if n = 2 then some a else none, none⟩ := ⟨_, rfl⟩
  have B := hb cdv A outer s H E F (hr.deeper _) gd
  have hpl : ps.length ≤ N.length := by
    have z := congrArg List.length S.pre
    rw [List.length_take] at z
    omega
  have lenS : (L2.start N vs).length = N.length := by
    unfold L2.start
    rw [List.length_append, List.length_map, List.length_replicate]
    omega
  have le := ents_len hes
  have lr : es.length + 1 = vs.length := by rw [hvs, List.length_cons, le]
  -- what stands in a slot at the start
  have at_ : ∀ {i : Nat} {y : Ent}, (some (Ent.dic true ks ds) :: (es.map some ++ List.replicate (N.length - (es.length + 1)) none))[i]? = some (some y) → (i = 0 ∧ y = .dic true ks ds) ∨ ∃ j, i = j + 1 ∧ es[j]? = some y := fun {i y} z => by
    cases i with
    | zero =>
      rw [List.getElem?_cons_zero] at z
      cases z
      exact Or.inl ⟨rfl, rfl⟩
    | succ j =>
      rw [List.getElem?_cons_succ] at z
      refine Or.inr ⟨j, rfl, ?_⟩
      by_cases w : j < es.length
      · rw [List.getElem?_append_left (by simpa using w), List.getElem?_map] at z
        cases e : es[j]? with
        | none => rw [e] at z; cases z
        | some y' => rw [e] at z; cases z; rfl
      · rw [List.getElem?_append_right (by simpa using w), List.getElem?_replicate] at z
        split at z <;> cases z
  have sv : ∀ {j : Nat} {v : V}, rr[j]? = some v → (L2.start N vs)[j + 1]? = some (some v) := fun {j v} z => start_val (by rw [hvs, List.getElem?_cons_succ]; exact z)
  have st0 : StOk K F (L2.start N vs) H Hs (some (.dic true ks ds) :: (es.map some ++ List.replicate (N.length - (es.length + 1)) none)) θ := by
    subst eF
    refine ⟨hsub, hap, hpot, fun b o _ nt z => ?_, fun b z => ?_, htab, fun b _ => rfl, fun i d z => ?_, fun i l z => ?_, fun i j l m a z => ?_, fun i z => ?_, fun i n z => ?_, fun i n z => ?_, ?_, fun i g k l z => ?_, fun i j g g' k k' l l' b z1 z2 _ _ => ?_⟩
    · by_cases w : b = a
      · rw [w] at z
        cases (show some (HO.tbl #[]) = some o from (upd_same).symm.trans z)
        exact absurd rfl (nt #[])
      · exact (upd_ne w).symm.trans z
    · by_cases w : b = a
      · rw [w, hq]
        exact fun y => nomatch y
      · exact fun y => z ((upd_ne w).trans y)
    · rcases at_ z with ⟨_, w⟩ | ⟨j, rfl, w⟩
      · cases w
      · obtain ⟨v, e1, e2⟩ := ents_dat hes w
        exact ⟨v, sv e1, e2⟩
    · rcases at_ z with ⟨_, w⟩ | ⟨j, rfl, w⟩
      · cases w
      · exact (ents_own hes w).elim
    · rcases at_ z with ⟨_, w⟩ | ⟨j, rfl, w⟩
      · cases w
      · exact (ents_own hes w).elim
    · rcases at_ z with ⟨_, w⟩ | ⟨j, rfl, w⟩
      · cases w
      · obtain ⟨p, e1, e2⟩ := ents_pot hes w
        exact ⟨p, e1, sv e2⟩
    · rcases at_ z with ⟨_, w⟩ | ⟨j, rfl, w⟩
      · cases w
      · exact (ents_fix hes w).elim
    · rcases at_ z with ⟨_, w⟩ | ⟨j, rfl, w⟩
      · cases w
      · exact (ents_opn hes w).elim
    · rw [lenS, List.length_cons, List.length_append, List.length_map, List.length_replicate]
      omega
    · rcases at_ z with ⟨e, w⟩ | ⟨j, rfl, w⟩
      · cases w
        subst e
        exact ⟨a, q, start_val (by rw [hvs, List.getElem?_cons_zero]), hq, hck, hna, ⟨upd_same, rfl⟩, hpa⟩
      · exact (ents_dic hes w).elim
    · rcases at_ z1 with ⟨e1, _⟩ | ⟨j1, rfl, w⟩
      · rcases at_ z2 with ⟨e2, _⟩ | ⟨j2, rfl, w⟩
        · exact e1.trans e2.symm
        · exact (ents_dic hes w).elim
      · exact (ents_dic hes w).elim
  have body : tS (cxOf (L2.CX P w) P w K mg base N qual scope f cdv A outer s H E) F (fun c d _ H' => E c d H') m { nx := fun _ H' => Q .non H', rt := Q } (L2.start N vs) H := by
    refine ⟨_, θ, Hs, st0, ?_⟩
    unfold mFnW at post
    cases em : m (some (.dic true ks ds) :: (es.map some ++ List.replicate (N.length - (es.length + 1)) none)) θ with
    | ok o θ1 =>
      rw [em] at post
      cases o with
      | next ρ1 =>
        intro σ' H' Hs' s' st'
        dsimp only at post
        split at post
        · rename_i ks' ds' e0
          obtain ⟨a', q', f1, f2, f3, f4, f5, f6⟩ := st'.dic 0 true ks' ds' e0
          subst eF
          obtain ⟨_, f5⟩ := f5
          cases (show some a = some a' from f5)
          exact post H' Hs' q' ⟨s', st'.sub, st'.hap, st'.pot, st'.old, st'.thr, st'.tab, st'.frs⟩ f2 f3 f4
        · exact post.elim
      | ret r => exact post.elim
      | brk ρ1 => exact post.elim
      | cnt ρ1 => exact post.elim
    | exn e ρ1 θ1 =>
      rw [em] at post
      exact post.elim
    | bad =>
      rw [em] at post
      exact post.elim
  refine wpAny_mono (B.run [] s1 (L2.start N vs) H _ I body) (fun fl s' hs => ?_) fun e s' hs => hs
  cases fl with
  | ret u =>
    obtain ⟨v, σ', H', J, rv, q⟩ := hs
    exact ⟨v, H', J.os, J.bare, J.base, J.hok, rv, q⟩
  | next =>
    obtain ⟨σ', H', J, q⟩ := hs
    exact ⟨V.non, H', J.os, J.bare, J.base, J.hok, (rfl : (Value.none : Value) = _), q⟩
  | brk =>
    obtain ⟨_, _, _, q⟩ := hs
    exact q.elim
  | cont =>
    obtain ⟨_, _, _, q⟩ := hs
    exact q.elim
section
variable {X : Cx} {F : Fr0} {W : WX} {a b c : Expr} {es : List Expr} {pos p : Pos} {x : Str}
theorem run_pW {k : Nat} {f : Addr} {fd : FuncData} {ps : List Str} {m : MirW} {pins : List (Addr × Obj)} {σ : L2.St} {H : Hp} {s : Shared} {Q : VK} {us xs : List Value} {kw : List (Str × Value)} {vs : List V} (G : FnPW X.prog X.w X.K X.mg X.base k f fd ps m) (hr : Room k X.A) (hg : X.A.guards = some []) (tk : Takes X W)
    (I : Inv X pins σ H s) (r : Vals vs xs) (bt : BindsTo s fd ⟨us, kw⟩ (ps.zip xs)) (h : spW X.K ps.length m vs H Q) : wpAny (model X.prog X.w) X.A (call (.ref f) us kw) (EP X pins σ Q) X.xe s := by
  refine wpAny_call (codeAny_mono (G.run X.A X.stack s H ⟨us, kw⟩ xs vs Q (fun c d H' => W c d σ H') hr hg I.env0 bt r h) fun z s' hq => ?_)
  cases z with
  | error e => exact tk e s' (XE.of_call I (fun _ _ _ q => q) hq)
  | ok fl =>
    cases fl with
    | ret u => exact I.after hq
    | next => exact hq.elim
    | brk => exact hq.elim
    | cont => exact hq.elim
theorem st_endW {σ : L2.St} {ρ : DEnv} {H Hs H' Hs' : Hp} {θ θ' : Pot} {i : Nat} {g : Bool} {ks ks' : List (List Int)} {ds ds' : List Dt} {a : Addr} {q q' : List DE} (st : StOk X.K F σ H Hs ρ θ) (h : ρ[i]? = some (some (.dic g ks ds))) (h1 : σ[i]? = some (some (.ref a))) (h2 : H a = some (DicO a q)) (e : FnEnd F.ap (tbK X.K) Hs (upd H a (.tbl #[])) Hs' H' θ')
    (g1 : H' a = some (DicO a q')) (g2 : DicK X.K Hs' ks' ds' q') (g3 : Hs' a = none) : StOk X.K F σ H' Hs' (ρ.set i (some (.dic g ks' ds'))) θ' := by
  obtain ⟨a', q0, f1, f2, f3, f4, f5, f6⟩ := st.dic i g ks ds h
  rw [h1] at f1
  cases f1
  have up : ∀ {b o}, H b = some o → b ≠ a → upd H a (.tbl #[]) b = some o := fun {b o} w n => (upd_ne n).trans w
  have nn : ∀ {b}, H b ≠ none → upd H a (.tbl #[]) b ≠ none := fun {b} w z => by
    by_cases n : b = a
    · rw [n, upd_same] at z
      cases z
    · rw [upd_ne n] at z
      exact w z
  have st1 : StOk X.K F σ H' Hs' (ρ.set i none) θ' := by
    refine ⟨e.i, e.hap, e.pot, fun b o w1 nt w2 => ?_, fun b hb => e.thr b (nn (st.thr b hb)), e.tab, fun b hb => (e.n b (nn (st.H0H hb))).trans (st.frs b hb), fun j d z => ?_, fun j l z => ?_, fun j k l m b z1 z2 => st.sep j k l m b (set_none_at z1).2 (set_none_at z2).2, fun j z => st.pt j (set_none_at z).2, fun j n z => st.fx j n (set_none_at z).2, fun j n z => ?_, by rw [List.length_set]; exact st.len, fun j g2 k2 l2 z => ?_, fun j k g2 g3 k2 k3 v2 v3 b q1 q2 => st.sepD j k g2 g3 k2 k3 v2 v3 b (set_none_at q1).2 (set_none_at q2).2⟩
    · have ne : b ≠ a := fun k => by
        rw [k] at w2
        cases g with
        | true =>
          obtain ⟨f5, _⟩ := (show F.H0 a = some (.tbl #[]) ∧ F.xs 2 = some a from f5)
          rw [w2] at f5
          cases f5
          exact nt _ rfl
        | false =>
          have f5 : F.H0 a = none := f5
          rw [w2] at f5
          cases f5
      exact e.old b o w1 nt (up (st.old b o w1 nt w2) ne)
    · obtain ⟨v, e1, e2⟩ := st.dat j d (set_none_at z).2
      exact ⟨v, e1, Rep.mono e.s d e2⟩
    · obtain ⟨b, xs, e1, e2, e3, e4, e5, e6⟩ := st.own j l (set_none_at z).2
      have ne : b ≠ a := fun w => by rw [w, h2] at e2; exact dicO_lst _ (Option.some.inj e2)
      exact ⟨b, xs, e1, e.old _ _ e6 notT_lst (up e2 ne), Reps.mono e.s l e3, (e.n b (nn (by rw [e2]; exact fun z => nomatch z))).trans e4, e5, e6⟩
    · obtain ⟨b, xs, e0, e1, e2, e3, e4, e5, e6⟩ := st.opn j n (set_none_at z).2
      have ne : b ≠ a := fun w => by rw [w, h2] at e2; exact dicO_lst _ (Option.some.inj e2)
      exact ⟨b, xs, e0, e1, e.old _ _ e6 notT_lst (up e2 ne), e3.mono e.s, (e.n b (nn (by rw [e2]; exact fun z => nomatch z))).trans e4, e5, e6⟩
    · obtain ⟨k, z⟩ := set_none_at z
      obtain ⟨b, xs, e1, e2, e3, e4, e5, e6⟩ := st.dic j g2 k2 l2 z
      have ne : b ≠ a := fun w => k (st.sepD i j g g2 ks k2 ds l2 a h z h1 (by rw [← w]; exact e1))
      exact ⟨b, xs, e1, e.old _ _ e6 dicO_tbl (up e2 ne), e3.mono e.s, (e.n b (nn (by rw [e2]; exact fun z => nomatch z))).trans e4, e5, e6⟩
  have st2 := st_setQ st1 i (a := a) (g := g) (e := q') (ks := ks') (vs := ds') g1 g2 g3 f5 f6 fun j g2 k2 v2 k z w => by
    rw [List.getElem?_set_ne (Ne.symm k)] at z
    exact k (st.sepD i j g g2 ks k2 ds v2 a h z h1 w).symm
  rw [List.set_set, getElem?_set_self_of h1] at st2
  exact st2
theorem pick_all {α : Type} (l : List α) : pick (List.range l.length) l = l := by
  unfold pick
  induction l with
  | nil => rfl
  | cons a l ih =>
    rw [List.length_cons, List.range_succ_eq_map, List.filterMap_cons]
    simp only [List.getElem?_cons_zero, List.filterMap_map, Function.comp_def, List.getElem?_cons_succ]
    rw [ih]
def mCallW (f : MirW) (i : Nat) (mr : M (List Ent)) : M Out := fun ρ θ => match ρ[i]? with
  | some (some (.dic g ks ds)) => bnd mr (fun l ρ θ => match f ks ds l θ with
    | .ok c θ' => .ok (.next (ρ.set i (some (.dic g c.1 c.2)))) θ'
    | _ => .bad) ρ θ
  | _ => .bad
/-- f(d, ..): d the caller's dict -/
theorem psd_callW {k n : Nat} {f : Addr} {fd : FuncData} {ps : List Str} {m : MirW} {mr : M (List Ent)} {y : Str} {q pos' : Pos} (i : Nat) (tk : Takes X W) (G : FnPW X.prog X.w X.K X.mg X.base k f fd ps m) (hr : Room k X.A) (hg : X.A.guards = some []) (hm : X.mg x = some (.ref f)) (kp : PySem.W.keepIn X.K (.ref f) = true) (bt : Bt X.K fd ps (n + 1) [] [] (List.range (n + 1))) (hps : ps.length = n + 1)
    (ha : PAE X F W es mr) (la : LenE mr n) (hN : X.N[i]? = some y := by rfl) (hv : Vis X.env.scope y := by first | exact Or.inl rfl | exact Or.inr (Or.inl rfl) | exact Or.inr (Or.inr rfl)) (hd : (y == ("__debug__" : Str)) = false := by decide) (hcd : (y == ("__classdict__" : Str)) = false := by decide) (gl : Gl X x := by rfl)
    (hks : (backToKw pos' (keywordEach [] X.env)).filterMap (·.1) = [] := by rfl) (hall : (backToKw pos' (keywordEach [] X.env)).all (·.1.isSome) = true := by rfl)
    (he : starEach (.Name y q :: es) X.env = (false, eval (.Name y q) X.env) :: starEach es X.env := by rfl) (hpl : ((backTo pos' (starEach (.Name y q :: es) X.env)).any (·.1) || (backToKw pos' (keywordEach [] X.env)).any (·.1.isNone)) = false := by rfl) (hdb : (x == ("__debug__" : Str)) = false := by decide)
    (hs : swapsWith (.Call (.Name x p) (.Name y q :: es) [] pos') none pos.line X.env = pure false := by rfl) : PSD X F W (.Expr (.Call (.Name x p) (.Name y q :: es) [] pos') pos) (mCallW m i mr) := by
  have H1 : PE X (.Call (.Name x p) (.Name y q :: es) [] pos') (fun σ H Q => tCons (tVar i) (fun σ H Q => tE X F W mr σ H fun vs H' => vs.length = n → Q vs H') σ H fun vs H2 => vs.length = n + 1 ∧ spW X.K ps.length m vs H2 Q) := by
    have ha' : PA X es (fun σ H Q => tE X F W mr σ H fun vs H' => vs.length = n → Q vs H') := by
      refine pa_imp ha fun σ H Q h => ?_
      obtain ⟨ρ, θ, Hs, st, h⟩ := tE_with la h
      exact ⟨ρ, θ, Hs, st, h.imp (fun l θ' q vs H' Hs' s' st' r => (q vs H' Hs' s' st' r).2) fun _ _ _ z => z⟩
    refine ⟨fun pins s σ H Q I h => ?_⟩
    refine wpAny_Call_Name_kw (ld_glob I gl hm ?_ hdb)
    have PA1 := pa_cons (pe_var hN hv hd hcd) ha' he
    refine PySem.W.callWith_KW (h₀ := X.base) I.ok.mod.kin kp hall (thn (PA1.run pos' pins s σ H _ I h) fun us s1 ⟨vs, H1, I1, r1, l1, q1⟩ => ?_) hpl he
    have K1 := (pk_nil (X := X)).run pos' pins s1 σ H1 (fun zs H2 => zs = [] ∧ H2 = H1) I1 ⟨rfl, rfl⟩
    refine thn K1 fun ws s2 ⟨zs, H2, I2, r2, q2⟩ => ⟨I2.kIn, ?_⟩
    obtain ⟨e2, e3⟩ := q2
    subst e3
    rw [e2] at r2
    rw [hks]
    have w0 : ws = [] := by cases r2; rfl
    subst w0
    have lu : us.length = n + 1 := r1.length.symm.trans l1
    have pk : pick (List.range (n + 1)) (us ++ ([] ++ [])) = us := by
      rw [List.append_nil, List.append_nil, ← lu]
      exact pick_all us
    have b1 := bt s2 us [] I2.kIn lu rfl
    rw [pk] at b1
    exact run_pW G hr hg tk I2 r1 b1 q1
  refine ps_imp (ps_expr H1 hs) fun D σ H h => ?_
  obtain ⟨ρ, θ, Hs, st, h⟩ := h
  unfold mCallW at h
  split at h
  · rename_i g ks ds eo
    obtain ⟨a0, q0, f1, f2, f3⟩ := st_dic_at st eo
    refine ⟨.ref a0, f1, ?_⟩
    refine then_E OkS.anti st h fun vs l H2 Hs2 θ2 s2 st2 r2 h ll => ?_
    obtain ⟨a1, q1, i1, i2, i3, i4, i5, i6⟩ := st2.dic i g ks ds eo
    rw [f1] at i1
    cases i1
    refine ⟨by rw [List.length_cons, ll], by rw [List.length_cons, ll, hps], F.ap, Hs2, l, θ2, a0, vs, ks, ds, q1, rfl, st2.sub, st2.tab, st2.hap, st2.pot, r2, i2, i3, i4, i6, ?_⟩
    cases em : m ks ds l θ2 with
    | ok c θ3 =>
      rw [em] at h
      exact fun H' Hs' q' fe g1 g2 g3 => h σ H' Hs' fe.s (st_endW st2 eo f1 i2 fe g1 g2 g3)
    | exn e ρ' θ' => rw [em] at h; exact h.elim
    | bad => rw [em] at h; exact h.elim
  · exact h.elim
end
end Pd



namespace Pd
variable [Pd.LamTab]
open PySem PySem.Spec PyProof.Rows L2
section
variable {X : Cx} {F : Fr0} {W : WX} {a b : Expr} {pos : Pos}
def tDisp1 (K : PySem.W.Frag) (tk tv : TE) : TE := fun σ H Q => ∀ p, H p = none → tPairs [(tk, tv)] σ (upd H p (DicO p [])) fun ps H2 => H2 p = some (DicO p []) ∧ ∃ b k y, ps = [(.ref b, y)] ∧ SqT K H2 b (k.map V.int) ∧ Q (.ref p) (upd H2 p (DicO p [(k, b, y)]))
theorem pe_disp1 {tk tv : TE} (hu : X.A.units + 1 < cLine) (hk : PE X a tk) (hv : PE X b tv) : PE X (.Dict [some a] [b] pos) (tDisp1 X.K tk tv) := by
  refine ⟨fun pins s σ H Q I q => ?_⟩
  have hn := I.hok.fresh (Nat.le_refl s.heap.objs.size)
  have hm : (s.heap.objs.size == sysModules) = false := beq_eq_false_iff_ne.mpr (Nat.ne_of_gt I.big)
  have I1 := I.laid (a := s.heap.objs.size) (o := DicO s.heap.objs.size []) (h' := s.heap.push { cls := .type "dict", data := .dict #[] }) (t' := s.toks) (fun _ _ q => Heap.get?_push_of_some _ q) (Nat.le_refl _) (dicO_ok (dicW_nil hm) (Heap.get?_push_size _ rfl) dicObj_nil)
  rw [arm_eval_Dict, zip_pairTrees [some a] [b] X.env pos rfl rfl, dictDisplay_pairs (pairTrees [some a] [b] X.env pos) (fun h => nomatch h) (show 1 < 17 by decide)]
  have fin : wpAny (model X.prog X.w) X.A (evalPairs (pairTrees [some a] [b] X.env pos)) (fun vs s₁ => ∃ ps, CarriesH (tkd X) s₁.heap vs ps ∧ s₁.heap.DictOfH (tkd X) s.heap.objs.size [] ∧
      ∀ h' tk, h'.DictOfH (tkd X) s.heap.objs.size (storedAllH [] ps) → Heap.SameBut s.heap.objs.size s₁.heap h' → EP X pins σ Q (.ref s.heap.objs.size) { s₁ with heap := h', toks := tk }) X.xe { s with heap := s.heap.push { cls := .type "dict", data := .dict #[] } } := by
    refine thn ((pps_cons hk hv pps_nil).run pins _ σ _ _ I1 (q _ hn)) fun ws s2 ⟨ps, H2, I2, rel, e, b0, k, y, ep, kb, q2⟩ => ?_
    · subst ep
      cases rel with
      | @cons p0 q0 _ _ h t =>
      cases t
      obtain ⟨u, v⟩ := q0
      obtain ⟨ru, rv⟩ := h
      obtain rfl : u = Value.ref b0 := ru
      obtain ⟨⟨w, o, ho, hx, es, ep, xs, hdt, rr, he⟩, _⟩ := (show ObjOk X.prog X.w H2 s2.heap s.heap.objs.size (DicO s.heap.objs.size []) from I2.hok _ _ e)
      cases rr
      refine ⟨[(k, b0, v)], ⟨rfl, rfl, key_at I2 kb, True.intro⟩, ⟨o, es, ep, ho, hx, hdt, he, fun x hx => (List.not_mem_nil hx).elim, List.nodup_nil⟩, fun h' tk dd' hs => ⟨.ref s.heap.objs.size, _, ?_, rfl, q2⟩⟩
      obtain ⟨o', es', ep', g1, g2, g3, g4, _, g5⟩ := dd'
      exact d_write I2 (by rw [e]; exact True.intro) hs ⟨o', g1⟩ (dicO_ok ⟨hm, by show 1 ≤ sizeLine; decide, by simp⟩ g1 ⟨g2, es', ep', _, g3, .cons ⟨rfl, rfl, rv⟩ .nil, g4⟩)
  exact wpAny_bind (wpAny_standAt (wpAny_bind (wpAny_subDictH (knd := tkd X) (Q := fun d s' => wpAny (model X.prog X.w) X.A (pure (Value.ref d)) (EP X pins σ Q) X.xe s') (show X.A.units < cLine by omega) (show 1 ≤ 15 by decide)
    (wpAny_mono fin (fun vs s₁ h₁ => by obtain ⟨ps, hc, hm, hq⟩ := h₁; exact ⟨ps, hc, hm, fun h' tk a b => wpAny_pure (hq h' tk a b)⟩) fun _ _ e => e))))
def Fr0.wth (F : Fr0) (p : Addr) : Fr0 := ⟨F.ap, upd F.H0 p (DicO p []), fun b => if b = p then none else F.Hs0 b, F.cells, F.xs, F.op⟩
theorem st_wth {σ : L2.St} {H Hs : Hp} {ρ : DEnv} {θ : Pot} {p : Addr} (st : StOk X.K F σ H Hs ρ θ) (np : H p = none) : StOk X.K (F.wth p) σ (upd H p (DicO p [])) Hs ρ θ := by
  have st1 := st_new (o := DicO p []) st np
  have n0 := h0_none st np
  have h0 : ∀ {b}, b ≠ p → (F.wth p).H0 b = F.H0 b := fun {b} z => upd_ne z
  refine ⟨st1.sub, st1.hap, st1.pot, fun b o w1 nt w2 => ?_, fun b hb => ?_, st1.tab, fun b hb => ?_, st1.dat, fun i l e => ?_, st1.sep, st1.pt, st1.fx, fun i ks e => ?_, st1.len, fun i g ks vs e => ?_, st1.sepD⟩
  · by_cases z : b = p
    · rw [z] at w2 ⊢
      rw [upd_same]
      exact (upd_same).symm.trans w2
    · exact st1.old b o w1 nt ((h0 z).symm.trans w2)
  · by_cases z : b = p
    · rw [z, upd_same]
      exact fun w => nomatch w
    · exact st1.thr b (by rw [← h0 z]; exact hb)
  · show Hs b = if b = p then none else F.Hs0 b
    by_cases z : b = p
    · rw [if_pos z, z]
      exact st.sub.free np
    · rw [if_neg z]
      exact st.frs b (by rw [← h0 z]; exact hb)
  · obtain ⟨a, xs, e1, e2, e3, e4, e5, e6⟩ := st.own i l e
    have z : a ≠ p := ne_of_none e2 np
    exact ⟨a, xs, e1, by rw [upd_ne z]; exact e2, e3, e4, (h0 z).trans e5, e6⟩
  · obtain ⟨a, xs, e0, e1, e2, e3, e4, e5, e6⟩ := st.opn i ks e
    have z : a ≠ p := ne_of_none e2 np
    exact ⟨a, xs, e0, e1, by rw [upd_ne z]; exact e2, e3, e4, (h0 z).trans e5, e6⟩
  · obtain ⟨a, xs, e1, e2, e3, e4, e5, e6⟩ := st.dic i g ks vs e
    have z : a ≠ p := ne_of_none e2 np
    refine ⟨a, xs, e1, by rw [upd_ne z]; exact e2, e3, e4, ?_, e6⟩
    cases g with
    | true => exact ⟨(h0 z).trans e5.1, e5.2⟩
    | false => exact (h0 z).trans e5
theorem st_unwth {σ : L2.St} {H Hs : Hp} {ρ : DEnv} {θ : Pot} {p : Addr} (n0 : F.H0 p = none) (st : StOk X.K (F.wth p) σ H Hs ρ θ) : StOk X.K F σ H Hs ρ θ := by
  have h0 : ∀ {b}, b ≠ p → (F.wth p).H0 b = F.H0 b := fun {b} z => upd_ne z
  have ne : ∀ {b}, F.H0 b ≠ none → b ≠ p := fun {b} h z => h (by rw [z]; exact n0)
  have np : ∀ {b}, (F.wth p).H0 b = none → b ≠ p := fun {b} h z => by
    rw [z] at h
    exact nomatch (show some (DicO p []) = none from (upd_same).symm.trans h)
  refine ⟨st.sub, st.hap, st.pot, fun b o w1 nt w2 => ?_, fun b hb => ?_, st.tab, fun b hb => ?_, st.dat, fun i l e => ?_, st.sep, st.pt, st.fx, fun i ks e => ?_, st.len, fun i g ks vs e => ?_, st.sepD⟩
  · exact st.old b o w1 nt ((h0 (ne (by rw [w2]; exact fun z => nomatch z))).trans w2)
  · exact st.thr b (by rw [h0 (ne hb)]; exact hb)
  · have w := st.frs b (by rw [h0 (ne hb)]; exact hb)
    rw [w]
    exact if_neg (ne hb)
  · obtain ⟨a, xs, e1, e2, e3, e4, e5, e6⟩ := st.own i l e
    exact ⟨a, xs, e1, e2, e3, e4, (h0 (np e5)).symm.trans e5, e6⟩
  · obtain ⟨a, xs, e0, e1, e2, e3, e4, e5, e6⟩ := st.opn i ks e
    have z : a ≠ p := fun z => by
      rw [z] at e5
      exact dicO_tbl _ (Option.some.inj ((show (F.wth p).H0 p = some (DicO p []) from upd_same).symm.trans e5))
    exact ⟨a, xs, e0, e1, e2, e3, e4, (h0 z).symm.trans e5, e6⟩
  · obtain ⟨a, xs, e1, e2, e3, e4, e5, e6⟩ := st.dic i g ks vs e
    refine ⟨a, xs, e1, e2, e3, e4, ?_, e6⟩
    cases g with
    | true =>
      obtain ⟨e5, e7⟩ := e5
      have z : a ≠ p := fun z => by
        rw [z] at e5
        exact dicO_tbl _ (Option.some.inj ((show (F.wth p).H0 p = some (DicO p []) from upd_same).symm.trans e5))
      exact ⟨(h0 z).symm.trans e5, e7⟩
    | false => exact (h0 (np e5)).symm.trans e5
def mDisp1 (mk mv : M Dt) : M KD := fun ρ θ => match mk ρ θ with
  | .ok k θ1 => match mv ρ θ1 with
    | .ok d θ2 => match keyOf k with
      | some j => .ok ([j], [d]) θ2
      | none => .bad
    | _ => .bad
  | _ => .bad
theorem pq_disp1 {mk mv : M Dt} (hu : X.A.units + 178 < cLine) (hk : ∀ F : Fr0, PD X F W0 a mk) (hv : ∀ F : Fr0, PD X F W0 b mv) : PQ X F W (.Dict [some a] [b] pos) (mDisp1 mk mv) := by
  have hk' : PE X a (fun σ H Q => ∃ F, tD X F W0 mk σ H Q) := ⟨fun pins s1 σ H1 Q I ⟨F1, h⟩ => (hk F1).run pins s1 σ H1 Q I h⟩
  have hv' : PE X b (fun σ H Q => ∃ F, tD X F W0 mv σ H Q) := ⟨fun pins s1 σ H1 Q I ⟨F1, h⟩ => (hv F1).run pins s1 σ H1 Q I h⟩
  refine pe_imp (pe_disp1 (show X.A.units + 1 < cLine by omega) hk' hv') fun σ H Q h => ?_
  obtain ⟨ρ, θ, Hs, st, h⟩ := h
  intro p np
  have n0 := h0_none st np
  have st1 := st_wth st np
  unfold mDisp1 at h
  refine ⟨F.wth p, ρ, θ, Hs, st1, ?_⟩
  cases ek : mk ρ θ with
  | bad => rw [ek] at h; exact h.elim
  | exn e ρ' θ' => rw [ek] at h; exact h.elim
  | ok k θ1 =>
    rw [ek] at h
    dsimp only at h
    intro x H1 Hs1 s1 st2 r1
    refine ⟨F.wth p, ρ, θ1, Hs1, st2, ?_⟩
    cases ev : mv ρ θ1 with
    | bad => rw [ev] at h; exact h.elim
    | exn e ρ' θ' => rw [ev] at h; exact h.elim
    | ok d θ2 =>
      rw [ev] at h
      dsimp only at h
      intro y H2 Hs2 s2 st3 r2
      cases ej : keyOf k with
      | none => rw [ej] at h; exact h.elim
      | some j =>
        rw [ej] at h
        obtain ⟨b0, rfl, kb⟩ := key_rep ej r1
        have hp : H2 p = some (DicO p []) := st3.old p _ (fun z => st.apH z np) dicO_tbl upd_same
        have hsp : Hs2 p = none := (st3.frs p (by rw [show (F.wth p).H0 p = some (DicO p []) from upd_same]; exact fun z => nomatch z)).trans (if_pos rfl)
        have st4 := st_unwth n0 st3
        have na : F.ap ≠ some p := fun z => st.apH z np
        have st5 : StOk X.K F σ (upd H2 p (DicO p [(j, b0, y)])) Hs2 ρ θ2 := by
          have z : ∀ b u, Hs2 b = some u → b ≠ p := fun b u q k => by rw [k, hsp] at q; cases q
          refine ⟨fun b u w => by rw [upd_ne (z b u w)]; exact st4.sub b u w, st4.hap, fun q w => ?_, fun b o w1 nt w2 => ?_, fun b hb z => ?_, ?_, st4.frs, st4.dat, fun i l w => ?_, st4.sep, st4.pt, st4.fx, fun i ks w => ?_, st4.len, fun i g ks vs w => ?_, st4.sepD⟩
          · rw [upd_ne (fun k => na (by rw [← k]; exact w))]
            exact st4.pot q w
          · rw [upd_ne (fun k => by rw [k, n0] at w2; cases w2)]
            exact st4.old b o w1 nt w2
          · by_cases k : b = p
            · rw [k, upd_same] at z
              cases z
            · rw [upd_ne k] at z
              exact st4.thr b hb z
          · intro q hq
            obtain ⟨k0, ps, k1, k2, k3⟩ := st4.tab q hq
            have ne : q.1 ≠ p := fun w => by rw [w, hp] at k1; exact dicO_tbl _ (Option.some.inj k1)
            refine ⟨k0, ps, by rw [upd_ne ne]; exact k1, k2, fun pos cv hc => ?_⟩
            obtain ⟨cc, w1, w2, w3⟩ := k3 pos cv hc
            have nc : cc ≠ p := fun w => by rw [w, hsp] at w3; cases w3
            exact ⟨cc, w1, by rw [upd_ne nc]; exact w2, w3⟩
          · obtain ⟨c, zs, g1, g2, g3⟩ := st4.own i l w
            have ne : c ≠ p := fun w => by rw [w, hp] at g2; exact dicO_lst _ (Option.some.inj g2)
            exact ⟨c, zs, g1, by rw [upd_ne ne]; exact g2, g3⟩
          · obtain ⟨c, zs, g0, g1, g2, g3⟩ := st4.opn i ks w
            have ne : c ≠ p := fun w => by rw [w, hp] at g2; exact dicO_lst _ (Option.some.inj g2)
            exact ⟨c, zs, g0, g1, by rw [upd_ne ne]; exact g2, g3⟩
          · obtain ⟨c, zs, g1, g2, g3⟩ := st4.dic i g ks vs w
            obtain ⟨c', zs', i1, i2, _⟩ := st.dic i g ks vs w
            rw [g1] at i1
            cases i1
            have ne : c ≠ p := ne_of_none i2 np
            exact ⟨c, zs, g1, by rw [upd_ne ne]; exact g2, g3⟩
        refine ⟨hp, b0, j, y, rfl, sqt_mono (s2.trans st3.sub) kb, ?_⟩
        exact h p _ _ Hs2 (s1.trans s2) st5 upd_same ⟨rfl, fun x hx => by rw [List.mem_singleton.mp hx]; exact sqt_mono s2 kb, Reps.cons r2 Reps.nil⟩ hsp n0 na (dic_ne st np)
end
end Pd



namespace Pd
variable [Pd.LamTab]
open PySem PySem.Spec PyProof.Rows L2
def lexLt : List Int → List Int → Bool
  | [], [] => false
  | [], _ :: _ => true
  | _ :: _, [] => false
  | x :: xs, y :: ys => if x = y then lexLt xs ys else decide (x < y)
theorem lexAt_shift {e r : Nat → Bool} {z : Bool} : ∀ (k i : Nat), Ob.lexAt e r z (i + 1) k = Ob.lexAt (fun j => e (j + 1)) (fun j => r (j + 1)) z i k
  | 0, _ => rfl
  | k + 1, i => by
    rw [Ob.lexAt_succ, Ob.lexAt_succ, lexAt_shift k (i + 1)]
theorem lexLt_at : ∀ (ns ms : List Int), Ob.lexAt (fun j => decide (ns.getD j 0 = ms.getD j 0)) (fun j => decide (ns.getD j 0 < ms.getD j 0)) (decide (ns.length < ms.length)) 0 (min ns.length ms.length) = lexLt ns ms
  | [], [] => rfl
  | [], m :: ms => by
    rw [show min ([] : List Int).length (m :: ms).length = 0 from Nat.zero_min _, Ob.lexAt_zero]
    exact decide_eq_true (Nat.zero_lt_succ _)
  | n :: ns, [] => by
    rw [show min (n :: ns).length ([] : List Int).length = 0 from Nat.min_zero _, Ob.lexAt_zero]
    exact decide_eq_false (Nat.not_lt_zero _)
  | n :: ns, m :: ms => by
    have e : min (n :: ns).length (m :: ms).length = min ns.length ms.length + 1 := by
      rw [List.length_cons, List.length_cons]
      omega
    rw [e, Ob.lexAt_succ, lexAt_shift]
    have e2 : decide ((n :: ns).length < (m :: ms).length) = decide (ns.length < ms.length) := by
      rw [List.length_cons, List.length_cons]
      exact decide_eq_decide.mpr (by omega)
    rw [e2]
    have ih := lexLt_at ns ms
    show (if decide (n = m) = true then Ob.lexAt (fun j => decide (ns.getD j 0 = ms.getD j 0)) (fun j => decide (ns.getD j 0 < ms.getD j 0)) (decide (ns.length < ms.length)) 0 (min ns.length ms.length) else decide (n < m)) = (if n = m then lexLt ns ms else decide (n < m))
    rw [ih]
    by_cases z : n = m
    · rw [if_pos z, if_pos (decide_eq_true z)]
    · rw [if_neg z, if_neg (fun w => z (of_decide_eq_true w))]
def rLtT (K : PySem.W.Frag) : R2 := fun x y H Q => ∃ (a b : Addr) (ns ms : List Int), x = .ref a ∧ y = .ref b ∧ SqT K H a (ns.map V.int) ∧ SqT K H b (ms.map V.int) ∧ Q (.bl (lexLt ns ms)) H
theorem op_ltT {X : Cx} (hu : X.A.units < cLine) : OpR X (compareOp .Lt) (rLtT X.K) := by
  intro pins s σ H x y v u Q I rx ry h
  obtain ⟨a, b, ns, ms, rfl, rfl, ha, hb, q⟩ := h
  cases rx
  cases ry
  obtain ⟨its, r1, p1, _⟩ := I.tuple ha
  obtain ⟨its2, r2, p2, _⟩ := I.tuple hb
  have i1 : IntsAre its ns := Vals.ints r1
  have i2 : IntsAre its2 ms := Vals.ints r2
  have e1 : its.toArray.size = ns.length := by rw [List.size_toArray]; exact i1.length
  have e2 : its2.toArray.size = ms.length := by rw [List.size_toArray]; exact i2.length
  have at1 : ∀ j (h1 : j < its.toArray.size), ∃ t, its.toArray[j] = .int (ns.getD j 0) t := fun j h1 => PyProof.Rows.IntsAre.int_at i1 _ _ (by simp at h1; simp [h1])
  have at2 : ∀ j (h1 : j < its2.toArray.size), ∃ t, its2.toArray[j] = .int (ms.getD j 0) t := fun j h1 => PyProof.Rows.IntsAre.int_at i2 _ _ (by simp at h1; simp [h1])
  have R := Ob.RcOp.tuples_lt (A := X.A) (s := s) (e := fun j => decide (ns.getD j 0 = ms.getD j 0)) (r := fun j => decide (ns.getD j 0 < ms.getD j 0)) p1 p2 hu (fun j h1 h2 => by
    obtain ⟨t, et⟩ := at1 j h1
    obtain ⟨t', et'⟩ := at2 j h2
    rw [et, et']
    have z : (ns.getD j 0 == ms.getD j 0) = decide (ns.getD j 0 = ms.getD j 0) := by
      by_cases q : ns.getD j 0 = ms.getD j 0
      · rw [decide_eq_true q]
        exact beq_iff_eq.mpr q
      · rw [decide_eq_false q]
        exact beq_eq_false_iff_ne.mpr q
    rw [← z]
    exact SeqAt.EqAt.int_int _ _ _ _) (fun j h1 h2 _ => by
    obtain ⟨t, et⟩ := at1 j h1
    obtain ⟨t', et'⟩ := at2 j h2
    rw [et, et']
    exact Ob.RcOp.lt_int _ _ _ _)
  rw [e1, e2, lexLt_at] at R
  exact R X.prog X.w X.xe (EP X pins σ Q) ⟨.bl _, H, I, rfl, q⟩
def gLtT (a b : Dt) : Option Dt := match keyOf a, keyOf b with
  | some ns, some ms => some (.bl (lexLt ns ms))
  | _, _ => none
theorem od_ltT {X : Cx} (hu : X.A.units + 178 < cLine) : OpD X (compareOp .Lt) gLtT := by
  refine ⟨_, op_ltT (show X.A.units < cLine by omega), fun a b d e Hs H x y Q s ra rb q => ?_⟩
  unfold gLtT at e
  split at e
  · rename_i ns ms ea eb
    cases e
    obtain ⟨p, rfl, h1⟩ := key_rep ea ra
    obtain ⟨p2, rfl, h2⟩ := key_rep eb rb
    exact ⟨p, p2, ns, ms, rfl, rfl, sqt_mono s h1, sqt_mono s h2, q _ Hs H (Grow.refl s) rfl⟩
  · cases e
def gLt2 (a b : Dt) : Option Dt := (gLt a b).or (gLtT a b)
theorem od_lt2 {X : Cx} (hu : X.A.units + 178 < cLine) : OpD X (compareOp .Lt) gLt2 := od_lt.or (od_ltT hu)
def insK (x : List Int) : List (List Int) → List (List Int)
  | [] => [x]
  | y :: l => if cd x ≤ cd y then x :: y :: l else y :: insK x l
def sortK : List (List Int) → List (List Int)
  | [] => []
  | x :: l => insK x (sortK l)
theorem insK_perm (x : List Int) : ∀ l, (insK x l).Perm (x :: l)
  | [] => List.Perm.refl _
  | y :: l => by
    unfold insK
    by_cases c : cd x ≤ cd y
    · rw [if_pos c]
    · rw [if_neg c]
      exact ((insK_perm x l).cons y).trans (List.Perm.swap x y l)
theorem sortK_perm : ∀ l, (sortK l).Perm l
  | [] => List.Perm.refl _
  | x :: l => (insK_perm x (sortK l)).trans ((sortK_perm l).cons x)
theorem insK_sorted (x : List Int) : ∀ l, l.Pairwise (fun a b => cd a ≤ cd b) → (insK x l).Pairwise (fun a b => cd a ≤ cd b)
  | [], _ => List.pairwise_singleton _ _
  | y :: l, h => by
    unfold insK
    have hy := List.pairwise_cons.mp h
    by_cases c : cd x ≤ cd y
    · rw [if_pos c]
      refine List.pairwise_cons.mpr ⟨fun z hz => ?_, h⟩
      rcases List.mem_cons.mp hz with e | e
      · rw [e]
        exact c
      · exact Int.le_trans c (hy.1 z e)
    · rw [if_neg c]
      refine List.pairwise_cons.mpr ⟨fun z hz => ?_, insK_sorted x l hy.2⟩
      rcases List.mem_cons.mp ((insK_perm x l).mem_iff.mp hz) with e | e
      · rw [e]
        omega
      · exact hy.1 z e
theorem sortK_sorted : ∀ l, (sortK l).Pairwise (fun a b => cd a ≤ cd b)
  | [] => List.Pairwise.nil
  | x :: l => insK_sorted x _ (sortK_sorted l)
/-- keys that may be sorted: fewer than 64, of one length, with small numbers -/
def okB (d : Nat) (k : List Int) : Bool := decide (k.length = d) && k.all fun x => decide (0 ≤ x) && decide (x < 1000)
def okSort (ks : List (List Int)) : Bool := decide (ks.length < 64) && match ks with
  | [] => true
  | k :: _ => decide (1 ≤ k.length) && ks.all (okB k.length)
theorem okB_iff {d : Nat} {k : List Int} : okB d k = true ↔ k.length = d ∧ TS.Bd 1000 k := by
  unfold okB TS.Bd
  simp only [Bool.and_eq_true, decide_eq_true_eq, List.all_eq_true]
theorem cd_inj {d : Nat} {a b : List Int} (ha : okB d a = true) (hb : okB d b = true) (e : cd a = cd b) : a = b := by
  obtain ⟨la, ba⟩ := okB_iff.mp ha
  obtain ⟨lb, bb⟩ := okB_iff.mp hb
  clear ha hb
  induction a generalizing b d with
  | nil =>
    cases b with
    | nil => rfl
    | cons y b => rw [← la] at lb; cases lb
  | cons x a ih =>
    cases b with
    | nil => rw [← lb] at la; cases la
    | cons y b =>
      rw [List.length_cons] at la lb
      have hl : a.length = b.length := by omega
      rcases Int.lt_trichotomy x y with z | z | z
      · have := TS.code_lt hl ba.tail bb.tail z
        unfold cd at e
        omega
      · subst z
        have e2 : cd a = cd b := by
          unfold cd TS.code at e
          rw [hl] at e
          unfold cd
          omega
        rw [ih (d := a.length) e2 rfl ba.tail hl.symm bb.tail]
      · have := TS.code_lt hl.symm bb.tail ba.tail z
        unfold cd at e
        omega
theorem sorted_oneK : ∀ {a b : List (List Int)} {d : Nat}, a.Perm b → (∀ k ∈ a, okB d k = true) → a.Pairwise (fun x y => cd x ≤ cd y) → b.Pairwise (fun x y => cd x ≤ cd y) → a = b
  | [], b, _, p, _, _, _ => (List.nil_perm.mp p).symm
  | x :: a, [], _, p, _, _, _ => absurd p.length_eq (by simp)
  | x :: a, y :: b, d, p, ok, h1, h2 => by
    have k1 := List.pairwise_cons.mp h1
    have k2 := List.pairwise_cons.mp h2
    have e : x = y := by
      have m1 : x ∈ y :: b := p.mem_iff.mp List.mem_cons_self
      have m2 : y ∈ x :: a := p.mem_iff.mpr List.mem_cons_self
      have l1 : cd y ≤ cd x := by
        rcases List.mem_cons.mp m1 with z | z
        · rw [z]
          exact Int.le_refl _
        · exact k2.1 x z
      have l2 : cd x ≤ cd y := by
        rcases List.mem_cons.mp m2 with z | z
        · rw [z]
          exact Int.le_refl _
        · exact k1.1 y z
      exact cd_inj (ok x List.mem_cons_self) (ok y m2) (by omega)
    subst e
    rw [sorted_oneK (p.cons_inv) (fun k hk => ok k (List.mem_cons_of_mem _ hk)) k1.2 k2.2]
def keysOf : List Dt → Option (List (List Int))
  | [] => some []
  | d :: l => match keyOf d, keysOf l with
    | some k, some ks => some (k :: ks)
    | _, _ => none
theorem keysOf_eq : ∀ {l : List Dt} {ks : List (List Int)}, keysOf l = some ks → l = ks.map keyD
  | [], ks, h => by cases h; rfl
  | d :: l, ks, h => by
    unfold keysOf at h
    split at h
    · rename_i k ks' e1 e2
      cases h
      rw [List.map_cons, ← keysOf_eq e2]
      congr 1
      cases d with
      | tup l' => exact congrArg Dt.tup (intsOf_eq (show intsOf l' = some k from e1))
      | _ => cases e1
    · cases h
theorem keyOf_keyD (k : List Int) : keyOf (keyD k) = some k := by
  show intsOf (k.map Dt.int) = some k
  induction k with
  | nil => rfl
  | cons x k ih =>
    show (intsOf (k.map Dt.int)).map (x :: ·) = some (x :: k)
    rw [ih]
    rfl
theorem keysOf_map : ∀ ks : List (List Int), keysOf (ks.map keyD) = some ks
  | [] => rfl
  | k :: ks => by
    show (match keyOf (keyD k), keysOf (ks.map keyD) with
      | some k, some ks => some (k :: ks)
      | _, _ => none) = _
    rw [keyOf_keyD, keysOf_map ks]
theorem perm_keys {K : PySem.W.Frag} {H : Hp} {xs ys : List V} (p : ys.Perm xs) : ∀ {ks : List (List Int)}, Reps K H (ks.map keyD) xs → ∃ ks' : List (List Int), ks'.Perm ks ∧ Reps K H (ks'.map keyD) ys := by
  induction p with
  | nil => exact fun {ks} r => ⟨ks, List.Perm.refl _, r⟩
  | @cons x l1 l2 _ ih =>
    intro ks r
    cases ks with
    | nil => cases (show _ = [] from r)
    | cons k ks =>
      obtain ⟨v, r0, e, r1, r2⟩ := r
      cases e
      obtain ⟨ks', p', r'⟩ := ih r2
      exact ⟨k :: ks', p'.cons k, Reps.cons r1 r'⟩
  | @swap x y l =>
    intro ks r
    cases ks with
    | nil => cases (show _ = [] from r)
    | cons k ks =>
      obtain ⟨v, r0, e, r1, r2⟩ := r
      cases e
      cases ks with
      | nil => cases (show _ = [] from r2)
      | cons k2 ks =>
        obtain ⟨v2, r3, e, r4, r5⟩ := r2
        cases e
        exact ⟨k2 :: k :: ks, List.Perm.swap k k2 ks, Reps.cons r4 (Reps.cons r1 r5)⟩
  | trans _ _ ih1 ih2 =>
    intro ks r
    obtain ⟨k1, p1, r1⟩ := ih2 r
    obtain ⟨k2, p2, r2⟩ := ih1 r1
    exact ⟨k2, p2.trans p1, r2⟩
theorem tupI_keys {K : PySem.W.Frag} {H : Hp} : ∀ {ks : List (List Int)} {xs : List V}, Reps K H (ks.map keyD) xs → ∀ x ∈ xs, ∃ k ∈ ks, TupI K H x k
  | [], xs, r, x, hx => by
    rw [show xs = [] from r] at hx
    cases hx
  | k :: ks, xs, r, x, hx => by
    obtain ⟨v, r0, rfl, r1, r2⟩ := r
    rcases List.mem_cons.mp hx with e | hx
    · obtain ⟨b, e2, h⟩ := key_rep (keyOf_keyD k) r1
      exact ⟨k, List.mem_cons_self, b, e.trans e2, h⟩
    · obtain ⟨k', m, t⟩ := tupI_keys r2 x hx
      exact ⟨k', List.mem_cons_of_mem _ m, t⟩
theorem pair_keys {K : PySem.W.Frag} {H : Hp} : ∀ {ks : List (List Int)} {xs : List V}, Reps K H (ks.map keyD) xs → xs.Pairwise (fun x y => ∀ n m, TupI K H x n → TupI K H y m → TS.code 1000 n ≤ TS.code 1000 m) → ks.Pairwise (fun a b => cd a ≤ cd b)
  | [], _, _, _ => List.Pairwise.nil
  | k :: ks, xs, r, h => by
    obtain ⟨v, r0, rfl, r1, r2⟩ := r
    obtain ⟨h1, h2⟩ := List.pairwise_cons.mp h
    refine List.pairwise_cons.mpr ⟨fun k' hk => ?_, pair_keys r2 h2⟩
    obtain ⟨b, e2, h3⟩ := key_rep (keyOf_keyD k) r1
    obtain ⟨i, hi⟩ := List.mem_iff_getElem?.mp hk
    obtain ⟨x, g1, g2⟩ := Reps.get (i := i) (d := keyD k') r2 (by rw [List.getElem?_map, hi]; rfl)
    obtain ⟨b', e3, h4⟩ := key_rep (keyOf_keyD k') g2
    exact h1 x (List.mem_of_getElem? g1) k k' ⟨b, e2, h3⟩ ⟨b', e3, h4⟩
def sortOfT : List Dt → Option (List Dt)
  | [.lst l] => (keysOf l).bind fun ks => if okSort ks = true then some ((sortK ks).map keyD) else none
  | _ => none
def mSortedT (ml : M (List Dt)) : M (List Dt) := bnd ml fun l => opt (sortOfT l)
section
variable {X : Cx} {F : Fr0} {W : WX} {a : Expr} {pos p : Pos}
theorem cr_sortTA : CallR X (.builtin "sorted") (fun vs H Q => ∃ d : Nat, 1 ≤ d ∧ rSortU X.K d 1000 vs H Q) := by
  intro pins s σ H vs us Q I r h
  obtain ⟨d, hd, h⟩ := h
  exact cr_sortT hd pins s σ H vs us Q I r h
theorem po_sortedT {ml : M (List Dt)} (hm : X.mg "sorted" = none) (ha : PAD X F W [a] ml) (hg : Gl X "sorted" := by rfl)
    (he : starEach [a] X.env = (false, eval a X.env) :: starEach [] X.env := by rfl) (hpl : (backTo pos (starEach [] X.env)).any (·.1) = false := by rfl) : PO X F W (.Call (.Name "sorted" p) [a] [] pos) (mSortedT ml) := by
  refine pe_imp (pe_callB cr_sortTA hg hm (by decide +kernel) ha (by decide) (by decide) he hpl) fun σ H Q h => ?_
  obtain ⟨ρ, θ, Hs, st, h⟩ := h
  refine then_A OkO.anti st h fun xs l H1 Hs1 θ1 s1 st1 r1 h => ?_
  obtain ⟨d, e, q⟩ := post_opt h
  unfold sortOfT at e
  split at e
  · rename_i l
    obtain ⟨y, r0, er, ⟨b0, ys0, eb, h3, h4⟩, e0⟩ := r1
    cases eb
    cases er
    cases e0
    obtain ⟨ks, ek, e⟩ := Option.bind_eq_some_iff.mp e
    by_cases ok : okSort ks = true
    · rw [if_pos ok] at e
      cases e
      rw [keysOf_eq ek] at h4
      unfold okSort at ok
      obtain ⟨ok1, ok2⟩ := Bool.and_eq_true_iff.mp ok
      have ln : ys0.length = ks.length := by rw [← h4.length, List.length_map]
      have key : ∃ d : Nat, 1 ≤ d ∧ ∀ k ∈ ks, okB d k = true := by
        cases ks with
        | nil => exact ⟨1, Nat.le_refl _, fun k hk => nomatch hk⟩
        | cons k ks =>
          obtain ⟨o1, o2⟩ := Bool.and_eq_true_iff.mp ok2
          exact ⟨k.length, of_decide_eq_true o1, List.all_eq_true.mp o2⟩
      obtain ⟨d, hd, hk⟩ := key
      have h4' := Reps.mono st1.sub _ h4
      refine ⟨d, hd, b0, ys0, rfl, st1.sub.seq h3, by rw [ln]; exact of_decide_eq_true ok1, fun x hx => ?_, fun ns' t p1 p2 nt => ?_⟩
      · obtain ⟨k, m, tk⟩ := tupI_keys h4' x hx
        obtain ⟨z1, z2⟩ := okB_iff.mp (hk k m)
        exact ⟨k, tk, z1, z2⟩
      · obtain ⟨ks', pk, rk⟩ := perm_keys p1 h4
        have ez : ks' = sortK ks := sorted_oneK (d := d) (pk.trans (sortK_perm ks).symm) (fun k m => hk k (pk.mem_iff.mp m)) (pair_keys (Reps.mono st1.sub _ rk) p2) (sortK_sorted ks)
        subst ez
        exact q t ns' _ Hs1 (Same.refl _) (st_new st1 nt) upd_same rk (st1.sub.free nt) (h0_none st1 nt) (ap_ne st1 nt) (own_ne st1 nt)
    · rw [if_neg ok] at e
      cases e
  · cases e
end
end Pd



namespace Pd
variable [Pd.LamTab]
section
variable {ρ : DEnv} {θ : Pot}
def qK (x : Option (Option Ent)) (p : Bool → List (List Int) → List Dt → Prop) : Prop := match x with
  | some (some (.dic g ks vs)) => p g ks vs
  | _ => False
theorem qK_d (g : Bool) (ks : List (List Int)) (vs : List Dt) (p : Bool → List (List Int) → List Dt → Prop) : qK (some (some (.dic g ks vs))) p = p g ks vs := rfl
theorem hide_dic (g : Bool) (ks : List (List Int)) (vs : List Dt) (ρ : DEnv) : hide (some (.dic g ks vs) :: ρ) = none :: hide ρ := rfl
theorem frzE1_dic (g : Bool) (ks : List (List Int)) (vs : List Dt) : frzE1 (some (.dic g ks vs)) = some (.dic g ks vs) := rfl
def setQK (i : Nat) (ρ : DEnv) (Q : Out → Pot → Prop) : KD → Pot → Prop := fun l θ => Q (.next (ρ.set i (some (.dic false l.1 l.2)))) θ
theorem gv_setQ (i : Nat) (ma : M KD) {Q : Out → Pot → Prop} : Gv (mSetQ i ma ρ θ) Q = Gv (ma ρ θ) (setQK i ρ Q) := by
  unfold mSetQ
  rw [gv_bnd]
  rfl
theorem setQK_a (i : Nat) (ks : List (List Int)) (vs : List Dt) {Q : Out → Pot → Prop} : setQK i ρ Q (ks, vs) θ = Q (.next (ρ.set i (some (.dic false ks vs)))) θ := rfl
def dctK (Q : Dt → Pot → Prop) : KD → Pot → Prop := fun l θ => Q (.dct l.1 l.2) θ
theorem gv_dct (m : M KD) {Q : Dt → Pot → Prop} : Gv (mDct m ρ θ) Q = Gv (m ρ θ) (dctK Q) := by
  unfold mDct
  rw [gv_bnd]
  rfl
theorem dctK_a (ks : List (List Int)) (vs : List Dt) {Q : Dt → Pot → Prop} : dctK Q (ks, vs) θ = Q (.dct ks vs) θ := rfl
def putQ2 (i : Nat) (g : Bool) (ks : List (List Int)) (vs : List Dt) (d : Dt) (ρ : DEnv) (Q : Out → Pot → Prop) : Dt → Pot → Prop := fun k θ => match keyOf k with
  | some j => ks.length < bigL ∧ Q (.next (ρ.set i (some (.dic g (dPut (ks, vs) j d).1 (dPut (ks, vs) j d).2)))) θ
  | none => False
def putQ1 (i : Nat) (mb : M Dt) (ρ : DEnv) (Q : Out → Pot → Prop) : Dt → Pot → Prop := fun d θ => qK ρ[i]? fun g ks vs => Gv (mb ρ θ) (putQ2 i g ks vs d ρ Q)
theorem gv_putQ (i : Nat) (mb ma : M Dt) {Q : Out → Pot → Prop} : Gv (mPutQ i mb ma ρ θ) Q = Gv (ma ρ θ) (putQ1 i mb ρ Q) := by
  unfold mPutQ
  rw [gv_bnd]
  refine congrArg (Gv (ma ρ θ)) ?_
  funext d θ1
  unfold putQ1
  rcases ρ[i]? with _ | _ | _ | _ | _ | _ | _ | _ <;> try rfl
  rename_i g ks vs
  show Gv (bnd mb _ ρ θ1) Q = Gv (mb ρ θ1) (putQ2 i g ks vs d ρ Q)
  rw [gv_bnd]
  refine congrArg (Gv (mb ρ θ1)) ?_
  funext k θ2
  unfold putQ2
  cases keyOf k with
  | none => rfl
  | some j => exact if_gv
theorem putQ1_a (i : Nat) (mb : M Dt) (d : Dt) {Q : Out → Pot → Prop} : putQ1 i mb ρ Q d θ = qK ρ[i]? fun g ks vs => Gv (mb ρ θ) (putQ2 i g ks vs d ρ Q) := rfl
theorem putQ2_k (i : Nat) (g : Bool) (ks : List (List Int)) (vs : List Dt) (d : Dt) (j : List Int) {Q : Out → Pot → Prop} : putQ2 i g ks vs d ρ Q (keyD j) θ = (ks.length < bigL ∧ Q (.next (ρ.set i (some (.dic g (dPut (ks, vs) j d).1 (dPut (ks, vs) j d).2)))) θ) := by
  unfold putQ2
  rw [keyOf_keyD]
def ixW2 (ks : List (List Int)) (vs : List Dt) (Q : Dt → Pot → Prop) : Dt → Pot → Prop := fun k θ => match (keyOf k).bind fun j => dGet ks vs j with
  | some d => Q d θ
  | none => False
theorem gv_ixW (i : Nat) (mb : M Dt) {Q : Dt → Pot → Prop} : Gv (mIxW i mb ρ θ) Q = qK ρ[i]? fun _ ks vs => Gv (mb ρ θ) (ixW2 ks vs Q) := by
  unfold mIxW
  rcases ρ[i]? with _ | _ | _ | _ | _ | _ | _ | _ <;> try rfl
  rename_i g ks vs
  show Gv (bnd mb _ ρ θ) Q = Gv (mb ρ θ) (ixW2 ks vs Q)
  rw [gv_bnd]
  refine congrArg (Gv (mb ρ θ)) ?_
  funext k θ2
  unfold ixW2
  cases (keyOf k).bind fun j => dGet ks vs j <;> rfl
theorem gv_ixQd (ks : List (List Int)) (vs : List Dt) (j : List Int) (d : Dt) (h : dGet ks vs j = some d) {Q : Dt → Pot → Prop} : Gv (opt (gIxQ (.dct ks vs) (keyD j)) ρ θ) Q = Q d θ := by
  have e : gIxQ (.dct ks vs) (keyD j) = some d := by
    show (keyOf (keyD j)).bind (fun j => dGet ks vs j) = some d
    rw [keyOf_keyD]
    exact h
  rw [e]
  rfl
def getQ3 (ks : List (List Int)) (vs : List Dt) (k : Dt) (Q : Dt → Pot → Prop) : Dt → Pot → Prop := fun z θ => match keyOf k with
  | some j => Q ((dGet ks vs j).getD z) θ
  | none => False
def getQ2 (ks : List (List Int)) (vs : List Dt) (mc : M Dt) (ρ : DEnv) (Q : Dt → Pot → Prop) : Dt → Pot → Prop := fun k θ => Gv (mc ρ θ) (getQ3 ks vs k Q)
theorem getQ_go (ks : List (List Int)) (vs : List Dt) (mb mc : M Dt) {Q : Dt → Pot → Prop} : Gv (bnd mb (fun k => bnd mc fun z => opt (getK ks vs k z)) ρ θ) Q = Gv (mb ρ θ) (getQ2 ks vs mc ρ Q) := by
  rw [gv_bnd]
  refine congrArg (Gv (mb ρ θ)) ?_
  funext k θ1
  show Gv (bnd mc (fun z => opt (getK ks vs k z)) ρ θ1) Q = Gv (mc ρ θ1) (getQ3 ks vs k Q)
  rw [gv_bnd]
  refine congrArg (Gv (mc ρ θ1)) ?_
  funext z θ2
  unfold getQ3 getK
  cases keyOf k <;> rfl
theorem gv_getW (i : Nat) (mb mc : M Dt) {Q : Dt → Pot → Prop} : Gv (mGetW i mb mc ρ θ) Q = qK ρ[i]? fun _ ks vs => Gv (mb ρ θ) (getQ2 ks vs mc ρ Q) := by
  unfold mGetW
  rcases ρ[i]? with _ | _ | _ | _ | _ | _ | _ | _ <;> try rfl
  exact getQ_go _ _ _ _
theorem getQ2_a (ks : List (List Int)) (vs : List Dt) (mc : M Dt) (k : Dt) {Q : Dt → Pot → Prop} : getQ2 ks vs mc ρ Q k θ = Gv (mc ρ θ) (getQ3 ks vs k Q) := rfl
theorem getQ3_k (ks : List (List Int)) (vs : List Dt) (j : List Int) (z : Dt) {Q : Dt → Pot → Prop} : getQ3 ks vs (keyD j) Q z θ = Q ((dGet ks vs j).getD z) θ := by
  unfold getQ3
  rw [keyOf_keyD]
def getQ1 (mb mc : M Dt) (ρ : DEnv) (Q : Dt → Pot → Prop) : Dt → Pot → Prop := fun d θ => match d with
  | .dct ks vs => Gv (mb ρ θ) (getQ2 ks vs mc ρ Q)
  | _ => False
theorem gv_getQ (ma mb mc : M Dt) {Q : Dt → Pot → Prop} : Gv (mGetQ ma mb mc ρ θ) Q = Gv (ma ρ θ) (getQ1 mb mc ρ Q) := by
  unfold mGetQ
  rw [gv_bnd]
  refine congrArg (Gv (ma ρ θ)) ?_
  funext d θ1
  cases d <;> try rfl
  exact getQ_go _ _ _ _
theorem getQ1_a (mb mc : M Dt) (ks : List (List Int)) (vs : List Dt) {Q : Dt → Pot → Prop} : getQ1 mb mc ρ Q (.dct ks vs) θ = Gv (mb ρ θ) (getQ2 ks vs mc ρ Q) := rfl
def frzX (x : Option (Option Ent)) (i : Nat) (ρ : DEnv) : DEnv := match x with
  | some (some (.dic false ks vs)) => ρ.set i (some (.dat (.dct ks vs)))
  | _ => ρ
theorem frzX_d (ks : List (List Int)) (vs : List Dt) (i : Nat) : frzX (some (some (.dic false ks vs))) i ρ = ρ.set i (some (.dat (.dct ks vs))) := rfl
theorem gv_frzQ (i : Nat) (m : M Out) {Q : Out → Pot → Prop} : Gv (mFrzQ i m ρ θ) Q = Gv (m (frzX ρ[i]? i ρ) θ) Q := rfl
def cwK (f : MirW) (i : Nat) (g : Bool) (ks : List (List Int)) (vs : List Dt) (ρ : DEnv) (Q : Out → Pot → Prop) : List Ent → Pot → Prop := fun l θ => match f ks vs l θ with
  | .ok c θ' => Q (.next (ρ.set i (some (.dic g c.1 c.2)))) θ'
  | _ => False
theorem gv_callW (f : MirW) (i : Nat) (mr : M (List Ent)) {Q : Out → Pot → Prop} : Gv (mCallW f i mr ρ θ) Q = qK ρ[i]? fun g ks vs => Gv (mr ρ θ) (cwK f i g ks vs ρ Q) := by
  unfold mCallW
  rcases ρ[i]? with _ | _ | _ | _ | _ | _ | _ | _ <;> try rfl
  rename_i g ks vs
  show Gv (bnd mr _ ρ θ) Q = Gv (mr ρ θ) (cwK f i g ks vs ρ Q)
  rw [gv_bnd]
  refine congrArg (Gv (mr ρ θ)) ?_
  funext l θ1
  unfold cwK
  cases f ks vs l θ1 <;> rfl
theorem cwK_e (f : MirW) (i : Nat) (g : Bool) (ks : List (List Int)) (vs : List Dt) (l : List Ent) (c : KD) (θ' : Pot) (h : f ks vs l θ = .ok c θ') {Q : Out → Pot → Prop} : cwK f i g ks vs ρ Q l θ = Q (.next (ρ.set i (some (.dic g c.1 c.2)))) θ' := by
  unfold cwK
  rw [h]
theorem gv_dictOf (ml : M (List Dt)) {Q : KD → Pot → Prop} : Gv (mDictOf ml ρ θ) Q = Gv (ml ρ θ) (optK dictOf ρ Q) := by
  unfold mDictOf
  rw [gv_bnd]
  rfl
theorem gv_listOfQ (ml : M (List Dt)) {Q : List Dt → Pot → Prop} : Gv (mListOfQ ml ρ θ) Q = Gv (ml ρ θ) (optK listOfQ ρ Q) := by
  unfold mListOfQ
  rw [gv_bnd]
  rfl
theorem listOfQ_d (ks : List (List Int)) (vs : List Dt) : listOfQ [.dct ks vs] = some (ks.map keyD) := rfl
theorem listOfQ_l (l : List Dt) : listOfQ [.lst l] = some l := rfl
theorem listOfQ_t (l : List Dt) : listOfQ [.tup l] = some l := rfl
theorem gv_seqQ (ma : M Dt) {Q : List Dt → Pot → Prop} : Gv (mSeqQ ma ρ θ) Q = Gv (ma ρ θ) (optK seqOfQ ρ Q) := by
  unfold mSeqQ
  rw [gv_bnd]
  rfl
theorem seqOfQ_d (ks : List (List Int)) (vs : List Dt) : seqOfQ (.dct ks vs) = some (ks.map keyD) := rfl
theorem seqOfQ_l (l : List Dt) : seqOfQ (.lst l) = some l := rfl
theorem seqOfQ_t (l : List Dt) : seqOfQ (.tup l) = some l := rfl
theorem gv_sortedT (ml : M (List Dt)) {Q : List Dt → Pot → Prop} : Gv (mSortedT ml ρ θ) Q = Gv (ml ρ θ) (optK sortOfT ρ Q) := by
  unfold mSortedT
  rw [gv_bnd]
  rfl
theorem sortOfT_k (ks : List (List Int)) (h : okSort ks = true) : sortOfT [.lst (ks.map keyD)] = some ((sortK ks).map keyD) := by
  show (keysOf (ks.map keyD)).bind _ = _
  rw [keysOf_map]
  exact if_pos h
theorem lenQ_d (ks : List (List Int)) (vs : List Dt) {Q : Dt → Pot → Prop} : Gv (opt (gLenQ [.dct ks vs]) ρ θ) Q = Q (.int ks.length) θ := rfl
def isi2F (n m : String) (d : Dt) : Option Dt := (isT2 n m d).map Dt.bl
theorem gv_isi2 (n m : String) (ma : M Dt) {Q : Dt → Pot → Prop} : Gv (mIsi2 n m ma ρ θ) Q = Gv (ma ρ θ) (optK (isi2F n m) ρ Q) := by
  unfold mIsi2
  rw [gv_bnd]
  rfl
theorem pairsOf_map : ∀ ps : List (List Int × Dt), pairsOf (ps.map fun p => .tup [keyD p.1, p.2]) = some ps
  | [] => rfl
  | p :: ps => by
    show (match (keyOf (keyD p.1)).map fun k => (k, p.2), pairsOf (ps.map fun p => .tup [keyD p.1, p.2]) with
      | some p, some ps => some (p :: ps)
      | _, _ => none) = _
    rw [keyOf_keyD, pairsOf_map ps]
    rfl
theorem dGet_append {ks : List (List Int)} {j : List Int} : ∀ {vs : List Dt}, ks.length = vs.length → j ∉ ks → dGet ks vs j = none := by
  induction ks with
  | nil => exact fun {vs} _ _ => by cases vs <;> rfl
  | cons k ks ih =>
    intro vs hl hj
    cases vs with
    | nil => cases hl
    | cons v vs =>
      rw [List.mem_cons, not_or] at hj
      show (if k = j then some v else dGet ks vs j) = none
      rw [if_neg fun e => hj.1 e.symm]
      exact ih (by simpa using hl) hj.2
theorem dPut_new {ks : List (List Int)} {vs : List Dt} {j : List Int} {d : Dt} (hl : ks.length = vs.length) (hj : j ∉ ks) : dPut (ks, vs) j d = (ks ++ [j], vs ++ [d]) := by
  unfold dPut
  rw [dGet_append hl hj]
  rfl
/-- pairs of unlike keys: as they stand -/
theorem dAll_nodup : ∀ (ps : List (List Int × Dt)) (ks : List (List Int)) (vs : List Dt), ks.length = vs.length → (ks ++ ps.map (·.1)).Nodup → dAll (ks, vs) ps = (ks ++ ps.map (·.1), vs ++ ps.map (·.2))
  | [], ks, vs, _, _ => by
    rw [List.map_nil, List.map_nil, List.append_nil, List.append_nil]
    rfl
  | p :: ps, ks, vs, hl, nd => by
    rw [List.map_cons] at nd
    have hj : p.1 ∉ ks := fun h => by
      have := (List.nodup_append.mp nd).2.2 p.1 h p.1 List.mem_cons_self
      exact this rfl
    show dAll (dPut (ks, vs) p.1 p.2) ps = _
    rw [dPut_new hl hj, dAll_nodup ps (ks ++ [p.1]) (vs ++ [p.2]) (by rw [List.length_append, List.length_append, hl]; rfl) (by rw [List.append_assoc]; exact nd)]
    rw [List.append_assoc, List.append_assoc]
    rfl
theorem dictOf_nodup (ps : List (List Int × Dt)) (nd : (ps.map (·.1)).Nodup) : dictOf [.lst (ps.map fun p => .tup [keyD p.1, p.2])] = some (ps.map (·.1), ps.map (·.2)) := by
  show (pairsOf (ps.map fun p => .tup [keyD p.1, p.2])).map (fun ps => dAll ([], []) ps) = _
  rw [pairsOf_map]
  show some (dAll ([], []) ps) = _
  rw [dAll_nodup ps [] [] rfl (by simpa using nd)]
  rfl
end
end Pd



namespace Pd
variable [Pd.LamTab]
open PySem PySem.Spec PyProof.Rows L2
section
variable {X : Cx}
def rSumT (K : PySem.W.Frag) : List V → Hp → VK → Prop := fun vs H Q => ∃ (p : Addr) (zs : List Int), vs = [V.ref p] ∧ SqT K H p (zs.map V.int) ∧ Q (.int zs.sum) H
theorem cr_sumT (hc : X.calm = true) : CallR X (.builtin "sum") (rSumT X.K) := by
  intro pins s σ H vs us Q I r h
  obtain ⟨p, zs, rfl, hs, q⟩ := h
  obtain ⟨its, rv, hl, _⟩ := I.tuple hs
  rw [Vals.ref1 r]
  have hi := rv.ints
  obtain ⟨xs, e⟩ := hi.allInts.items
  have hn : numsOf (intItems xs).toList = zs := by rw [← e]; exact hi.numsOf
  rw [nums_intItems] at hn
  rw [e] at hl
  refine PySem.W.ktm_sumG (I.ok.hd hc) hl fun h' tk t' hk => ⟨.int _, H, I.kept hk, ⟨_, rfl⟩, ?_⟩
  rw [preSum_eq, List.take_of_length_le (by simp), hn]
  exact q
end
section
variable {X : Cx}
theorem tupArg {K : PySem.W.Frag} {H : Hp} {l : List Dt} {xs : List V} (r : Reps K H [.tup l] xs) : ∃ a ys, xs = [.ref a] ∧ SqT K H a ys ∧ Reps K H l ys := by
  obtain ⟨x, rfl, a, ys, rfl, h1, h2⟩ := rep1 r
  exact ⟨a, ys, rfl, h1, h2⟩
def gSumT : List Dt → Option Dt
  | [.tup l] => (intsOf l).map fun ns => .int ns.sum
  | _ => none
theorem cs_sumT (hc : X.calm = true) : CallS X (.builtin "sum") gSumT := by
  refine ⟨_, cr_sumT hc, fun ds d e H xs Q r q => ?_⟩
  unfold gSumT at e
  split at e
  · rename_i l
    obtain ⟨ns, e1, rfl⟩ := Option.map_eq_some_iff.mp e
    obtain ⟨a, ys, rfl, h1, h2⟩ := tupArg r
    rw [intsOf_eq e1] at h2
    rw [Reps.ints h2] at h1
    exact ⟨a, ns, rfl, h1, q _ fun _ => rfl⟩
  · cases e
def gSum2 (l : List Dt) : Option Dt := (gSum l).or (gSumT l)
theorem cs_sum2 (hc : X.calm = true) : CallS X (.builtin "sum") gSum2 := (cs_sum hc).or (cs_sumT hc)
end
theorem gSum2_tup {l : List Dt} {ns : List Int} (e : intsOf l = some ns) : gSum2 [.tup l] = some (.int ns.sum) := by
  show (none : Option Dt).or ((intsOf l).map fun ns => .int ns.sum) = _
  rw [e]
  rfl
end Pd



namespace Tc
open PySem PySem.Spec PyProof.Rows L2 Pd
def r__law_pot : M Out :=
 (Pd.mSeq (Pd.mSet 2 (Pd.mOp Pd.gAdd (Pd.mOp Pd.gMul (Pd.ret (.int 1231)) (Pd.mVar 1)) (Pd.ret (.int 1031))))
 (Pd.mSeq (Pd.mIf (Pd.mBool (Pd.mOp Pd.gLt (Pd.mVar 1) (Pd.mB Pd.gLen (Pd.mCons (Pd.mVar 0) Pd.mNil))))
  (Pd.mSet 2 (Pd.mB Pd.gAbs (Pd.mCons (Pd.mOp Pd.gIx (Pd.mVar 0) (Pd.mVar 1)) Pd.mNil)))
  Pd.mNext)
 (Pd.mRetO (Pd.mCons (Pd.mB Pd.gMax (Pd.mCons (Pd.ret (.int 0)) (Pd.mCons (Pd.mOp Pd.gSub (Pd.mVar 2) (Pd.mOp Pd.gPow (Pd.ret (.int 10)) (Pd.ret (.int 18)))) Pd.mNil))) (Pd.mCons (Pd.mOp Pd.gAdd (Pd.mOp Pd.gMod (Pd.mB Pd.gInt (Pd.mCons (Pd.mOp Pd.gAdd (Pd.mOp Pd.gAdd (Pd.mOp Pd.gMul (Pd.mOp Pd.gMod (Pd.mB Pd.gInt (Pd.mCons (Pd.mVar 2) Pd.mNil)) (Pd.ret (.int 2147483549))) (Pd.ret (.int 48271))) (Pd.mOp Pd.gMul (Pd.ret (.int 6317)) (Pd.mVar 1))) (Pd.ret (.int 1061))) Pd.mNil)) (Pd.ret (.int 2147483563))) (Pd.ret (.int 1))) Pd.mNil)))))
def m__law_pot : Mir := Pd.mFn 3 r__law_pot
def r_is_list : M Out :=
 (Pd.mRet (Pd.mIsi2 "list" "tuple" (Pd.mVar 0)))
def m_is_list : Mir := Pd.mFn 1 r_is_list
def r_is_integer : M Out :=
 (Pd.mRet (Pd.mAndV (Pd.mIsi "int" (Pd.mVar 0)) (Pd.mNotV (Pd.mIsi "bool" (Pd.mVar 0)))))
def m_is_integer : Mir := Pd.mFn 1 r_is_integer
def r_is_count : M Out :=
 (Pd.mRet (Pd.mAndV (Pd.mCallD m_is_integer [] [0] (Pd.mECons (Pd.mVar 0) Pd.mENil) Pd.mENil) (Pd.mOp Pd.gGe (Pd.mVar 0) (Pd.ret (.int 0)))))
def m_is_count : Mir := Pd.mFn 1 r_is_count
def r_is_ratio : M Out :=
 (Pd.mSeq (Pd.mIf (Pd.mOr (Pd.mNot (Pd.mBool (Pd.mIsi "tuple" (Pd.mVar 0)))) (Pd.mOr (Pd.mBool (Pd.mOp Pd.gNe (Pd.mB Pd.gLen (Pd.mCons (Pd.mVar 0) Pd.mNil)) (Pd.ret (.int 2)))) (Pd.mOr (Pd.mNot (Pd.mBool (Pd.mCallD m_is_integer [] [0] (Pd.mECons (Pd.mOp Pd.gIx (Pd.mVar 0) (Pd.ret (.int 0))) Pd.mENil) Pd.mENil))) (Pd.mNot (Pd.mBool (Pd.mCallD m_is_integer [] [0] (Pd.mECons (Pd.mOp Pd.gIx (Pd.mVar 0) (Pd.ret (.int 1))) Pd.mENil) Pd.mENil))))))
  (Pd.mRet (Pd.ret (.bl false)))
  Pd.mNext)
 (Pd.mRet (Pd.mAndV (Pd.mOp Pd.gGe (Pd.mOp Pd.gIx (Pd.mVar 0) (Pd.ret (.int 1))) (Pd.ret (.int 1))) (Pd.mOp Pd.gEq (Pd.mB Pd.gGcd (Pd.mCons (Pd.mOp Pd.gIx (Pd.mVar 0) (Pd.ret (.int 0))) (Pd.mCons (Pd.mOp Pd.gIx (Pd.mVar 0) (Pd.ret (.int 1))) Pd.mNil))) (Pd.ret (.int 1))))))
def m_is_ratio : Mir := Pd.mFn 1 r_is_ratio
def r_is_term : M Out :=
 (Pd.mSeq (Pd.mIf (Pd.mOr (Pd.mNot (Pd.mBool (Pd.mIsi "tuple" (Pd.mVar 1)))) (Pd.mOr (Pd.mBool (Pd.mOp Pd.gNe (Pd.mB Pd.gLen (Pd.mCons (Pd.mVar 1) Pd.mNil)) (Pd.ret (.int 2)))) (Pd.mNot (Pd.mBool (Pd.mCallD m_is_ratio [] [0] (Pd.mECons (Pd.mOp Pd.gIx (Pd.mVar 1) (Pd.ret (.int 1))) Pd.mENil) Pd.mENil)))))
  (Pd.mRet (Pd.ret (.bl false)))
  Pd.mNext)
 (Pd.mSeq (Pd.mIf (Pd.mOr (Pd.mNot (Pd.mBool (Pd.mIsi "tuple" (Pd.mOp Pd.gIx (Pd.mVar 1) (Pd.ret (.int 0)))))) (Pd.mOr (Pd.mBool (Pd.mOp Pd.gNe (Pd.mB Pd.gLen (Pd.mCons (Pd.mOp Pd.gIx (Pd.mVar 1) (Pd.ret (.int 0))) Pd.mNil)) (Pd.mVar 0))) (Pd.mNot (Pd.mBool (Pd.mB Pd.gAll (Pd.mCons (Pd.mLst (Pd.mComp (.n 2) [2] (Pd.mSeqI (Pd.mOp Pd.gIx (Pd.mVar 1) (Pd.ret (.int 0)))) Pd.tt1 (Pd.mCallD m_is_count [] [0] (Pd.mECons (Pd.mVar 2) Pd.mENil) Pd.mENil))) Pd.mNil))))))
  (Pd.mRet (Pd.ret (.bl false)))
  Pd.mNext)
 (Pd.mRet (Pd.mOp Pd.gLe (Pd.mB Pd.gSum2 (Pd.mCons (Pd.mOp Pd.gIx (Pd.mVar 1) (Pd.ret (.int 0))) Pd.mNil)) (Pd.ret (.int (8)))))))
def m_is_term : Mir := Pd.mFn 3 r_is_term
def r_want_many : M Out :=
 (Pd.mIf (Pd.mOr (Pd.mNot (Pd.mBool (Pd.mCallD m_is_count [] [0] (Pd.mECons (Pd.mVar 0) Pd.mENil) Pd.mENil))) (Pd.mOr (Pd.mBool (Pd.mOp Pd.gLt (Pd.mVar 0) (Pd.mVar 2))) (Pd.mAnd (Pd.mBool (Pd.mOp Pd.gIsNot2 (Pd.mVar 1) (Pd.ret .non))) (Pd.mBool (Pd.mOp Pd.gGt (Pd.mVar 0) (Pd.mVar 1))))))
  (fun _ _ => .bad)
  Pd.mNext)
def m_want_many : Mir := Pd.mFn 3 r_want_many
def r_want_letters_many : M Out :=
 (Pd.mExpr (Pd.mCallD m_want_many [.dat (.non), .dat (.int (0))] [0, 1, 2] (Pd.mECons (Pd.mVar 0) (Pd.mECons (Pd.ret (.int (8))) (Pd.mECons (Pd.ret (.int 1)) Pd.mENil))) Pd.mENil))
def m_want_letters_many : Mir := Pd.mFn 1 r_want_letters_many
def r_told_poly : M Out :=
 (Pd.mRet (Pd.mTupOf (Pd.mCons (Pd.mLst (Pd.mComp (.n 1) [1] (Pd.mSeqI (Pd.mLst (Pd.mSortedT (Pd.mCons (Pd.mLst (Pd.mListOfQ (Pd.mCons (Pd.mVar 0) Pd.mNil))) Pd.mNil)))) (Pd.mBool (Pd.mOp Pd.gNe (Pd.mOp Pd.gIxQ (Pd.mVar 0) (Pd.mVar 1)) (Pd.ret (.tup [.int (0), .int (1)])))) (Pd.mTup (Pd.mCons (Pd.mVar 1) (Pd.mCons (Pd.mOp Pd.gIxQ (Pd.mVar 0) (Pd.mVar 1)) Pd.mNil))))) Pd.mNil)))
def m_told_poly : Mir := Pd.mFn 2 r_told_poly
def r_made_ratio : M Out :=
 (Pd.mSeq (Pd.mSet 2 (Pd.mB Pd.gGcd (Pd.mCons (Pd.mVar 0) (Pd.mCons (Pd.mVar 1) Pd.mNil))))
 (Pd.mSeq (Pd.mIf (Pd.mBool (Pd.mOp Pd.gLt (Pd.mVar 1) (Pd.ret (.int 0))))
  (Pd.mSet 2 (Pd.mOp Pd.gSub (Pd.ret (.int 0)) (Pd.mVar 2)))
  Pd.mNext)
 (Pd.mRet (Pd.mTup (Pd.mCons (Pd.mOp Pd.gDiv (Pd.mVar 0) (Pd.mVar 2)) (Pd.mCons (Pd.mOp Pd.gDiv (Pd.mVar 1) (Pd.mVar 2)) Pd.mNil))))))
def m_made_ratio : Mir := Pd.mFn 3 r_made_ratio
def r_add_ratios : M Out :=
 (Pd.mRet (Pd.mCallD m_made_ratio [] [0, 1] (Pd.mECons (Pd.mOp Pd.gAdd (Pd.mOp Pd.gMul (Pd.mOp Pd.gIx (Pd.mVar 0) (Pd.ret (.int 0))) (Pd.mOp Pd.gIx (Pd.mVar 1) (Pd.ret (.int 1)))) (Pd.mOp Pd.gMul (Pd.mOp Pd.gIx (Pd.mVar 1) (Pd.ret (.int 0))) (Pd.mOp Pd.gIx (Pd.mVar 0) (Pd.ret (.int 1))))) (Pd.mECons (Pd.mOp Pd.gMul (Pd.mOp Pd.gIx (Pd.mVar 0) (Pd.ret (.int 1))) (Pd.mOp Pd.gIx (Pd.mVar 1) (Pd.ret (.int 1)))) Pd.mENil)) Pd.mENil))
def m_add_ratios : Mir := Pd.mFn 2 r_add_ratios
def r_put_more : M Out :=
 (Pd.mPutQ 0 (Pd.mVar 1) (Pd.mCallD m_add_ratios [] [0, 1] (Pd.mECons (Pd.mGetW 0 (Pd.mVar 1) (Pd.ret (.tup [.int (0), .int (1)]))) (Pd.mECons (Pd.mVar 2) Pd.mENil)) Pd.mENil))
def m_put_more : Pd.MirW := Pd.mFnW 3 r_put_more
def r_want_at_most : M Out :=
 (Pd.mIf (Pd.mBool (Pd.mOp Pd.gGt (Pd.mVar 2) (Pd.mVar 1)))
  (fun _ _ => .bad)
  Pd.mNext)
def m_want_at_most : Mir := Pd.mFn 3 r_want_at_most
def r_degree_of : M Out :=
 (Pd.mRet (Pd.mB Pd.gMax (Pd.mCons (Pd.mOp Pd.gAdd3 (Pd.mLst (Pd.mComp (.t [1, 2]) [1, 2] (Pd.mSeqI (Pd.mVar 0)) Pd.tt1 (Pd.mB Pd.gSum2 (Pd.mCons (Pd.mVar 1) Pd.mNil)))) (Pd.mLst (Pd.mCons (Pd.ret (.int 0)) Pd.mNil))) Pd.mNil)))
def m_degree_of : Mir := Pd.mFn 3 r_degree_of
def r_want_few : M Out :=
 (Pd.mSeq (Pd.mExpr (Pd.mCallD m_want_at_most [] [0, 1, 2] (Pd.mECons (Pd.ret (.str "degree")) (Pd.mECons (Pd.ret (.int (8))) (Pd.mECons (Pd.mCallD m_degree_of [] [0] (Pd.mECons (Pd.mVar 0) Pd.mENil) Pd.mENil) Pd.mENil))) Pd.mENil))
 (Pd.mSeq (Pd.mExpr (Pd.mCallD m_want_at_most [] [0, 1, 2] (Pd.mECons (Pd.ret (.str "terms")) (Pd.mECons (Pd.ret (.int (60))) (Pd.mECons (Pd.mB Pd.gLen (Pd.mCons (Pd.mVar 0) Pd.mNil)) Pd.mENil))) Pd.mENil))
 (Pd.mRet (Pd.mVar 0))))
def m_want_few : Mir := Pd.mFn 1 r_want_few
def r_poly_of : M Out :=
 (Pd.mSeq (Pd.mExpr (Pd.mCallD m_want_letters_many [] [0] (Pd.mECons (Pd.mVar 0) Pd.mENil) Pd.mENil))
 (Pd.mSeq (Pd.mIf (Pd.mOr (Pd.mNot (Pd.mBool (Pd.mCallD m_is_list [] [0] (Pd.mECons (Pd.mVar 1) Pd.mENil) Pd.mENil))) (Pd.mOr (Pd.mBool (Pd.mOp Pd.gGt (Pd.mB Pd.gLen (Pd.mCons (Pd.mVar 1) Pd.mNil)) (Pd.ret (.int (200))))) (Pd.mNot (Pd.mBool (Pd.mB Pd.gAll (Pd.mCons (Pd.mLst (Pd.mComp (.n 2) [2] (Pd.mSeqI (Pd.mVar 1)) Pd.tt1 (Pd.mCallD m_is_term [] [0, 1] (Pd.mECons (Pd.mVar 0) (Pd.mECons (Pd.mVar 2) Pd.mENil)) Pd.mENil))) Pd.mNil))))))
  (fun _ _ => .bad)
  Pd.mNext)
 (Pd.mSeq (Pd.mSetQ 3 (Pd.ret ([], [])))
 (Pd.mSeq (Pd.mFor (.t [4, 5]) (Pd.mSeqI (Pd.mVar 1))
  (Pd.mCallW m_put_more 3 (Pd.mECons (Pd.mVar 4) (Pd.mECons (Pd.mVar 5) Pd.mENil))))
 (Pd.mFrzQ 3 (Pd.mRet (Pd.mCallD m_want_few [] [0] (Pd.mECons (Pd.mCallD m_told_poly [] [0] (Pd.mECons (Pd.mVar 3) Pd.mENil) Pd.mENil) Pd.mENil) Pd.mENil)))))))
def m_poly_of : Mir := Pd.mFn 6 r_poly_of
def r_letters_of : M Out :=
 (Pd.mRet (Pd.mIte (Pd.mBool (Pd.mOp Pd.gNe (Pd.mVar 0) (Pd.mTup Pd.mNil))) (Pd.mB Pd.gLen (Pd.mCons (Pd.mOp Pd.gIx (Pd.mOp Pd.gIx (Pd.mVar 0) (Pd.ret (.int 0))) (Pd.ret (.int 0))) Pd.mNil)) (Pd.ret .non)))
def m_letters_of : Mir := Pd.mFn 1 r_letters_of
def r_is_poly_in : M Out :=
 (Pd.mSeq (Pd.mIf (Pd.mOr (Pd.mNot (Pd.mBool (Pd.mIsi "tuple" (Pd.mVar 1)))) (Pd.mOr (Pd.mBool (Pd.mOp Pd.gGt (Pd.mB Pd.gLen (Pd.mCons (Pd.mVar 1) Pd.mNil)) (Pd.ret (.int (60))))) (Pd.mNot (Pd.mBool (Pd.mB Pd.gAll (Pd.mCons (Pd.mLst (Pd.mComp (.n 2) [2] (Pd.mSeqI (Pd.mVar 1)) Pd.tt1 (Pd.mCallD m_is_term [] [0, 1] (Pd.mECons (Pd.mVar 0) (Pd.mECons (Pd.mVar 2) Pd.mENil)) Pd.mENil))) Pd.mNil))))))
  (Pd.mRet (Pd.ret (.bl false)))
  Pd.mNext)
 (Pd.mSeq (Pd.mIf (Pd.mBool (Pd.mB Pd.gAny (Pd.mCons (Pd.mLst (Pd.mComp (.t [3, 4]) [3, 4] (Pd.mSeqI (Pd.mVar 1)) Pd.tt1 (Pd.mOp Pd.gEq (Pd.mVar 4) (Pd.ret (.tup [.int (0), .int (1)]))))) Pd.mNil)))
  (Pd.mRet (Pd.ret (.bl false)))
  Pd.mNext)
 (Pd.mRet (Pd.mB Pd.gAll (Pd.mCons (Pd.mLst (Pd.mComp (.t [2, 5]) [2, 5] (Pd.mZip (Pd.mCons (Pd.mVar 1) (Pd.mCons (Pd.mSl (Pd.mVar 1) (Pd.mPt (Pd.ret (.int 1))) Pd.mNoP) Pd.mNil))) Pd.tt1 (Pd.mOp Pd.gLt2 (Pd.mOp Pd.gIx (Pd.mVar 2) (Pd.ret (.int 0))) (Pd.mOp Pd.gIx (Pd.mVar 5) (Pd.ret (.int 0)))))) Pd.mNil)))))
def m_is_poly_in : Mir := Pd.mFn 6 r_is_poly_in
def r_is_any_poly : M Out :=
 (Pd.mSeq (Pd.mIf (Pd.mOr (Pd.mNot (Pd.mBool (Pd.mIsi "tuple" (Pd.mVar 0)))) (Pd.mBool (Pd.mOp Pd.gEq (Pd.mVar 0) (Pd.mTup Pd.mNil))))
  (Pd.mRet (Pd.mAndV (Pd.mOp Pd.gEq (Pd.mVar 0) (Pd.mTup Pd.mNil)) (Pd.mIsi "tuple" (Pd.mVar 0))))
  Pd.mNext)
 (Pd.mSeq (Pd.mSet 1 (Pd.mOp Pd.gIx (Pd.mVar 0) (Pd.ret (.int 0))))
 (Pd.mSeq (Pd.mIf (Pd.mOr (Pd.mNot (Pd.mBool (Pd.mIsi "tuple" (Pd.mVar 1)))) (Pd.mOr (Pd.mBool (Pd.mOp Pd.gNe (Pd.mB Pd.gLen (Pd.mCons (Pd.mVar 1) Pd.mNil)) (Pd.ret (.int 2)))) (Pd.mNot (Pd.mBool (Pd.mIsi "tuple" (Pd.mOp Pd.gIx (Pd.mVar 1) (Pd.ret (.int 0))))))))
  (Pd.mRet (Pd.ret (.bl false)))
  Pd.mNext)
 (Pd.mRet (Pd.mAndV (Pd.mChn (Pd.ret (.int 1)) (Pd.cLink Pd.gLe (Pd.mB Pd.gLen (Pd.mCons (Pd.mOp Pd.gIx (Pd.mVar 1) (Pd.ret (.int 0))) Pd.mNil)) (Pd.cLast Pd.gLe (Pd.ret (.int (8)))))) (Pd.mCallD m_is_poly_in [] [0, 1] (Pd.mECons (Pd.mB Pd.gLen (Pd.mCons (Pd.mOp Pd.gIx (Pd.mVar 1) (Pd.ret (.int 0))) Pd.mNil)) (Pd.mECons (Pd.mVar 0) Pd.mENil)) Pd.mENil))))))
def m_is_any_poly : Mir := Pd.mFn 2 r_is_any_poly
def r_want_poly : M Out :=
 (Pd.mIf (Pd.mNot (Pd.mBool (Pd.mCallD m_is_any_poly [] [0] (Pd.mECons (Pd.mVar 0) Pd.mENil) Pd.mENil)))
  (fun _ _ => .bad)
  Pd.mNext)
def m_want_poly : Mir := Pd.mFn 1 r_want_poly
def r_is_point : M Out :=
 (Pd.mRet (Pd.mAndV (Pd.mIsi "tuple" (Pd.mVar 0)) (Pd.mAndV (Pd.mChn (Pd.ret (.int 1)) (Pd.cLink Pd.gLe (Pd.mB Pd.gLen (Pd.mCons (Pd.mVar 0) Pd.mNil)) (Pd.cLast Pd.gLe (Pd.ret (.int (8)))))) (Pd.mB Pd.gAll (Pd.mCons (Pd.mLst (Pd.mComp (.n 1) [1] (Pd.mSeqI (Pd.mVar 0)) Pd.tt1 (Pd.mCallD m_is_ratio [] [0] (Pd.mECons (Pd.mVar 1) Pd.mENil) Pd.mENil))) Pd.mNil)))))
def m_is_point : Mir := Pd.mFn 2 r_is_point
def r_want_point_for : M Out :=
 (Pd.mIf (Pd.mOr (Pd.mNot (Pd.mBool (Pd.mCallD m_is_point [] [0] (Pd.mECons (Pd.mVar 1) Pd.mENil) Pd.mENil))) (Pd.mAnd (Pd.mBool (Pd.mOp Pd.gIsNot2 (Pd.mVar 0) (Pd.ret .non))) (Pd.mBool (Pd.mOp Pd.gNe (Pd.mB Pd.gLen (Pd.mCons (Pd.mVar 1) Pd.mNil)) (Pd.mVar 0)))))
  (fun _ _ => .bad)
  Pd.mNext)
def m_want_point_for : Mir := Pd.mFn 2 r_want_point_for
def r_mul_ratios : M Out :=
 (Pd.mRet (Pd.mCallD m_made_ratio [] [0, 1] (Pd.mECons (Pd.mOp Pd.gMul (Pd.mOp Pd.gIx (Pd.mVar 0) (Pd.ret (.int 0))) (Pd.mOp Pd.gIx (Pd.mVar 1) (Pd.ret (.int 0)))) (Pd.mECons (Pd.mOp Pd.gMul (Pd.mOp Pd.gIx (Pd.mVar 0) (Pd.ret (.int 1))) (Pd.mOp Pd.gIx (Pd.mVar 1) (Pd.ret (.int 1)))) Pd.mENil)) Pd.mENil))
def m_mul_ratios : Mir := Pd.mFn 2 r_mul_ratios
def r_power_ratio : M Out :=
 (Pd.mSeq (Pd.mSet 2 (Pd.ret (.tup [.int (1), .int (1)])))
 (Pd.mSeq (Pd.mFor (.n 3) (Pd.mRng Pd.rng1 (Pd.mCons (Pd.mVar 1) Pd.mNil))
  (Pd.mSet 2 (Pd.mCallD m_mul_ratios [] [0, 1] (Pd.mECons (Pd.mVar 2) (Pd.mECons (Pd.mVar 0) Pd.mENil)) Pd.mENil)))
 (Pd.mRet (Pd.mVar 2))))
def m_power_ratio : Mir := Pd.mFn 4 r_power_ratio
def r_value_of : M Out :=
 (Pd.mSeq (Pd.mSet 2 (Pd.ret (.tup [.int (0), .int (1)])))
 (Pd.mSeq (Pd.mFor (.t [3, 4]) (Pd.mSeqI (Pd.mVar 0))
  (Pd.mSeq (Pd.mSet 5 (Pd.mVar 4))
 (Pd.mSeq (Pd.mFor (.t [6, 7]) (Pd.mZip (Pd.mCons (Pd.mVar 3) (Pd.mCons (Pd.mVar 1) Pd.mNil)))
  (Pd.mIf (Pd.mBool (Pd.mOp Pd.gGt (Pd.mVar 6) (Pd.ret (.int 0))))
  (Pd.mSet 5 (Pd.mCallD m_mul_ratios [] [0, 1] (Pd.mECons (Pd.mVar 5) (Pd.mECons (Pd.mCallD m_power_ratio [] [0, 1] (Pd.mECons (Pd.mVar 7) (Pd.mECons (Pd.mVar 6) Pd.mENil)) Pd.mENil) Pd.mENil)) Pd.mENil))
  Pd.mNext))
 (Pd.mSet 2 (Pd.mCallD m_add_ratios [] [0, 1] (Pd.mECons (Pd.mVar 2) (Pd.mECons (Pd.mVar 5) Pd.mENil)) Pd.mENil)))))
 (Pd.mRet (Pd.mVar 2))))
def m_value_of : Mir := Pd.mFn 8 r_value_of
def r_value_at : M Out :=
 (Pd.mSeq (Pd.mExpr (Pd.mCallD m_want_poly [] [0] (Pd.mECons (Pd.mVar 0) Pd.mENil) Pd.mENil))
 (Pd.mSeq (Pd.mExpr (Pd.mCallD m_want_point_for [] [0, 1] (Pd.mECons (Pd.mCallD m_letters_of [] [0] (Pd.mECons (Pd.mVar 0) Pd.mENil) Pd.mENil) (Pd.mECons (Pd.mVar 1) Pd.mENil)) Pd.mENil))
 (Pd.mRet (Pd.mCallD m_value_of [] [0, 1] (Pd.mECons (Pd.mVar 0) (Pd.mECons (Pd.mVar 1) Pd.mENil)) Pd.mENil))))
def m_value_at : Mir := Pd.mFn 2 r_value_at
def r_nested_from (recm : Mir) : M Out :=
 (Pd.mSeq (Pd.mIf (Pd.mBool (Pd.mOp Pd.gEq (Pd.mVar 1) (Pd.ret (.int 0))))
  (Pd.mRet (Pd.mIte (Pd.mBool (Pd.mOp Pd.gNe (Pd.mVar 0) (Pd.mLst Pd.mNil))) (Pd.mOp Pd.gIx (Pd.mOp Pd.gIx (Pd.mVar 0) (Pd.ret (.int 0))) (Pd.ret (.int 1))) (Pd.ret (.tup [.int (0), .int (1)]))))
  Pd.mNext)
 (Pd.mSeq (Pd.mParDO 2 3 (Pd.mB Pd.gMax (Pd.mCons (Pd.mOp Pd.gAdd3 (Pd.mLst (Pd.mCons (Pd.ret (.int 0)) Pd.mNil)) (Pd.mLst (Pd.mComp (.t [4, 5]) [4, 5] (Pd.mSeqI (Pd.mVar 0)) Pd.tt1 (Pd.mOp Pd.gIx (Pd.mVar 4) (Pd.ret (.int 0)))))) Pd.mNil)) Pd.mNil)
 (Pd.mSeq (Pd.mFor (.n 6) (Pd.mRng Pd.rng1 (Pd.mCons (Pd.mOp Pd.gAdd (Pd.mVar 2) (Pd.ret (.int 1))) Pd.mNil))
  (Pd.mSeq (Pd.mSet 7 (Pd.mLst (Pd.mComp (.t [4, 5]) [4, 5] (Pd.mSeqI (Pd.mVar 0)) (Pd.mBool (Pd.mOp Pd.gEq (Pd.mOp Pd.gIx (Pd.mVar 4) (Pd.ret (.int 0))) (Pd.mVar 6))) (Pd.mTup (Pd.mCons (Pd.mSl (Pd.mVar 4) (Pd.mPt (Pd.ret (.int 1))) Pd.mNoP) (Pd.mCons (Pd.mVar 5) Pd.mNil))))))
 (Pd.mApp 3 (Pd.mCallD recm [] [0, 1] (Pd.mECons (Pd.mVar 7) (Pd.mECons (Pd.mOp Pd.gSub (Pd.mVar 1) (Pd.ret (.int 1))) Pd.mENil)) Pd.mENil))))
 (Pd.mFrz 3 (Pd.mRet (Pd.mTupOf (Pd.mCons (Pd.mVar 3) Pd.mNil)))))))
def m_nested_from : Nat → Mir
  | 0 => fun _ _ => .bad
  | n + 1 => Pd.mFn 8 (r_nested_from (m_nested_from n))
def r_terms_from (recm : Mir) : M Out :=
 (Pd.mSeq (Pd.mIf (Pd.mBool (Pd.mOp Pd.gEq (Pd.mVar 1) (Pd.ret (.int 0))))
  (Pd.mRetO (Pd.mCons (Pd.mTup (Pd.mCons (Pd.mTup Pd.mNil) (Pd.mCons (Pd.mVar 0) Pd.mNil))) Pd.mNil))
  Pd.mNext)
 (Pd.mSeq (Pd.mSetO 2 Pd.mNil)
 (Pd.mSeq (Pd.mFor (.t [3, 4]) (Pd.mEnum2 (Pd.mCons (Pd.mVar 0) Pd.mNil))
  (Pd.mExt 2 (Pd.mComp (.t [5, 6]) [5, 6] (Pd.mSeqI (Pd.mCallD recm [] [0, 1] (Pd.mECons (Pd.mVar 4) (Pd.mECons (Pd.mOp Pd.gSub (Pd.mVar 1) (Pd.ret (.int 1))) Pd.mENil)) Pd.mENil)) Pd.tt1 (Pd.mTup (Pd.mCons (Pd.mOp Pd.gAdd3 (Pd.mTup (Pd.mCons (Pd.mVar 3) Pd.mNil)) (Pd.mVar 5)) (Pd.mCons (Pd.mVar 6) Pd.mNil))))))
 (Pd.mRetV 2))))
def m_terms_from : Nat → Mir
  | 0 => fun _ _ => .bad
  | n + 1 => Pd.mFn 7 (r_terms_from (m_terms_from n))
def r_poly_from : M Out :=
 (Pd.mRet (Pd.mCallD m_told_poly [] [0] (Pd.mECons (Pd.mDct (Pd.mDictOf (Pd.mCons (Pd.mCallD (m_terms_from 12) [] [0, 1] (Pd.mECons (Pd.mVar 0) (Pd.mECons (Pd.mVar 1) Pd.mENil)) Pd.mENil) Pd.mNil))) Pd.mENil) Pd.mENil))
def m_poly_from : Mir := Pd.mFn 2 r_poly_from
def r_has_form (recm : Mir) : M Out :=
 (Pd.mSeq (Pd.mIf (Pd.mBool (Pd.mOp Pd.gEq (Pd.mVar 1) (Pd.ret (.int 0))))
  (Pd.mRet (Pd.mCallD m_is_ratio [] [0] (Pd.mECons (Pd.mVar 0) Pd.mENil) Pd.mENil))
  Pd.mNext)
 (Pd.mSeq (Pd.mIf (Pd.mOr (Pd.mNot (Pd.mBool (Pd.mIsi "tuple" (Pd.mVar 0)))) (Pd.mNot (Pd.mBool (Pd.mChn (Pd.ret (.int 1)) (Pd.cLink Pd.gLe (Pd.mB Pd.gLen (Pd.mCons (Pd.mVar 0) Pd.mNil)) (Pd.cLast Pd.gLe (Pd.ret (.int 9))))))))
  (Pd.mRet (Pd.ret (.bl false)))
  Pd.mNext)
 (Pd.mRet (Pd.mB Pd.gAll (Pd.mCons (Pd.mLst (Pd.mComp (.n 2) [2] (Pd.mSeqI (Pd.mVar 0)) Pd.tt1 (Pd.mCallD recm [] [0, 1] (Pd.mECons (Pd.mVar 2) (Pd.mECons (Pd.mOp Pd.gSub (Pd.mVar 1) (Pd.ret (.int 1))) Pd.mENil)) Pd.mENil))) Pd.mNil)))))
def m_has_form : Nat → Mir
  | 0 => fun _ _ => .bad
  | n + 1 => Pd.mFn 3 (r_has_form (m_has_form n))
def r_is_nested_of : M Out :=
 (Pd.mSeq (Pd.mIf (Pd.mNot (Pd.mBool (Pd.mCallD (m_has_form 12) [] [0, 1] (Pd.mECons (Pd.mVar 1) (Pd.mECons (Pd.mVar 0) Pd.mENil)) Pd.mENil)))
  (Pd.mRet (Pd.ret (.bl false)))
  Pd.mNext)
 (Pd.mSeq (Pd.mSet 2 (Pd.mCallD m_poly_from [] [0, 1] (Pd.mECons (Pd.mVar 1) (Pd.mECons (Pd.mVar 0) Pd.mENil)) Pd.mENil))
 (Pd.mRet (Pd.mAndV (Pd.mCallD m_is_poly_in [] [0, 1] (Pd.mECons (Pd.mVar 0) (Pd.mECons (Pd.mVar 2) Pd.mENil)) Pd.mENil) (Pd.mOp Pd.gEq (Pd.mCallD (m_nested_from 12) [] [0, 1] (Pd.mECons (Pd.mLst (Pd.mListOf (Pd.mCons (Pd.mVar 2) Pd.mNil))) (Pd.mECons (Pd.mVar 0) Pd.mENil)) Pd.mENil) (Pd.mVar 1))))))
def m_is_nested_of : Mir := Pd.mFn 3 r_is_nested_of
def r_is_nested : M Out :=
 (Pd.mSeq (Pd.mExpr (Pd.mCallD m_want_letters_many [] [0] (Pd.mECons (Pd.mVar 0) Pd.mENil) Pd.mENil))
 (Pd.mRet (Pd.mCallD m_is_nested_of [] [0, 1] (Pd.mECons (Pd.mVar 0) (Pd.mECons (Pd.mVar 1) Pd.mENil)) Pd.mENil)))
def m_is_nested : Mir := Pd.mFn 2 r_is_nested
def r_want_poly_in : M Out :=
 (Pd.mIf (Pd.mNot (Pd.mBool (Pd.mCallD m_is_poly_in [] [0, 1] (Pd.mECons (Pd.mVar 0) (Pd.mECons (Pd.mVar 1) Pd.mENil)) Pd.mENil)))
  (fun _ _ => .bad)
  Pd.mNext)
def m_want_poly_in : Mir := Pd.mFn 2 r_want_poly_in
def r_nested_of : M Out :=
 (Pd.mSeq (Pd.mExpr (Pd.mCallD m_want_letters_many [] [0] (Pd.mECons (Pd.mVar 0) Pd.mENil) Pd.mENil))
 (Pd.mSeq (Pd.mExpr (Pd.mCallD m_want_poly_in [] [0, 1] (Pd.mECons (Pd.mVar 0) (Pd.mECons (Pd.mVar 1) Pd.mENil)) Pd.mENil))
 (Pd.mRet (Pd.mCallD (m_nested_from 12) [] [0, 1] (Pd.mECons (Pd.mLst (Pd.mListOf (Pd.mCons (Pd.mVar 1) Pd.mNil))) (Pd.mECons (Pd.mVar 0) Pd.mENil)) Pd.mENil))))
def m_nested_of : Mir := Pd.mFn 2 r_nested_of
def r_want_nested : M Out :=
 (Pd.mIf (Pd.mNot (Pd.mBool (Pd.mCallD m_is_nested_of [] [0, 1] (Pd.mECons (Pd.mVar 0) (Pd.mECons (Pd.mVar 1) Pd.mENil)) Pd.mENil)))
  (fun _ _ => .bad)
  Pd.mNext)
def m_want_nested : Mir := Pd.mFn 2 r_want_nested
def r_poly_of_nested : M Out :=
 (Pd.mSeq (Pd.mExpr (Pd.mCallD m_want_letters_many [] [0] (Pd.mECons (Pd.mVar 0) Pd.mENil) Pd.mENil))
 (Pd.mSeq (Pd.mExpr (Pd.mCallD m_want_nested [] [0, 1] (Pd.mECons (Pd.mVar 0) (Pd.mECons (Pd.mVar 1) Pd.mENil)) Pd.mENil))
 (Pd.mRet (Pd.mCallD m_poly_from [] [0, 1] (Pd.mECons (Pd.mVar 1) (Pd.mECons (Pd.mVar 0) Pd.mENil)) Pd.mENil))))
def m_poly_of_nested : Mir := Pd.mFn 2 r_poly_of_nested
def r_value_from (recm : Mir) : M Out :=
 (Pd.mSeq (Pd.mIf (Pd.mBool (Pd.mOp Pd.gEq (Pd.mVar 1) (Pd.mTup Pd.mNil)))
  (Pd.mRet (Pd.mVar 0))
  Pd.mNext)
 (Pd.mSeq (Pd.mSet 2 (Pd.ret (.tup [.int (0), .int (1)])))
 (Pd.mSeq (Pd.mFor (.n 3) (Pd.mSeqI (Pd.mRevTu (Pd.mVar 0)))
  (Pd.mSet 2 (Pd.mCallD m_add_ratios [] [0, 1] (Pd.mECons (Pd.mCallD m_mul_ratios [] [0, 1] (Pd.mECons (Pd.mVar 2) (Pd.mECons (Pd.mOp Pd.gIx (Pd.mVar 1) (Pd.ret (.int 0))) Pd.mENil)) Pd.mENil) (Pd.mECons (Pd.mCallD recm [] [0, 1] (Pd.mECons (Pd.mVar 3) (Pd.mECons (Pd.mSl (Pd.mVar 1) (Pd.mPt (Pd.ret (.int 1))) Pd.mNoP) Pd.mENil)) Pd.mENil) Pd.mENil)) Pd.mENil)))
 (Pd.mRet (Pd.mVar 2)))))
def m_value_from : Nat → Mir
  | 0 => fun _ _ => .bad
  | n + 1 => Pd.mFn 4 (r_value_from (m_value_from n))
def r_value_of_nested : M Out :=
 (Pd.mSeq (Pd.mExpr (Pd.mCallD m_want_letters_many [] [0] (Pd.mECons (Pd.mVar 0) Pd.mENil) Pd.mENil))
 (Pd.mSeq (Pd.mExpr (Pd.mCallD m_want_nested [] [0, 1] (Pd.mECons (Pd.mVar 0) (Pd.mECons (Pd.mVar 1) Pd.mENil)) Pd.mENil))
 (Pd.mSeq (Pd.mExpr (Pd.mCallD m_want_point_for [] [0, 1] (Pd.mECons (Pd.mVar 0) (Pd.mECons (Pd.mVar 2) Pd.mENil)) Pd.mENil))
 (Pd.mRet (Pd.mCallD (m_value_from 12) [] [0, 1] (Pd.mECons (Pd.mVar 1) (Pd.mECons (Pd.mVar 2) Pd.mENil)) Pd.mENil)))))
def m_value_of_nested : Mir := Pd.mFn 3 r_value_of_nested
def r__law_draw : M Out :=
 (Pd.mSeq (Pd.mIf (Pd.mBool (Pd.mOp Pd.gGt (Pd.mPotI 0 0) (Pd.ret (.int 0))))
  (Pd.mSeq (Pd.mPotD 0 2 (Pd.mVar 1))
 (Pd.mRet (Pd.mVar 2)))
  Pd.mNext)
 (Pd.mSeq (Pd.mPotS 0 (Pd.mOp Pd.gMod (Pd.mB Pd.gInt (Pd.mCons (Pd.mOp Pd.gAdd (Pd.mOp Pd.gMul (Pd.mPotI 0 1) (Pd.ret (.int 39373))) (Pd.ret (.int 1061))) Pd.mNil)) (Pd.ret (.int 2147483587))))
 (Pd.mRet (Pd.mOp Pd.gMod (Pd.mB Pd.gInt (Pd.mCons (Pd.mOp Pd.gDiv (Pd.mOp Pd.gMod (Pd.mB Pd.gInt (Pd.mCons (Pd.mOp Pd.gMul (Pd.mPotI 0 1) (Pd.mPotI 0 1)) Pd.mNil)) (Pd.ret (.int 2147483563))) (Pd.ret (.int 17))) Pd.mNil)) (Pd.mVar 1)))))
def m__law_draw : Mir := Pd.mFn 3 r__law_draw
def r__law_pick : M Out :=
 (Pd.mRet (Pd.mOp Pd.gIx (Pd.mVar 1) (Pd.mCallD m__law_draw [] [0, 1] (Pd.mEPot 0 (Pd.mECons (Pd.mB Pd.gLen (Pd.mCons (Pd.mVar 1) Pd.mNil)) Pd.mENil)) Pd.mENil)))
def m__law_pick : Mir := Pd.mFn 2 r__law_pick
def r__law_told : M Out :=
 (Pd.mRet (Pd.mTupOf (Pd.mCons (Pd.mLst (Pd.mComp (.n 1) [1] (Pd.mSeqI (Pd.mLst (Pd.mSortedT (Pd.mCons (Pd.mLst (Pd.mListOfQ (Pd.mCons (Pd.mVar 0) Pd.mNil))) Pd.mNil)))) (Pd.mBool (Pd.mOp Pd.gNe (Pd.mOp Pd.gIx (Pd.mOp Pd.gIxQ (Pd.mVar 0) (Pd.mVar 1)) (Pd.ret (.int 0))) (Pd.ret (.int 0)))) (Pd.mTup (Pd.mCons (Pd.mVar 1) (Pd.mCons (Pd.mOp Pd.gIxQ (Pd.mVar 0) (Pd.mVar 1)) Pd.mNil))))) Pd.mNil)))
def m__law_told : Mir := Pd.mFn 2 r__law_told
def r__law_low : M Out :=
 (Pd.mSeq (Pd.mPar [2, 3] (Pd.mCons (Pd.mB Pd.gAbs (Pd.mCons (Pd.mVar 0) Pd.mNil)) (Pd.mCons (Pd.mB Pd.gAbs (Pd.mCons (Pd.mVar 1) Pd.mNil)) Pd.mNil)))
 (Pd.mSeq (Pd.whileGo (Pd.mBool (Pd.mOp Pd.gNe (Pd.mVar 3) (Pd.ret (.int 0))))
  (Pd.mPar [2, 3] (Pd.mCons (Pd.mVar 3) (Pd.mCons (Pd.mOp Pd.gMod (Pd.mVar 2) (Pd.mVar 3)) Pd.mNil))) 1000000000000000000000000000000000000000000000000000000000000000000000000000000000000000000000000000000000000000000000000000000000000000000000000000000000000000000000000000000000000000000000000000000000000000000000000000000000000000000000000000000000000000000000000000000000000000000000000000000000000000000000000000000000000000000000000000000000000000000000000000000000000000000000000000000000000000000000000000000000000000000000000000000000000000000000000000000000000000000000000000000000000000000000000000000000000000000000000000000000000000000000000000000000000000000000000000000000000000000000000000000000000000000000000000000000000000000000000000000000000000000000000000000000000000000000000000000000000000000000000000000000000000000000000000000000000000000000000000000000000000000000000000000000000000000000000000000000000000000000000000000000000000000000000000000000000000000000000000000000000)
 (Pd.mSeq (Pd.mIf (Pd.mBool (Pd.mOp Pd.gEq (Pd.mVar 2) (Pd.ret (.int 0))))
  (Pd.mRet (Pd.mTup (Pd.mCons (Pd.ret (.int 0)) (Pd.mCons (Pd.ret (.int 1)) Pd.mNil))))
  Pd.mNext)
 (Pd.mRet (Pd.mIte (Pd.mBool (Pd.mOp Pd.gGt (Pd.mVar 1) (Pd.ret (.int 0)))) (Pd.mTup (Pd.mCons (Pd.mOp Pd.gDiv (Pd.mVar 0) (Pd.mVar 2)) (Pd.mCons (Pd.mOp Pd.gDiv (Pd.mVar 1) (Pd.mVar 2)) Pd.mNil))) (Pd.mTup (Pd.mCons (Pd.mOp Pd.gDiv (Pd.mNeg (Pd.mVar 0)) (Pd.mVar 2)) (Pd.mCons (Pd.mOp Pd.gDiv (Pd.mNeg (Pd.mVar 1)) (Pd.mVar 2)) Pd.mNil))))))))
def m__law_low : Mir := Pd.mFn 4 r__law_low
def r__law_add : M Out :=
 (Pd.mRet (Pd.mCallD m__law_low [] [0, 1] (Pd.mECons (Pd.mOp Pd.gAdd (Pd.mOp Pd.gMul (Pd.mOp Pd.gIx (Pd.mVar 0) (Pd.ret (.int 0))) (Pd.mOp Pd.gIx (Pd.mVar 1) (Pd.ret (.int 1)))) (Pd.mOp Pd.gMul (Pd.mOp Pd.gIx (Pd.mVar 1) (Pd.ret (.int 0))) (Pd.mOp Pd.gIx (Pd.mVar 0) (Pd.ret (.int 1))))) (Pd.mECons (Pd.mOp Pd.gMul (Pd.mOp Pd.gIx (Pd.mVar 0) (Pd.ret (.int 1))) (Pd.mOp Pd.gIx (Pd.mVar 1) (Pd.ret (.int 1)))) Pd.mENil)) Pd.mENil))
def m__law_add : Mir := Pd.mFn 2 r__law_add
def r__law_mul : M Out :=
 (Pd.mRet (Pd.mCallD m__law_low [] [0, 1] (Pd.mECons (Pd.mOp Pd.gMul (Pd.mOp Pd.gIx (Pd.mVar 0) (Pd.ret (.int 0))) (Pd.mOp Pd.gIx (Pd.mVar 1) (Pd.ret (.int 0)))) (Pd.mECons (Pd.mOp Pd.gMul (Pd.mOp Pd.gIx (Pd.mVar 0) (Pd.ret (.int 1))) (Pd.mOp Pd.gIx (Pd.mVar 1) (Pd.ret (.int 1)))) Pd.mENil)) Pd.mENil))
def m__law_mul : Mir := Pd.mFn 2 r__law_mul
def r__law_value : M Out :=
 (Pd.mSeq (Pd.mSet 2 (Pd.mTup (Pd.mCons (Pd.ret (.int 0)) (Pd.mCons (Pd.ret (.int 1)) Pd.mNil))))
 (Pd.mSeq (Pd.mFor (.n 3) (Pd.mSeqQ (Pd.mVar 0))
  (Pd.mSeq (Pd.mSet 4 (Pd.mOp Pd.gIxQ (Pd.mVar 0) (Pd.mVar 3)))
 (Pd.mSeq (Pd.mFor (.t [5, 6]) (Pd.mZip (Pd.mCons (Pd.mVar 3) (Pd.mCons (Pd.mVar 1) Pd.mNil)))
  (Pd.mFor (.n 7) (Pd.mRng Pd.rng1 (Pd.mCons (Pd.mVar 5) Pd.mNil))
  (Pd.mSet 4 (Pd.mCallD m__law_mul [] [0, 1] (Pd.mECons (Pd.mVar 4) (Pd.mECons (Pd.mVar 6) Pd.mENil)) Pd.mENil))))
 (Pd.mSet 2 (Pd.mCallD m__law_add [] [0, 1] (Pd.mECons (Pd.mVar 2) (Pd.mECons (Pd.mVar 4) Pd.mENil)) Pd.mENil)))))
 (Pd.mRet (Pd.mVar 2))))
def m__law_value : Mir := Pd.mFn 8 r__law_value
def r__law_ratio : M Out :=
 (Pd.mRet (Pd.mCallD m__law_low [] [0, 1] (Pd.mECons (Pd.mCallD m__law_pick [] [0, 1] (Pd.mEPot 0 (Pd.mECons (Pd.mLst (Pd.mCons (Pd.ret (.int 0)) (Pd.mCons (Pd.ret (.int 1)) (Pd.mCons (Pd.mNeg (Pd.ret (.int 1))) (Pd.mCons (Pd.ret (.int 2)) (Pd.mCons (Pd.ret (.int 3)) (Pd.mCons (Pd.mNeg (Pd.ret (.int 5))) (Pd.mCons (Pd.ret (.int 7)) Pd.mNil)))))))) Pd.mENil)) Pd.mENil) (Pd.mECons (Pd.mCallD m__law_pick [] [0, 1] (Pd.mEPot 0 (Pd.mECons (Pd.mLst (Pd.mCons (Pd.ret (.int 1)) (Pd.mCons (Pd.ret (.int 1)) (Pd.mCons (Pd.ret (.int 2)) (Pd.mCons (Pd.ret (.int 3)) (Pd.mCons (Pd.ret (.int 4)) Pd.mNil)))))) Pd.mENil)) Pd.mENil) Pd.mENil)) Pd.mENil))
def m__law_ratio : Mir := Pd.mFn 1 r__law_ratio
def r__law_terms : M Out :=
 (Pd.mSeq (Pd.mSetO 4 Pd.mNil)
 (Pd.mSeq (Pd.mFor (.n 5) (Pd.mRng Pd.rng1 (Pd.mCons (Pd.mCallD m__law_draw [] [0, 1] (Pd.mEPot 0 (Pd.mECons (Pd.mOp Pd.gAdd (Pd.mVar 2) (Pd.ret (.int 1))) Pd.mENil)) Pd.mENil) Pd.mNil))
  (Pd.mSeq (Pd.mSetO 6 Pd.mNil)
 (Pd.mSeq (Pd.mFor (.n 7) (Pd.mRng Pd.rng1 (Pd.mCons (Pd.mVar 1) Pd.mNil))
  (Pd.mApp 6 (Pd.mCallD m__law_draw [] [0, 1] (Pd.mEPot 0 (Pd.mECons (Pd.mOp Pd.gAdd (Pd.mVar 3) (Pd.ret (.int 1))) Pd.mENil)) Pd.mENil)))
 (Pd.mFrz 6 (Pd.mApp 4 (Pd.mTup (Pd.mCons (Pd.mTupOf (Pd.mCons (Pd.mVar 6) Pd.mNil)) (Pd.mCons (Pd.mCallD m__law_ratio [] [0] (Pd.mEPot 0 Pd.mENil) Pd.mENil) Pd.mNil))))))))
 (Pd.mRetV 4)))
def m__law_terms : Mir := Pd.mFn 8 r__law_terms
def r__law_sums : M Out :=
 (Pd.mSeq (Pd.mSetQ 1 (Pd.ret ([], [])))
 (Pd.mSeq (Pd.mFor (.t [2, 3]) (Pd.mSeqI (Pd.mVar 0))
  (Pd.mPutQ 1 (Pd.mVar 2) (Pd.mCallD m__law_add [] [0, 1] (Pd.mECons (Pd.mGetW 1 (Pd.mVar 2) (Pd.mTup (Pd.mCons (Pd.ret (.int 0)) (Pd.mCons (Pd.ret (.int 1)) Pd.mNil)))) (Pd.mECons (Pd.mVar 3) Pd.mENil)) Pd.mENil)))
 (Pd.mFrzQ 1 (Pd.mRet (Pd.mDct (Pd.mDictOf (Pd.mCons (Pd.mLst (Pd.mComp (.n 2) [2] (Pd.mSeqQ (Pd.mVar 1)) (Pd.mBool (Pd.mOp Pd.gNe (Pd.mOp Pd.gIx (Pd.mOp Pd.gIxQ (Pd.mVar 1) (Pd.mVar 2)) (Pd.ret (.int 0))) (Pd.ret (.int 0)))) (Pd.mTup (Pd.mCons (Pd.mVar 2) (Pd.mCons (Pd.mOp Pd.gIxQ (Pd.mVar 1) (Pd.mVar 2)) Pd.mNil))))) Pd.mNil)))))))
def m__law_sums : Mir := Pd.mFn 4 r__law_sums
def r__law_poly : M Out :=
 (Pd.mRet (Pd.mCallD m__law_sums [] [0] (Pd.mECons (Pd.mCallD m__law_terms [] [0, 1, 2, 3] (Pd.mEPot 0 (Pd.mECons (Pd.mVar 1) (Pd.mECons (Pd.mVar 2) (Pd.mECons (Pd.mVar 3) Pd.mENil)))) Pd.mENil) Pd.mENil) Pd.mENil))
def m__law_poly : Mir := Pd.mFn 4 r__law_poly
def r__law_point : M Out :=
 (Pd.mSeq (Pd.mSetO 2 Pd.mNil)
 (Pd.mSeq (Pd.mFor (.n 3) (Pd.mRng Pd.rng1 (Pd.mCons (Pd.mVar 1) Pd.mNil))
  (Pd.mApp 2 (Pd.mCallD m__law_ratio [] [0] (Pd.mEPot 0 Pd.mENil) Pd.mENil)))
 (Pd.mFrz 2 (Pd.mRet (Pd.mTupOf (Pd.mCons (Pd.mVar 2) Pd.mNil))))))
def m__law_point : Mir := Pd.mFn 4 r__law_point
def r__law_nested (recm : Mir) : M Out :=
 (Pd.mSeq (Pd.mIf (Pd.mBool (Pd.mOp Pd.gEq (Pd.mVar 1) (Pd.ret (.int 0))))
  (Pd.mRet (Pd.mGetQ (Pd.mVar 0) (Pd.mTup Pd.mNil) (Pd.mTup (Pd.mCons (Pd.ret (.int 0)) (Pd.mCons (Pd.ret (.int 1)) Pd.mNil)))))
  Pd.mNext)
 (Pd.mSeq (Pd.mParDO 2 3 (Pd.mB Pd.gMax (Pd.mCons (Pd.mOp Pd.gAdd3 (Pd.mLst (Pd.mComp (.n 4) [4] (Pd.mSeqQ (Pd.mVar 0)) Pd.tt1 (Pd.mOp Pd.gIx (Pd.mVar 4) (Pd.ret (.int 0))))) (Pd.mLst (Pd.mCons (Pd.ret (.int 0)) Pd.mNil))) Pd.mNil)) Pd.mNil)
 (Pd.mSeq (Pd.mFor (.n 5) (Pd.mRng Pd.rng1 (Pd.mCons (Pd.mOp Pd.gAdd (Pd.mVar 2) (Pd.ret (.int 1))) Pd.mNil))
  (Pd.mSeq (Pd.mSet 6 (Pd.mDct (Pd.mDictOf (Pd.mCons (Pd.mLst (Pd.mComp (.n 4) [4] (Pd.mSeqQ (Pd.mVar 0)) (Pd.mBool (Pd.mOp Pd.gEq (Pd.mOp Pd.gIx (Pd.mVar 4) (Pd.ret (.int 0))) (Pd.mVar 5))) (Pd.mTup (Pd.mCons (Pd.mSl (Pd.mVar 4) (Pd.mPt (Pd.ret (.int 1))) Pd.mNoP) (Pd.mCons (Pd.mOp Pd.gIxQ (Pd.mVar 0) (Pd.mVar 4)) Pd.mNil))))) Pd.mNil))))
 (Pd.mApp 3 (Pd.mCallD recm [] [0, 1] (Pd.mECons (Pd.mVar 6) (Pd.mECons (Pd.mOp Pd.gSub (Pd.mVar 1) (Pd.ret (.int 1))) Pd.mENil)) Pd.mENil))))
 (Pd.mFrz 3 (Pd.mRet (Pd.mTupOf (Pd.mCons (Pd.mVar 3) Pd.mNil)))))))
def m__law_nested : Nat → Mir
  | 0 => fun _ _ => .bad
  | n + 1 => Pd.mFn 7 (r__law_nested (m__law_nested n))
def r__law_terms_of (recm : Mir) : M Out :=
 (Pd.mSeq (Pd.mIf (Pd.mBool (Pd.mOp Pd.gEq (Pd.mVar 1) (Pd.ret (.int 0))))
  (Pd.mSeq (Pd.mSet 2 (Pd.mAndV (Pd.mIsi "tuple" (Pd.mVar 0)) (Pd.mOp Pd.gEq (Pd.mB Pd.gLen (Pd.mCons (Pd.mVar 0) Pd.mNil)) (Pd.ret (.int 2)))))
 (Pd.mSeq (Pd.mIf (Pd.mOr (Pd.mNot (Pd.mBool (Pd.mVar 2))) (Pd.mNot (Pd.mBool (Pd.mB Pd.gAll (Pd.mCons (Pd.mLst (Pd.mComp (.n 3) [3] (Pd.mSeqI (Pd.mVar 0)) Pd.tt1 (Pd.mAndV (Pd.mIsi "int" (Pd.mVar 3)) (Pd.mNotV (Pd.mIsi "bool" (Pd.mVar 3)))))) Pd.mNil)))))
  (Pd.mRet (Pd.ret .non))
  Pd.mNext)
 (Pd.mSeq (Pd.mIf (Pd.mOr (Pd.mBool (Pd.mOp Pd.gLt (Pd.mOp Pd.gIx (Pd.mVar 0) (Pd.ret (.int 1))) (Pd.ret (.int 1)))) (Pd.mBool (Pd.mOp Pd.gNe (Pd.mCallD m__law_low [] [0, 1] (Pd.mECons (Pd.mOp Pd.gIx (Pd.mVar 0) (Pd.ret (.int 0))) (Pd.mECons (Pd.mOp Pd.gIx (Pd.mVar 0) (Pd.ret (.int 1))) Pd.mENil)) Pd.mENil) (Pd.mVar 0))))
  (Pd.mRet (Pd.ret .non))
  Pd.mNext)
 (Pd.mRet (Pd.mIte (Pd.mBool (Pd.mOp Pd.gNe (Pd.mOp Pd.gIx (Pd.mVar 0) (Pd.ret (.int 0))) (Pd.ret (.int 0)))) (Pd.mDct (Pd.mDisp1 (Pd.mTup Pd.mNil) (Pd.mVar 0))) (Pd.ret .emp))))))
  Pd.mNext)
 (Pd.mSeq (Pd.mIf (Pd.mOr (Pd.mNot (Pd.mBool (Pd.mIsi "tuple" (Pd.mVar 0)))) (Pd.mOr (Pd.mBool (Pd.mOp Pd.gEq (Pd.mVar 0) (Pd.mTup Pd.mNil))) (Pd.mBool (Pd.mOp Pd.gGt (Pd.mB Pd.gLen (Pd.mCons (Pd.mVar 0) Pd.mNil)) (Pd.ret (.int 9))))))
  (Pd.mRet (Pd.ret .non))
  Pd.mNext)
 (Pd.mSeq (Pd.mSetQ 4 (Pd.ret ([], [])))
 (Pd.mSeq (Pd.mFor (.t [5, 6]) (Pd.mEnum2 (Pd.mCons (Pd.mVar 0) Pd.mNil))
  (Pd.mSeq (Pd.mSet 7 (Pd.mCallD recm [] [0, 1] (Pd.mECons (Pd.mVar 6) (Pd.mECons (Pd.mOp Pd.gSub (Pd.mVar 1) (Pd.ret (.int 1))) Pd.mENil)) Pd.mENil))
 (Pd.mSeq (Pd.mIf (Pd.mBool (Pd.mOp Pd.gIs2 (Pd.mVar 7) (Pd.ret .non)))
  (Pd.mRet (Pd.ret .non))
  Pd.mNext)
 (Pd.mFor (.n 8) (Pd.mSeqQ (Pd.mVar 7))
  (Pd.mPutQ 4 (Pd.mOp Pd.gAdd3 (Pd.mTup (Pd.mCons (Pd.mVar 5) Pd.mNil)) (Pd.mVar 8)) (Pd.mOp Pd.gIxQ (Pd.mVar 7) (Pd.mVar 8)))))))
 (Pd.mFrzQ 4 (Pd.mRet (Pd.mVar 4)))))))
def m__law_terms_of : Nat → Mir
  | 0 => fun _ _ => .bad
  | n + 1 => Pd.mFn 9 (r__law_terms_of (m__law_terms_of n))
def r__law_is_nested : M Out :=
 (Pd.mSeq (Pd.mSet 2 (Pd.mCallD (m__law_terms_of 12) [] [0, 1] (Pd.mECons (Pd.mVar 0) (Pd.mECons (Pd.mVar 1) Pd.mENil)) Pd.mENil))
 (Pd.mSeq (Pd.mIf (Pd.mOr (Pd.mBool (Pd.mOp Pd.gIs2 (Pd.mVar 2) (Pd.ret .non))) (Pd.mOr (Pd.mBool (Pd.mOp Pd.gGt (Pd.mB Pd.gLenQ (Pd.mCons (Pd.mVar 2) Pd.mNil)) (Pd.ret (.int 60)))) (Pd.mBool (Pd.mOp Pd.gGt (Pd.mB Pd.gMax (Pd.mCons (Pd.mOp Pd.gAdd3 (Pd.mLst (Pd.mComp (.n 3) [3] (Pd.mSeqQ (Pd.mVar 2)) Pd.tt1 (Pd.mB Pd.gSum2 (Pd.mCons (Pd.mVar 3) Pd.mNil)))) (Pd.mLst (Pd.mCons (Pd.ret (.int 0)) Pd.mNil))) Pd.mNil)) (Pd.ret (.int 8))))))
  (Pd.mRet (Pd.ret (.bl false)))
  Pd.mNext)
 (Pd.mRet (Pd.mOp Pd.gEq (Pd.mCallD (m__law_nested 12) [] [0, 1] (Pd.mECons (Pd.mVar 2) (Pd.mECons (Pd.mVar 1) Pd.mENil)) Pd.mENil) (Pd.mVar 0)))))
def m__law_is_nested : Mir := Pd.mFn 4 r__law_is_nested
def r__law_bent (recm : Mir) : M Out :=
 (Pd.mSeq (Pd.mSet 2 (Pd.mCallD m__law_pick [] [0, 1] (Pd.mEPot 0 (Pd.mECons (Pd.mLst (Pd.mCons (Pd.ret .non) (Pd.mCons (Pd.ret (.int 0)) (Pd.mCons (Pd.ret (.bl true)) (Pd.mCons (Pd.mTup (Pd.mCons (Pd.ret (.int 0)) (Pd.mCons (Pd.ret (.int 1)) Pd.mNil))) (Pd.mCons (Pd.mTup (Pd.mCons (Pd.ret (.int 1)) (Pd.mCons (Pd.ret (.int 1)) Pd.mNil))) (Pd.mCons (Pd.mTup (Pd.mCons (Pd.ret (.int 2)) (Pd.mCons (Pd.ret (.int 4)) Pd.mNil))) (Pd.mCons (Pd.mTup Pd.mNil) (Pd.mCons (Pd.mTup (Pd.mCons (Pd.mTup (Pd.mCons (Pd.ret (.int 0)) (Pd.mCons (Pd.ret (.int 1)) Pd.mNil))) Pd.mNil)) (Pd.mCons (Pd.mTup (Pd.mCons (Pd.mTup (Pd.mCons (Pd.ret (.int 1)) (Pd.mCons (Pd.ret (.int 1)) Pd.mNil))) Pd.mNil)) (Pd.mCons (Pd.mTup (Pd.mCons (Pd.ret (.int 0)) (Pd.mCons (Pd.ret (.bl true)) Pd.mNil))) Pd.mNil))))))))))) Pd.mENil)) Pd.mENil))
 (Pd.mSeq (Pd.mPar [3, 4] (Pd.mCons (Pd.mCallD m__law_draw [] [0, 1] (Pd.mEPot 0 (Pd.mECons (Pd.ret (.int 6)) Pd.mENil)) Pd.mENil) (Pd.mCons (Pd.mCallD m__law_draw [] [0, 1] (Pd.mEPot 0 (Pd.mECons (Pd.mB Pd.gLen (Pd.mCons (Pd.mVar 1) Pd.mNil)) Pd.mENil)) Pd.mENil) Pd.mNil)))
 (Pd.mSeq (Pd.mIf (Pd.mAnd (Pd.mBool (Pd.mOp Pd.gEq (Pd.mVar 3) (Pd.ret (.int 0)))) (Pd.mAnd (Pd.mBool (Pd.mIsi "tuple" (Pd.mOp Pd.gIx (Pd.mVar 1) (Pd.mVar 4)))) (Pd.mBool (Pd.mOp Pd.gNe (Pd.mOp Pd.gIx (Pd.mVar 1) (Pd.mVar 4)) (Pd.mTup Pd.mNil)))))
  (Pd.mRet (Pd.mOp Pd.gAdd3 (Pd.mOp Pd.gAdd3 (Pd.mSl (Pd.mVar 1) Pd.mNoP (Pd.mPt (Pd.mVar 4))) (Pd.mTup (Pd.mCons (Pd.mCallD recm [] [0, 1] (Pd.mEPot 0 (Pd.mECons (Pd.mOp Pd.gIx (Pd.mVar 1) (Pd.mVar 4)) Pd.mENil)) Pd.mENil) Pd.mNil))) (Pd.mSl (Pd.mVar 1) (Pd.mPt (Pd.mOp Pd.gAdd (Pd.mVar 4) (Pd.ret (.int 1)))) Pd.mNoP)))
  Pd.mNext)
 (Pd.mSeq (Pd.mSet 5 (Pd.mLst (Pd.mCons (Pd.mOp Pd.gAdd3 (Pd.mVar 1) (Pd.mTup (Pd.mCons (Pd.mVar 2) Pd.mNil))) (Pd.mCons (Pd.mOp Pd.gAdd3 (Pd.mSl (Pd.mVar 1) Pd.mNoP (Pd.mPt (Pd.mVar 4))) (Pd.mSl (Pd.mVar 1) (Pd.mPt (Pd.mOp Pd.gAdd (Pd.mVar 4) (Pd.ret (.int 1)))) Pd.mNoP)) (Pd.mCons (Pd.mOp Pd.gAdd3 (Pd.mOp Pd.gAdd3 (Pd.mSl (Pd.mVar 1) Pd.mNoP (Pd.mPt (Pd.mVar 4))) (Pd.mTup (Pd.mCons (Pd.mVar 2) Pd.mNil))) (Pd.mSl (Pd.mVar 1) (Pd.mPt (Pd.mOp Pd.gAdd (Pd.mVar 4) (Pd.ret (.int 1)))) Pd.mNoP)) (Pd.mCons (Pd.mLst (Pd.mListOf (Pd.mCons (Pd.mVar 1) Pd.mNil))) (Pd.mCons (Pd.mOp Pd.gAdd3 (Pd.mVar 1) (Pd.mSl (Pd.mVar 1) (Pd.mPt (Pd.mNeg (Pd.ret (.int 1)))) Pd.mNoP)) Pd.mNil)))))))
 (Pd.mRet (Pd.mCallD m__law_pick [] [0, 1] (Pd.mEPot 0 (Pd.mECons (Pd.mVar 5) Pd.mENil)) Pd.mENil))))))
def m__law_bent : Nat → Mir
  | 0 => fun _ _ => .bad
  | n + 1 => Pd.mFn 6 (r__law_bent (m__law_bent n))
def r__law_right : M Out :=
 (Pd.mSeq (Pd.mSet 1 (Pd.mCallD m__law_pick [] [0, 1] (Pd.mEPot 0 (Pd.mECons (Pd.mLst (Pd.mCons (Pd.ret (.int 1)) (Pd.mCons (Pd.ret (.int 2)) (Pd.mCons (Pd.ret (.int 2)) (Pd.mCons (Pd.ret (.int 3)) Pd.mNil))))) Pd.mENil)) Pd.mENil))
 (Pd.mSeq (Pd.mSet 2 (Pd.mCallD m__law_poly [] [0, 1, 2, 3] (Pd.mEPot 0 (Pd.mECons (Pd.mVar 1) (Pd.mECons (Pd.ret (.int 6)) (Pd.mECons (Pd.mIte (Pd.mBool (Pd.mOp Pd.gGt (Pd.mVar 1) (Pd.ret (.int 1)))) (Pd.mOp Pd.gDiv (Pd.ret (.int 4)) (Pd.mVar 1)) (Pd.ret (.int 4))) Pd.mENil)))) Pd.mENil))
 (Pd.mSeq (Pd.mPar [3, 4] (Pd.mCons (Pd.mCallD m__law_told [] [0] (Pd.mECons (Pd.mVar 2) Pd.mENil) Pd.mENil) (Pd.mCons (Pd.mCallD (m__law_nested 12) [] [0, 1] (Pd.mECons (Pd.mVar 2) (Pd.mECons (Pd.mVar 1) Pd.mENil)) Pd.mENil) Pd.mNil)))
 (Pd.mSeq (Pd.mSet 5 (Pd.mCallD m_nested_of [] [0, 1] (Pd.mECons (Pd.mVar 1) (Pd.mECons (Pd.mVar 3) Pd.mENil)) Pd.mENil))
 (Pd.mSeq (Pd.mIf (Pd.mOr (Pd.mBool (Pd.mOp Pd.gNe (Pd.mCallD m_poly_of [] [0, 1] (Pd.mECons (Pd.mVar 1) (Pd.mECons (Pd.mLst (Pd.mListOf (Pd.mCons (Pd.mVar 3) Pd.mNil))) Pd.mENil)) Pd.mENil) (Pd.mVar 3))) (Pd.mOr (Pd.mBool (Pd.mOp Pd.gNe (Pd.mVar 5) (Pd.mVar 4))) (Pd.mBool (Pd.mOp Pd.gNe (Pd.mCallD m_nested_of [] [1, 0] Pd.mENil (Pd.mECons (Pd.mVar 3) (Pd.mECons (Pd.mVar 1) Pd.mENil))) (Pd.mVar 4)))))
  (Pd.mRet (Pd.ret (.bl false)))
  Pd.mNext)
 (Pd.mSeq (Pd.mIf (Pd.mOr (Pd.mBool (Pd.mOp Pd.gIsNot2 (Pd.mCallD m_is_nested [] [0, 1] (Pd.mECons (Pd.mVar 1) (Pd.mECons (Pd.mVar 5) Pd.mENil)) Pd.mENil) (Pd.ret (.bl true)))) (Pd.mBool (Pd.mOp Pd.gNe (Pd.mCallD m_poly_of_nested [] [0, 1] (Pd.mECons (Pd.mVar 1) (Pd.mECons (Pd.mVar 5) Pd.mENil)) Pd.mENil) (Pd.mVar 3))))
  (Pd.mRet (Pd.ret (.bl false)))
  Pd.mNext)
 (Pd.mSeq (Pd.mFor (.n 6) (Pd.mRng Pd.rng1 (Pd.mCons (Pd.ret (.int 3)) Pd.mNil))
  (Pd.mSeq (Pd.mSet 7 (Pd.mCallD m__law_point [] [0, 1] (Pd.mEPot 0 (Pd.mECons (Pd.mVar 1) Pd.mENil)) Pd.mENil))
 (Pd.mSeq (Pd.mSet 8 (Pd.mCallD m__law_value [] [0, 1] (Pd.mECons (Pd.mVar 2) (Pd.mECons (Pd.mVar 7) Pd.mENil)) Pd.mENil))
 (Pd.mSeq (Pd.mIf (Pd.mOr (Pd.mBool (Pd.mOp Pd.gNe (Pd.mCallD m_value_of_nested [] [0, 1, 2] (Pd.mECons (Pd.mVar 1) (Pd.mECons (Pd.mVar 5) (Pd.mECons (Pd.mVar 7) Pd.mENil))) Pd.mENil) (Pd.mVar 8))) (Pd.mBool (Pd.mOp Pd.gNe (Pd.mCallD m_value_of_nested [] [2, 1, 0] Pd.mENil (Pd.mECons (Pd.mVar 7) (Pd.mECons (Pd.mVar 5) (Pd.mECons (Pd.mVar 1) Pd.mENil)))) (Pd.mVar 8))))
  (Pd.mRet (Pd.ret (.bl false)))
  Pd.mNext)
 (Pd.mIf (Pd.mAnd (Pd.mBool (Pd.mOp Pd.gNe (Pd.mVar 3) (Pd.mTup Pd.mNil))) (Pd.mBool (Pd.mOp Pd.gNe (Pd.mCallD m_value_at [] [0, 1] (Pd.mECons (Pd.mVar 3) (Pd.mECons (Pd.mVar 7) Pd.mENil)) Pd.mENil) (Pd.mVar 8))))
  (Pd.mRet (Pd.ret (.bl false)))
  Pd.mNext)))))
 (Pd.mSeq (Pd.mFor (.n 6) (Pd.mRng Pd.rng1 (Pd.mCons (Pd.ret (.int 4)) Pd.mNil))
  (Pd.mSeq (Pd.mSet 9 (Pd.mCallD (m__law_bent 12) [] [0, 1] (Pd.mEPot 0 (Pd.mECons (Pd.mVar 4) Pd.mENil)) Pd.mENil))
 (Pd.mSeq (Pd.mSet 10 (Pd.mCallD m__law_is_nested [] [0, 1] (Pd.mECons (Pd.mVar 9) (Pd.mECons (Pd.mVar 1) Pd.mENil)) Pd.mENil))
 (Pd.mSeq (Pd.mIf (Pd.mBool (Pd.mOp Pd.gNe (Pd.mB Pd.gRepr2 (Pd.mCons (Pd.mLst (Pd.mCons (Pd.mCallD m_is_nested [] [0, 1] (Pd.mECons (Pd.mVar 1) (Pd.mECons (Pd.mVar 9) Pd.mENil)) Pd.mENil) (Pd.mCons (Pd.mCallD m_is_nested [] [1, 0] Pd.mENil (Pd.mECons (Pd.mVar 9) (Pd.mECons (Pd.mVar 1) Pd.mENil))) Pd.mNil))) Pd.mNil)) (Pd.mB Pd.gRepr2 (Pd.mCons (Pd.mLst (Pd.mCons (Pd.mVar 10) (Pd.mCons (Pd.mVar 10) Pd.mNil))) Pd.mNil))))
  (Pd.mRet (Pd.ret (.bl false)))
  Pd.mNext)
 (Pd.mIf (Pd.mAnd (Pd.mBool (Pd.mVar 10)) (Pd.mBool (Pd.mOp Pd.gNe (Pd.mCallD m_poly_of_nested [] [1, 0] Pd.mENil (Pd.mECons (Pd.mVar 9) (Pd.mECons (Pd.mVar 1) Pd.mENil))) (Pd.mCallD m__law_told [] [0] (Pd.mECons (Pd.mCallD (m__law_terms_of 12) [] [0, 1] (Pd.mECons (Pd.mVar 9) (Pd.mECons (Pd.mVar 1) Pd.mENil)) Pd.mENil) Pd.mENil) Pd.mENil))))
  (Pd.mRet (Pd.ret (.bl false)))
  Pd.mNext)))))
 (Pd.mSeq (Pd.mSet 11 (Pd.mLst (Pd.mCons (Pd.ret .non) (Pd.mCons (Pd.ret (.int 0)) (Pd.mCons (Pd.ret (.str "")) (Pd.mCons (Pd.mLst Pd.mNil) (Pd.mCons (Pd.mTup Pd.mNil) (Pd.mCons (Pd.mTup (Pd.mCons (Pd.ret (.int 0)) (Pd.mCons (Pd.ret (.int 1)) Pd.mNil))) (Pd.mCons (Pd.mTup (Pd.mCons (Pd.mTup (Pd.mCons (Pd.ret (.int 1)) (Pd.mCons (Pd.ret (.int 1)) Pd.mNil))) (Pd.mCons (Pd.mTup (Pd.mCons (Pd.ret (.int 0)) (Pd.mCons (Pd.ret (.int 1)) Pd.mNil))) Pd.mNil))) (Pd.mCons (Pd.mTup (Pd.mCons (Pd.mTup (Pd.mCons (Pd.mTup (Pd.mCons (Pd.ret (.int 0)) (Pd.mCons (Pd.ret (.int 1)) Pd.mNil))) Pd.mNil)) Pd.mNil)) Pd.mNil))))))))))
 (Pd.mRet (Pd.mOp Pd.gEq (Pd.mB Pd.gRepr2 (Pd.mCons (Pd.mLst (Pd.mComp (.n 8) [8] (Pd.mSeqI (Pd.mVar 11)) Pd.tt1 (Pd.mCallD m_is_nested [] [0, 1] (Pd.mECons (Pd.mVar 1) (Pd.mECons (Pd.mVar 8) Pd.mENil)) Pd.mENil))) Pd.mNil)) (Pd.mB Pd.gRepr2 (Pd.mCons (Pd.mLst (Pd.mComp (.n 8) [8] (Pd.mSeqI (Pd.mVar 11)) Pd.tt1 (Pd.mCallD m__law_is_nested [] [0, 1] (Pd.mECons (Pd.mVar 8) (Pd.mECons (Pd.mVar 1) Pd.mENil)) Pd.mENil))) Pd.mNil)))))))))))))
def m__law_right : Mir := Pd.mFn 12 r__law_right
def r_law : M Out :=
 (Pd.mLawR m__law_right (Pd.mCallO m__law_pot [] [0, 1] (Pd.mECons (Pd.mVar 0) (Pd.mECons (Pd.ret (.int 0)) Pd.mENil)) Pd.mENil))
def m_law : Mir := Pd.mFn 1 r_law
end Tc


namespace Tc
open PySem PySem.Spec PyProof.Rows L2 Pd
structure Tx (K : PySem.W.Frag) (mg : Str → Option Value) where
  a__law_pot : Addr
  d__law_pot : FuncData
  D__law_pot : FunD K "_law_pot" "_law_pot" (defArgs s__law_pot) (defBody s__law_pot) (defScope s__law_pot) [] [] a__law_pot d__law_pot
  g__law_pot : mg "_law_pot" = some (.ref a__law_pot)
  a_is_list : Addr
  d_is_list : FuncData
  D_is_list : FunD K "is_list" "is_list" (defArgs s_is_list) (defBody s_is_list) (defScope s_is_list) [] [] a_is_list d_is_list
  g_is_list : mg "is_list" = some (.ref a_is_list)
  a_is_integer : Addr
  d_is_integer : FuncData
  D_is_integer : FunD K "is_integer" "is_integer" (defArgs s_is_integer) (defBody s_is_integer) (defScope s_is_integer) [] [] a_is_integer d_is_integer
  g_is_integer : mg "is_integer" = some (.ref a_is_integer)
  a_is_count : Addr
  d_is_count : FuncData
  D_is_count : FunD K "is_count" "is_count" (defArgs s_is_count) (defBody s_is_count) (defScope s_is_count) [] [] a_is_count d_is_count
  g_is_count : mg "is_count" = some (.ref a_is_count)
  a_is_ratio : Addr
  d_is_ratio : FuncData
  D_is_ratio : FunD K "is_ratio" "is_ratio" (defArgs s_is_ratio) (defBody s_is_ratio) (defScope s_is_ratio) [] [] a_is_ratio d_is_ratio
  g_is_ratio : mg "is_ratio" = some (.ref a_is_ratio)
  a_is_term : Addr
  d_is_term : FuncData
  D_is_term : FunD K "is_term" "is_term" (defArgs s_is_term) (defBody s_is_term) (defScope s_is_term) [] [] a_is_term d_is_term
  g_is_term : mg "is_term" = some (.ref a_is_term)
  a_want_many : Addr
  d_want_many : FuncData
  D_want_many : FunD K "want_many" "want_many" (defArgs s_want_many) (defBody s_want_many) (defScope s_want_many) [(.non), (.int (0))] [] a_want_many d_want_many
  g_want_many : mg "want_many" = some (.ref a_want_many)
  a_want_letters_many : Addr
  d_want_letters_many : FuncData
  D_want_letters_many : FunD K "want_letters_many" "want_letters_many" (defArgs s_want_letters_many) (defBody s_want_letters_many) (defScope s_want_letters_many) [] [] a_want_letters_many d_want_letters_many
  g_want_letters_many : mg "want_letters_many" = some (.ref a_want_letters_many)
  a_told_poly : Addr
  d_told_poly : FuncData
  D_told_poly : FunD K "told_poly" "told_poly" (defArgs s_told_poly) (defBody s_told_poly) (defScope s_told_poly) [] [] a_told_poly d_told_poly
  g_told_poly : mg "told_poly" = some (.ref a_told_poly)
  a_made_ratio : Addr
  d_made_ratio : FuncData
  D_made_ratio : FunD K "made_ratio" "made_ratio" (defArgs s_made_ratio) (defBody s_made_ratio) (defScope s_made_ratio) [] [] a_made_ratio d_made_ratio
  g_made_ratio : mg "made_ratio" = some (.ref a_made_ratio)
  a_add_ratios : Addr
  d_add_ratios : FuncData
  D_add_ratios : FunD K "add_ratios" "add_ratios" (defArgs s_add_ratios) (defBody s_add_ratios) (defScope s_add_ratios) [] [] a_add_ratios d_add_ratios
  g_add_ratios : mg "add_ratios" = some (.ref a_add_ratios)
  a_put_more : Addr
  d_put_more : FuncData
  D_put_more : FunD K "put_more" "put_more" (defArgs s_put_more) (defBody s_put_more) (defScope s_put_more) [] [] a_put_more d_put_more
  g_put_more : mg "put_more" = some (.ref a_put_more)
  a_want_at_most : Addr
  d_want_at_most : FuncData
  D_want_at_most : FunD K "want_at_most" "want_at_most" (defArgs s_want_at_most) (defBody s_want_at_most) (defScope s_want_at_most) [] [] a_want_at_most d_want_at_most
  g_want_at_most : mg "want_at_most" = some (.ref a_want_at_most)
  a_degree_of : Addr
  d_degree_of : FuncData
  D_degree_of : FunD K "degree_of" "degree_of" (defArgs s_degree_of) (defBody s_degree_of) (defScope s_degree_of) [] [] a_degree_of d_degree_of
  g_degree_of : mg "degree_of" = some (.ref a_degree_of)
  a_want_few : Addr
  d_want_few : FuncData
  D_want_few : FunD K "want_few" "want_few" (defArgs s_want_few) (defBody s_want_few) (defScope s_want_few) [] [] a_want_few d_want_few
  g_want_few : mg "want_few" = some (.ref a_want_few)
  a_poly_of : Addr
  d_poly_of : FuncData
  D_poly_of : FunD K "poly_of" "poly_of" (defArgs s_poly_of) (defBody s_poly_of) (defScope s_poly_of) [] [] a_poly_of d_poly_of
  g_poly_of : mg "poly_of" = some (.ref a_poly_of)
  a_letters_of : Addr
  d_letters_of : FuncData
  D_letters_of : FunD K "letters_of" "letters_of" (defArgs s_letters_of) (defBody s_letters_of) (defScope s_letters_of) [] [] a_letters_of d_letters_of
  g_letters_of : mg "letters_of" = some (.ref a_letters_of)
  a_is_poly_in : Addr
  d_is_poly_in : FuncData
  D_is_poly_in : FunD K "is_poly_in" "is_poly_in" (defArgs s_is_poly_in) (defBody s_is_poly_in) (defScope s_is_poly_in) [] [] a_is_poly_in d_is_poly_in
  g_is_poly_in : mg "is_poly_in" = some (.ref a_is_poly_in)
  a_is_any_poly : Addr
  d_is_any_poly : FuncData
  D_is_any_poly : FunD K "is_any_poly" "is_any_poly" (defArgs s_is_any_poly) (defBody s_is_any_poly) (defScope s_is_any_poly) [] [] a_is_any_poly d_is_any_poly
  g_is_any_poly : mg "is_any_poly" = some (.ref a_is_any_poly)
  a_want_poly : Addr
  d_want_poly : FuncData
  D_want_poly : FunD K "want_poly" "want_poly" (defArgs s_want_poly) (defBody s_want_poly) (defScope s_want_poly) [] [] a_want_poly d_want_poly
  g_want_poly : mg "want_poly" = some (.ref a_want_poly)
  a_is_point : Addr
  d_is_point : FuncData
  D_is_point : FunD K "is_point" "is_point" (defArgs s_is_point) (defBody s_is_point) (defScope s_is_point) [] [] a_is_point d_is_point
  g_is_point : mg "is_point" = some (.ref a_is_point)
  a_want_point_for : Addr
  d_want_point_for : FuncData
  D_want_point_for : FunD K "want_point_for" "want_point_for" (defArgs s_want_point_for) (defBody s_want_point_for) (defScope s_want_point_for) [] [] a_want_point_for d_want_point_for
  g_want_point_for : mg "want_point_for" = some (.ref a_want_point_for)
  a_mul_ratios : Addr
  d_mul_ratios : FuncData
  D_mul_ratios : FunD K "mul_ratios" "mul_ratios" (defArgs s_mul_ratios) (defBody s_mul_ratios) (defScope s_mul_ratios) [] [] a_mul_ratios d_mul_ratios
  g_mul_ratios : mg "mul_ratios" = some (.ref a_mul_ratios)
  a_power_ratio : Addr
  d_power_ratio : FuncData
  D_power_ratio : FunD K "power_ratio" "power_ratio" (defArgs s_power_ratio) (defBody s_power_ratio) (defScope s_power_ratio) [] [] a_power_ratio d_power_ratio
  g_power_ratio : mg "power_ratio" = some (.ref a_power_ratio)
  a_value_of : Addr
  d_value_of : FuncData
  D_value_of : FunD K "value_of" "value_of" (defArgs s_value_of) (defBody s_value_of) (defScope s_value_of) [] [] a_value_of d_value_of
  g_value_of : mg "value_of" = some (.ref a_value_of)
  a_value_at : Addr
  d_value_at : FuncData
  D_value_at : FunD K "value_at" "value_at" (defArgs s_value_at) (defBody s_value_at) (defScope s_value_at) [] [] a_value_at d_value_at
  g_value_at : mg "value_at" = some (.ref a_value_at)
  a_nested_from : Addr
  d_nested_from : FuncData
  D_nested_from : FunD K "nested_from" "nested_from" (defArgs s_nested_from) (defBody s_nested_from) (defScope s_nested_from) [] [] a_nested_from d_nested_from
  g_nested_from : mg "nested_from" = some (.ref a_nested_from)
  a_terms_from : Addr
  d_terms_from : FuncData
  D_terms_from : FunD K "terms_from" "terms_from" (defArgs s_terms_from) (defBody s_terms_from) (defScope s_terms_from) [] [] a_terms_from d_terms_from
  g_terms_from : mg "terms_from" = some (.ref a_terms_from)
  a_poly_from : Addr
  d_poly_from : FuncData
  D_poly_from : FunD K "poly_from" "poly_from" (defArgs s_poly_from) (defBody s_poly_from) (defScope s_poly_from) [] [] a_poly_from d_poly_from
  g_poly_from : mg "poly_from" = some (.ref a_poly_from)
  a_has_form : Addr
  d_has_form : FuncData
  D_has_form : FunD K "has_form" "has_form" (defArgs s_has_form) (defBody s_has_form) (defScope s_has_form) [] [] a_has_form d_has_form
  g_has_form : mg "has_form" = some (.ref a_has_form)
  a_is_nested_of : Addr
  d_is_nested_of : FuncData
  D_is_nested_of : FunD K "is_nested_of" "is_nested_of" (defArgs s_is_nested_of) (defBody s_is_nested_of) (defScope s_is_nested_of) [] [] a_is_nested_of d_is_nested_of
  g_is_nested_of : mg "is_nested_of" = some (.ref a_is_nested_of)
  a_is_nested : Addr
  d_is_nested : FuncData
  D_is_nested : FunD K "is_nested" "is_nested" (defArgs s_is_nested) (defBody s_is_nested) (defScope s_is_nested) [] [] a_is_nested d_is_nested
  g_is_nested : mg "is_nested" = some (.ref a_is_nested)
  a_want_poly_in : Addr
  d_want_poly_in : FuncData
  D_want_poly_in : FunD K "want_poly_in" "want_poly_in" (defArgs s_want_poly_in) (defBody s_want_poly_in) (defScope s_want_poly_in) [] [] a_want_poly_in d_want_poly_in
  g_want_poly_in : mg "want_poly_in" = some (.ref a_want_poly_in)
  a_nested_of : Addr
  d_nested_of : FuncData
  D_nested_of : FunD K "nested_of" "nested_of" (defArgs s_nested_of) (defBody s_nested_of) (defScope s_nested_of) [] [] a_nested_of d_nested_of
  g_nested_of : mg "nested_of" = some (.ref a_nested_of)
  a_want_nested : Addr
  d_want_nested : FuncData
  D_want_nested : FunD K "want_nested" "want_nested" (defArgs s_want_nested) (defBody s_want_nested) (defScope s_want_nested) [] [] a_want_nested d_want_nested
  g_want_nested : mg "want_nested" = some (.ref a_want_nested)
  a_poly_of_nested : Addr
  d_poly_of_nested : FuncData
  D_poly_of_nested : FunD K "poly_of_nested" "poly_of_nested" (defArgs s_poly_of_nested) (defBody s_poly_of_nested) (defScope s_poly_of_nested) [] [] a_poly_of_nested d_poly_of_nested
  g_poly_of_nested : mg "poly_of_nested" = some (.ref a_poly_of_nested)
  a_value_from : Addr
  d_value_from : FuncData
  D_value_from : FunD K "value_from" "value_from" (defArgs s_value_from) (defBody s_value_from) (defScope s_value_from) [] [] a_value_from d_value_from
  g_value_from : mg "value_from" = some (.ref a_value_from)
  a_value_of_nested : Addr
  d_value_of_nested : FuncData
  D_value_of_nested : FunD K "value_of_nested" "value_of_nested" (defArgs s_value_of_nested) (defBody s_value_of_nested) (defScope s_value_of_nested) [] [] a_value_of_nested d_value_of_nested
  g_value_of_nested : mg "value_of_nested" = some (.ref a_value_of_nested)
  a__law_draw : Addr
  d__law_draw : FuncData
  D__law_draw : FunD K "_law_draw" "_law_draw" (defArgs s__law_draw) (defBody s__law_draw) (defScope s__law_draw) [] [] a__law_draw d__law_draw
  g__law_draw : mg "_law_draw" = some (.ref a__law_draw)
  a__law_pick : Addr
  d__law_pick : FuncData
  D__law_pick : FunD K "_law_pick" "_law_pick" (defArgs s__law_pick) (defBody s__law_pick) (defScope s__law_pick) [] [] a__law_pick d__law_pick
  g__law_pick : mg "_law_pick" = some (.ref a__law_pick)
  a__law_told : Addr
  d__law_told : FuncData
  D__law_told : FunD K "_law_told" "_law_told" (defArgs s__law_told) (defBody s__law_told) (defScope s__law_told) [] [] a__law_told d__law_told
  g__law_told : mg "_law_told" = some (.ref a__law_told)
  a__law_low : Addr
  d__law_low : FuncData
  D__law_low : FunD K "_law_low" "_law_low" (defArgs s__law_low) (defBody s__law_low) (defScope s__law_low) [] [] a__law_low d__law_low
  g__law_low : mg "_law_low" = some (.ref a__law_low)
  a__law_add : Addr
  d__law_add : FuncData
  D__law_add : FunD K "_law_add" "_law_add" (defArgs s__law_add) (defBody s__law_add) (defScope s__law_add) [] [] a__law_add d__law_add
  g__law_add : mg "_law_add" = some (.ref a__law_add)
  a__law_mul : Addr
  d__law_mul : FuncData
  D__law_mul : FunD K "_law_mul" "_law_mul" (defArgs s__law_mul) (defBody s__law_mul) (defScope s__law_mul) [] [] a__law_mul d__law_mul
  g__law_mul : mg "_law_mul" = some (.ref a__law_mul)
  a__law_value : Addr
  d__law_value : FuncData
  D__law_value : FunD K "_law_value" "_law_value" (defArgs s__law_value) (defBody s__law_value) (defScope s__law_value) [] [] a__law_value d__law_value
  g__law_value : mg "_law_value" = some (.ref a__law_value)
  a__law_ratio : Addr
  d__law_ratio : FuncData
  D__law_ratio : FunD K "_law_ratio" "_law_ratio" (defArgs s__law_ratio) (defBody s__law_ratio) (defScope s__law_ratio) [] [] a__law_ratio d__law_ratio
  g__law_ratio : mg "_law_ratio" = some (.ref a__law_ratio)
  a__law_terms : Addr
  d__law_terms : FuncData
  D__law_terms : FunD K "_law_terms" "_law_terms" (defArgs s__law_terms) (defBody s__law_terms) (defScope s__law_terms) [] [] a__law_terms d__law_terms
  g__law_terms : mg "_law_terms" = some (.ref a__law_terms)
  a__law_sums : Addr
  d__law_sums : FuncData
  D__law_sums : FunD K "_law_sums" "_law_sums" (defArgs s__law_sums) (defBody s__law_sums) (defScope s__law_sums) [] [] a__law_sums d__law_sums
  g__law_sums : mg "_law_sums" = some (.ref a__law_sums)
  a__law_poly : Addr
  d__law_poly : FuncData
  D__law_poly : FunD K "_law_poly" "_law_poly" (defArgs s__law_poly) (defBody s__law_poly) (defScope s__law_poly) [] [] a__law_poly d__law_poly
  g__law_poly : mg "_law_poly" = some (.ref a__law_poly)
  a__law_point : Addr
  d__law_point : FuncData
  D__law_point : FunD K "_law_point" "_law_point" (defArgs s__law_point) (defBody s__law_point) (defScope s__law_point) [] [] a__law_point d__law_point
  g__law_point : mg "_law_point" = some (.ref a__law_point)
  a__law_nested : Addr
  d__law_nested : FuncData
  D__law_nested : FunD K "_law_nested" "_law_nested" (defArgs s__law_nested) (defBody s__law_nested) (defScope s__law_nested) [] [] a__law_nested d__law_nested
  g__law_nested : mg "_law_nested" = some (.ref a__law_nested)
  a__law_terms_of : Addr
  d__law_terms_of : FuncData
  D__law_terms_of : FunD K "_law_terms_of" "_law_terms_of" (defArgs s__law_terms_of) (defBody s__law_terms_of) (defScope s__law_terms_of) [] [] a__law_terms_of d__law_terms_of
  g__law_terms_of : mg "_law_terms_of" = some (.ref a__law_terms_of)
  a__law_is_nested : Addr
  d__law_is_nested : FuncData
  D__law_is_nested : FunD K "_law_is_nested" "_law_is_nested" (defArgs s__law_is_nested) (defBody s__law_is_nested) (defScope s__law_is_nested) [] [] a__law_is_nested d__law_is_nested
  g__law_is_nested : mg "_law_is_nested" = some (.ref a__law_is_nested)
  a__law_bent : Addr
  d__law_bent : FuncData
  D__law_bent : FunD K "_law_bent" "_law_bent" (defArgs s__law_bent) (defBody s__law_bent) (defScope s__law_bent) [] [] a__law_bent d__law_bent
  g__law_bent : mg "_law_bent" = some (.ref a__law_bent)
  a__law_right : Addr
  d__law_right : FuncData
  D__law_right : FunD K "_law_right" "_law_right" (defArgs s__law_right) (defBody s__law_right) (defScope s__law_right) [] [] a__law_right d__law_right
  g__law_right : mg "_law_right" = some (.ref a__law_right)
  a_law : Addr
  d_law : FuncData
  D_law : FunD K "law" "law" (defArgs s_law) (defBody s_law) (defScope s_law) [] [] a_law d_law
  g_law : mg "law" = some (.ref a_law)
  n_ArithmeticError : mg "ArithmeticError" = none
  n_ValueError : mg "ValueError" = none
  n_abs : mg "abs" = none
  n_all : mg "all" = none
  n_any : mg "any" = none
  n_bool : mg "bool" = none
  n_dict : mg "dict" = none
  n_divmod : mg "divmod" = none
  n_enumerate : mg "enumerate" = none
  n_int : mg "int" = none
  n_isinstance : mg "isinstance" = none
  n_len : mg "len" = none
  n_list : mg "list" = none
  n_max : mg "max" = none
  n_range : mg "range" = none
  n_repr : mg "repr" = none
  n_sorted : mg "sorted" = none
  n_sum : mg "sum" = none
  n_tuple : mg "tuple" = none
  n_zip : mg "zip" = none
  c_MOST_LETTERS_boxes : ∃ t, mg "MOST_LETTERS_boxes" = some (.int (8) t)
  c_MOST_LETTERS_polys : ∃ t, mg "MOST_LETTERS_polys" = some (.int (8) t)
  c_MOST_DEGREE : ∃ t, mg "MOST_DEGREE" = some (.int (8) t)
  c_MOST_TERMS : ∃ t, mg "MOST_TERMS" = some (.int (60) t)
  c_MOST_PASSED : ∃ t, mg "MOST_PASSED" = some (.int (200) t)
  t_NOUGHT : ∃ a, mg "NOUGHT" = some (.ref a) ∧ ∀ H, Pd.Rep K H (.tup [.int (0), .int (1)]) (.ref a)
  t_WHOLE : ∃ a, mg "WHOLE" = some (.ref a) ∧ ∀ H, Pd.Rep K H (.tup [.int (1), .int (1)]) (.ref a)
  i_gcd : mg "gcd" = some (.builtin "math.gcd")
theorem sc__law_pot : FnScope ["_law_script", "_law_k", "_law_cell"] ["_law_script", "_law_k"] (defScope s__law_pot) := ⟨rfl, rfl, rfl, by decide +kernel, rfl, by decide +kernel, by decide +kernel⟩
theorem sc_is_list : FnScope ["value"] ["value"] (defScope s_is_list) := ⟨rfl, rfl, rfl, by decide +kernel, rfl, by decide +kernel, by decide +kernel⟩
theorem sc_is_integer : FnScope ["value"] ["value"] (defScope s_is_integer) := ⟨rfl, rfl, rfl, by decide +kernel, rfl, by decide +kernel, by decide +kernel⟩
theorem sc_is_count : FnScope ["value"] ["value"] (defScope s_is_count) := ⟨rfl, rfl, rfl, by decide +kernel, rfl, by decide +kernel, by decide +kernel⟩
theorem sc_is_ratio : FnScope ["value"] ["value"] (defScope s_is_ratio) := ⟨rfl, rfl, rfl, by decide +kernel, rfl, by decide +kernel, by decide +kernel⟩
theorem sc_is_term : FnScope ["many", "value", "one"] ["many", "value"] (defScope s_is_term) := ⟨rfl, rfl, rfl, by decide +kernel, rfl, by decide +kernel, by decide +kernel⟩
theorem sc_want_many : FnScope ["value", "most", "least"] ["value", "most", "least"] (defScope s_want_many) := ⟨rfl, rfl, rfl, by decide +kernel, rfl, by decide +kernel, by decide +kernel⟩
theorem sc_want_letters_many : FnScope ["value"] ["value"] (defScope s_want_letters_many) := ⟨rfl, rfl, rfl, by decide +kernel, rfl, by decide +kernel, by decide +kernel⟩
theorem sc_told_poly : FnScope ["sums", "exponents"] ["sums"] (defScope s_told_poly) := ⟨rfl, rfl, rfl, by decide +kernel, rfl, by decide +kernel, by decide +kernel⟩
theorem sc_made_ratio : FnScope ["number", "under", "part"] ["number", "under"] (defScope s_made_ratio) := ⟨rfl, rfl, rfl, by decide +kernel, rfl, by decide +kernel, by decide +kernel⟩
theorem sc_add_ratios : FnScope ["one", "other"] ["one", "other"] (defScope s_add_ratios) := ⟨rfl, rfl, rfl, by decide +kernel, rfl, by decide +kernel, by decide +kernel⟩
theorem sc_put_more : FnScope ["sums", "exponents", "ratio"] ["sums", "exponents", "ratio"] (defScope s_put_more) := ⟨rfl, rfl, rfl, by decide +kernel, rfl, by decide +kernel, by decide +kernel⟩
theorem sc_want_at_most : FnScope ["what", "limit", "number"] ["what", "limit", "number"] (defScope s_want_at_most) := ⟨rfl, rfl, rfl, by decide +kernel, rfl, by decide +kernel, by decide +kernel⟩
theorem sc_degree_of : FnScope ["poly", "exponents", "ratio"] ["poly"] (defScope s_degree_of) := ⟨rfl, rfl, rfl, by decide +kernel, rfl, by decide +kernel, by decide +kernel⟩
theorem sc_want_few : FnScope ["poly"] ["poly"] (defScope s_want_few) := ⟨rfl, rfl, rfl, by decide +kernel, rfl, by decide +kernel, by decide +kernel⟩
theorem sc_poly_of : FnScope ["many", "terms", "one", "sums", "exponents", "ratio"] ["many", "terms"] (defScope s_poly_of) := ⟨rfl, rfl, rfl, by decide +kernel, rfl, by decide +kernel, by decide +kernel⟩
theorem sc_letters_of : FnScope ["poly"] ["poly"] (defScope s_letters_of) := ⟨rfl, rfl, rfl, by decide +kernel, rfl, by decide +kernel, by decide +kernel⟩
theorem sc_is_poly_in : FnScope ["many", "value", "one", "exponents", "ratio", "other"] ["many", "value"] (defScope s_is_poly_in) := ⟨rfl, rfl, rfl, by decide +kernel, rfl, by decide +kernel, by decide +kernel⟩
theorem sc_is_any_poly : FnScope ["value", "first"] ["value"] (defScope s_is_any_poly) := ⟨rfl, rfl, rfl, by decide +kernel, rfl, by decide +kernel, by decide +kernel⟩
theorem sc_want_poly : FnScope ["value"] ["value"] (defScope s_want_poly) := ⟨rfl, rfl, rfl, by decide +kernel, rfl, by decide +kernel, by decide +kernel⟩
theorem sc_is_point : FnScope ["value", "one"] ["value"] (defScope s_is_point) := ⟨rfl, rfl, rfl, by decide +kernel, rfl, by decide +kernel, by decide +kernel⟩
theorem sc_want_point_for : FnScope ["many", "value"] ["many", "value"] (defScope s_want_point_for) := ⟨rfl, rfl, rfl, by decide +kernel, rfl, by decide +kernel, by decide +kernel⟩
theorem sc_mul_ratios : FnScope ["one", "other"] ["one", "other"] (defScope s_mul_ratios) := ⟨rfl, rfl, rfl, by decide +kernel, rfl, by decide +kernel, by decide +kernel⟩
theorem sc_power_ratio : FnScope ["ratio", "many", "found", "turn"] ["ratio", "many"] (defScope s_power_ratio) := ⟨rfl, rfl, rfl, by decide +kernel, rfl, by decide +kernel, by decide +kernel⟩
theorem sc_value_of : FnScope ["poly", "point", "found", "exponents", "ratio", "product", "often", "number"] ["poly", "point"] (defScope s_value_of) := ⟨rfl, rfl, rfl, by decide +kernel, rfl, by decide +kernel, by decide +kernel⟩
theorem sc_value_at : FnScope ["poly", "point"] ["poly", "point"] (defScope s_value_at) := ⟨rfl, rfl, rfl, by decide +kernel, rfl, by decide +kernel, by decide +kernel⟩
theorem sc_nested_from : FnScope ["terms", "left", "greatest", "found", "exponents", "ratio", "often", "some"] ["terms", "left"] (defScope s_nested_from) := ⟨rfl, rfl, rfl, by decide +kernel, rfl, by decide +kernel, by decide +kernel⟩
theorem sc_terms_from : FnScope ["nested", "left", "found", "often", "inner", "exponents", "ratio"] ["nested", "left"] (defScope s_terms_from) := ⟨rfl, rfl, rfl, by decide +kernel, rfl, by decide +kernel, by decide +kernel⟩
theorem sc_poly_from : FnScope ["nested", "many"] ["nested", "many"] (defScope s_poly_from) := ⟨rfl, rfl, rfl, by decide +kernel, rfl, by decide +kernel, by decide +kernel⟩
theorem sc_has_form : FnScope ["value", "left", "one"] ["value", "left"] (defScope s_has_form) := ⟨rfl, rfl, rfl, by decide +kernel, rfl, by decide +kernel, by decide +kernel⟩
theorem sc_is_nested_of : FnScope ["many", "value", "poly"] ["many", "value"] (defScope s_is_nested_of) := ⟨rfl, rfl, rfl, by decide +kernel, rfl, by decide +kernel, by decide +kernel⟩
theorem sc_is_nested : FnScope ["many", "value"] ["many", "value"] (defScope s_is_nested) := ⟨rfl, rfl, rfl, by decide +kernel, rfl, by decide +kernel, by decide +kernel⟩
theorem sc_want_poly_in : FnScope ["many", "value"] ["many", "value"] (defScope s_want_poly_in) := ⟨rfl, rfl, rfl, by decide +kernel, rfl, by decide +kernel, by decide +kernel⟩
theorem sc_nested_of : FnScope ["many", "poly"] ["many", "poly"] (defScope s_nested_of) := ⟨rfl, rfl, rfl, by decide +kernel, rfl, by decide +kernel, by decide +kernel⟩
theorem sc_want_nested : FnScope ["many", "value"] ["many", "value"] (defScope s_want_nested) := ⟨rfl, rfl, rfl, by decide +kernel, rfl, by decide +kernel, by decide +kernel⟩
theorem sc_poly_of_nested : FnScope ["many", "nested"] ["many", "nested"] (defScope s_poly_of_nested) := ⟨rfl, rfl, rfl, by decide +kernel, rfl, by decide +kernel, by decide +kernel⟩
theorem sc_value_from : FnScope ["nested", "point", "found", "inner"] ["nested", "point"] (defScope s_value_from) := ⟨rfl, rfl, rfl, by decide +kernel, rfl, by decide +kernel, by decide +kernel⟩
theorem sc_value_of_nested : FnScope ["many", "nested", "point"] ["many", "nested", "point"] (defScope s_value_of_nested) := ⟨rfl, rfl, rfl, by decide +kernel, rfl, by decide +kernel, by decide +kernel⟩
theorem sc__law_draw : FnScope ["_law_pot_here", "_law_many", "_law_digit"] ["_law_pot_here", "_law_many"] (defScope s__law_draw) := ⟨rfl, rfl, rfl, by decide +kernel, rfl, by decide +kernel, by decide +kernel⟩
theorem sc__law_pick : FnScope ["_law_pot_here", "_law_some"] ["_law_pot_here", "_law_some"] (defScope s__law_pick) := ⟨rfl, rfl, rfl, by decide +kernel, rfl, by decide +kernel, by decide +kernel⟩
theorem sc__law_told : FnScope ["_law_sums_here", "_law_exponents"] ["_law_sums_here"] (defScope s__law_told) := ⟨rfl, rfl, rfl, by decide +kernel, rfl, by decide +kernel, by decide +kernel⟩
theorem sc__law_low : FnScope ["_law_number", "_law_under", "_law_one", "_law_other"] ["_law_number", "_law_under"] (defScope s__law_low) := ⟨rfl, rfl, rfl, by decide +kernel, rfl, by decide +kernel, by decide +kernel⟩
theorem sc__law_add : FnScope ["_law_one", "_law_other"] ["_law_one", "_law_other"] (defScope s__law_add) := ⟨rfl, rfl, rfl, by decide +kernel, rfl, by decide +kernel, by decide +kernel⟩
theorem sc__law_mul : FnScope ["_law_one", "_law_other"] ["_law_one", "_law_other"] (defScope s__law_mul) := ⟨rfl, rfl, rfl, by decide +kernel, rfl, by decide +kernel, by decide +kernel⟩
theorem sc__law_value : FnScope ["_law_sums_here", "_law_point_here", "_law_found", "_law_exponents", "_law_term", "_law_often", "_law_ratio_here", "_law_turn"] ["_law_sums_here", "_law_point_here"] (defScope s__law_value) := ⟨rfl, rfl, rfl, by decide +kernel, rfl, by decide +kernel, by decide +kernel⟩
theorem sc__law_ratio : FnScope ["_law_pot_here"] ["_law_pot_here"] (defScope s__law_ratio) := ⟨rfl, rfl, rfl, by decide +kernel, rfl, by decide +kernel, by decide +kernel⟩
theorem sc__law_terms : FnScope ["_law_pot_here", "_law_letters", "_law_most", "_law_deep", "_law_found", "_law_turn", "_law_exponents", "_law_letter"] ["_law_pot_here", "_law_letters", "_law_most", "_law_deep"] (defScope s__law_terms) := ⟨rfl, rfl, rfl, by decide +kernel, rfl, by decide +kernel, by decide +kernel⟩
theorem sc__law_sums : FnScope ["_law_terms_here", "_law_found", "_law_exponents", "_law_ratio_here"] ["_law_terms_here"] (defScope s__law_sums) := ⟨rfl, rfl, rfl, by decide +kernel, rfl, by decide +kernel, by decide +kernel⟩
theorem sc__law_poly : FnScope ["_law_pot_here", "_law_letters", "_law_most", "_law_deep"] ["_law_pot_here", "_law_letters", "_law_most", "_law_deep"] (defScope s__law_poly) := ⟨rfl, rfl, rfl, by decide +kernel, rfl, by decide +kernel, by decide +kernel⟩
theorem sc__law_point : FnScope ["_law_pot_here", "_law_letters", "_law_found", "_law_letter"] ["_law_pot_here", "_law_letters"] (defScope s__law_point) := ⟨rfl, rfl, rfl, by decide +kernel, rfl, by decide +kernel, by decide +kernel⟩
theorem sc__law_nested : FnScope ["_law_sums_here", "_law_letters", "_law_most", "_law_found", "_law_exponents", "_law_often", "_law_part"] ["_law_sums_here", "_law_letters"] (defScope s__law_nested) := ⟨rfl, rfl, rfl, by decide +kernel, rfl, by decide +kernel, by decide +kernel⟩
theorem sc__law_terms_of : FnScope ["_law_value_here", "_law_letters", "_law_is_pair", "_law_one", "_law_found", "_law_often", "_law_part", "_law_inner", "_law_exponents"] ["_law_value_here", "_law_letters"] (defScope s__law_terms_of) := ⟨rfl, rfl, rfl, by decide +kernel, rfl, by decide +kernel, by decide +kernel⟩
theorem sc__law_is_nested : FnScope ["_law_value_here", "_law_letters", "_law_terms_here", "_law_exponents"] ["_law_value_here", "_law_letters"] (defScope s__law_is_nested) := ⟨rfl, rfl, rfl, by decide +kernel, rfl, by decide +kernel, by decide +kernel⟩
theorem sc__law_bent : FnScope ["_law_pot_here", "_law_value_here", "_law_odd", "_law_way", "_law_at", "_law_some"] ["_law_pot_here", "_law_value_here"] (defScope s__law_bent) := ⟨rfl, rfl, rfl, by decide +kernel, rfl, by decide +kernel, by decide +kernel⟩
theorem sc__law_right : FnScope ["_law_pot_here", "_law_letters", "_law_sums_here", "_law_poly_here", "_law_due", "_law_told_here", "_law_turn", "_law_point_here", "_law_value_here", "_law_bent_here", "_law_is_so", "_law_odd"] ["_law_pot_here"] (defScope s__law_right) := ⟨rfl, rfl, rfl, by decide +kernel, rfl, by decide +kernel, by decide +kernel⟩
theorem sc_law : FnScope ["_law_script"] ["_law_script"] (defScope s_law) := ⟨rfl, rfl, rfl, by decide +kernel, rfl, by decide +kernel, by decide +kernel⟩
theorem b_is_integer_0 {K : PySem.W.Frag} {f : Addr} {fd : FuncData} (D : FunD K "is_integer" "is_integer" (defArgs s_is_integer) (defBody s_is_integer) (defScope s_is_integer) [] [] f fd) : Pd.Bt K fd ["value"] 1 [] [] [0] :=
  Pd.bt0 D fun _ _ _ _ _ _ us ws h1 h2 => match us, h1, ws, h2 with | [_], _, [], _ => rfl
theorem bl_b_is_integer_0 : ∀ l : List Nat, l.length = 1 + (([] : List PySem.Str).length + ([] : List Value).length) → (Pd.pick [0] l).length = (["value"] : List PySem.Str).length := fun l h => match l, h with | [_], _ => rfl
theorem b_is_ratio_0 {K : PySem.W.Frag} {f : Addr} {fd : FuncData} (D : FunD K "is_ratio" "is_ratio" (defArgs s_is_ratio) (defBody s_is_ratio) (defScope s_is_ratio) [] [] f fd) : Pd.Bt K fd ["value"] 1 [] [] [0] :=
  Pd.bt0 D fun _ _ _ _ _ _ us ws h1 h2 => match us, h1, ws, h2 with | [_], _, [], _ => rfl
theorem bl_b_is_ratio_0 : ∀ l : List Nat, l.length = 1 + (([] : List PySem.Str).length + ([] : List Value).length) → (Pd.pick [0] l).length = (["value"] : List PySem.Str).length := fun l h => match l, h with | [_], _ => rfl
theorem b_is_count_0 {K : PySem.W.Frag} {f : Addr} {fd : FuncData} (D : FunD K "is_count" "is_count" (defArgs s_is_count) (defBody s_is_count) (defScope s_is_count) [] [] f fd) : Pd.Bt K fd ["value"] 1 [] [] [0] :=
  Pd.bt0 D fun _ _ _ _ _ _ us ws h1 h2 => match us, h1, ws, h2 with | [_], _, [], _ => rfl
theorem bl_b_is_count_0 : ∀ l : List Nat, l.length = 1 + (([] : List PySem.Str).length + ([] : List Value).length) → (Pd.pick [0] l).length = (["value"] : List PySem.Str).length := fun l h => match l, h with | [_], _ => rfl
theorem b_want_many_0 {K : PySem.W.Frag} {f : Addr} {fd : FuncData} (D : FunD K "want_many" "want_many" (defArgs s_want_many) (defBody s_want_many) (defScope s_want_many) [(.non), (.int (0))] [] f fd) : ∃ ds, Vals [(.non), (.int (0))] ds ∧ Pd.Bt K fd ["value", "most", "least"] 3 [] ds [0, 1, 2] :=
  Pd.btG (ps := ["value", "most", "least"]) (ks := []) (is := [0, 1, 2]) D 3 0 (by simp) fun _ _ _ _ _ _ _ us ws its h1 h2 h3 => match us, h1, ws, h2, its, h3 with | [_, _, _], _, [], _, [_, _], _ => ⟨_, rfl, rfl⟩
theorem bl_b_want_many_0 : ∀ l : List Nat, l.length = 3 + (([] : List PySem.Str).length + ([(.non), (.int (0))] : List V).length) → (Pd.pick [0, 1, 2] l).length = (["value", "most", "least"] : List PySem.Str).length := fun l h => match l, h with | [_, _, _, _, _], _ => rfl
theorem b_made_ratio_0 {K : PySem.W.Frag} {f : Addr} {fd : FuncData} (D : FunD K "made_ratio" "made_ratio" (defArgs s_made_ratio) (defBody s_made_ratio) (defScope s_made_ratio) [] [] f fd) : Pd.Bt K fd ["number", "under"] 2 [] [] [0, 1] :=
  Pd.bt0 D fun _ _ _ _ _ _ us ws h1 h2 => match us, h1, ws, h2 with | [_, _], _, [], _ => rfl
theorem bl_b_made_ratio_0 : ∀ l : List Nat, l.length = 2 + (([] : List PySem.Str).length + ([] : List Value).length) → (Pd.pick [0, 1] l).length = (["number", "under"] : List PySem.Str).length := fun l h => match l, h with | [_, _], _ => rfl
theorem b_add_ratios_0 {K : PySem.W.Frag} {f : Addr} {fd : FuncData} (D : FunD K "add_ratios" "add_ratios" (defArgs s_add_ratios) (defBody s_add_ratios) (defScope s_add_ratios) [] [] f fd) : Pd.Bt K fd ["one", "other"] 2 [] [] [0, 1] :=
  Pd.bt0 D fun _ _ _ _ _ _ us ws h1 h2 => match us, h1, ws, h2 with | [_, _], _, [], _ => rfl
theorem bl_b_add_ratios_0 : ∀ l : List Nat, l.length = 2 + (([] : List PySem.Str).length + ([] : List Value).length) → (Pd.pick [0, 1] l).length = (["one", "other"] : List PySem.Str).length := fun l h => match l, h with | [_, _], _ => rfl
theorem b_want_at_most_0 {K : PySem.W.Frag} {f : Addr} {fd : FuncData} (D : FunD K "want_at_most" "want_at_most" (defArgs s_want_at_most) (defBody s_want_at_most) (defScope s_want_at_most) [] [] f fd) : Pd.Bt K fd ["what", "limit", "number"] 3 [] [] [0, 1, 2] :=
  Pd.bt0 D fun _ _ _ _ _ _ us ws h1 h2 => match us, h1, ws, h2 with | [_, _, _], _, [], _ => rfl
theorem bl_b_want_at_most_0 : ∀ l : List Nat, l.length = 3 + (([] : List PySem.Str).length + ([] : List Value).length) → (Pd.pick [0, 1, 2] l).length = (["what", "limit", "number"] : List PySem.Str).length := fun l h => match l, h with | [_, _, _], _ => rfl
theorem b_degree_of_0 {K : PySem.W.Frag} {f : Addr} {fd : FuncData} (D : FunD K "degree_of" "degree_of" (defArgs s_degree_of) (defBody s_degree_of) (defScope s_degree_of) [] [] f fd) : Pd.Bt K fd ["poly"] 1 [] [] [0] :=
  Pd.bt0 D fun _ _ _ _ _ _ us ws h1 h2 => match us, h1, ws, h2 with | [_], _, [], _ => rfl
theorem bl_b_degree_of_0 : ∀ l : List Nat, l.length = 1 + (([] : List PySem.Str).length + ([] : List Value).length) → (Pd.pick [0] l).length = (["poly"] : List PySem.Str).length := fun l h => match l, h with | [_], _ => rfl
theorem b_want_letters_many_0 {K : PySem.W.Frag} {f : Addr} {fd : FuncData} (D : FunD K "want_letters_many" "want_letters_many" (defArgs s_want_letters_many) (defBody s_want_letters_many) (defScope s_want_letters_many) [] [] f fd) : Pd.Bt K fd ["value"] 1 [] [] [0] :=
  Pd.bt0 D fun _ _ _ _ _ _ us ws h1 h2 => match us, h1, ws, h2 with | [_], _, [], _ => rfl
theorem bl_b_want_letters_many_0 : ∀ l : List Nat, l.length = 1 + (([] : List PySem.Str).length + ([] : List Value).length) → (Pd.pick [0] l).length = (["value"] : List PySem.Str).length := fun l h => match l, h with | [_], _ => rfl
theorem b_is_list_0 {K : PySem.W.Frag} {f : Addr} {fd : FuncData} (D : FunD K "is_list" "is_list" (defArgs s_is_list) (defBody s_is_list) (defScope s_is_list) [] [] f fd) : Pd.Bt K fd ["value"] 1 [] [] [0] :=
  Pd.bt0 D fun _ _ _ _ _ _ us ws h1 h2 => match us, h1, ws, h2 with | [_], _, [], _ => rfl
theorem bl_b_is_list_0 : ∀ l : List Nat, l.length = 1 + (([] : List PySem.Str).length + ([] : List Value).length) → (Pd.pick [0] l).length = (["value"] : List PySem.Str).length := fun l h => match l, h with | [_], _ => rfl
theorem b_is_term_0 {K : PySem.W.Frag} {f : Addr} {fd : FuncData} (D : FunD K "is_term" "is_term" (defArgs s_is_term) (defBody s_is_term) (defScope s_is_term) [] [] f fd) : Pd.Bt K fd ["many", "value"] 2 [] [] [0, 1] :=
  Pd.bt0 D fun _ _ _ _ _ _ us ws h1 h2 => match us, h1, ws, h2 with | [_, _], _, [], _ => rfl
theorem bl_b_is_term_0 : ∀ l : List Nat, l.length = 2 + (([] : List PySem.Str).length + ([] : List Value).length) → (Pd.pick [0, 1] l).length = (["many", "value"] : List PySem.Str).length := fun l h => match l, h with | [_, _], _ => rfl
theorem b_put_more_0 {K : PySem.W.Frag} {f : Addr} {fd : FuncData} (D : FunD K "put_more" "put_more" (defArgs s_put_more) (defBody s_put_more) (defScope s_put_more) [] [] f fd) : Pd.Bt K fd ["sums", "exponents", "ratio"] 3 [] [] [0, 1, 2] :=
  Pd.bt0 D fun _ _ _ _ _ _ us ws h1 h2 => match us, h1, ws, h2 with | [_, _, _], _, [], _ => rfl
theorem b_want_few_0 {K : PySem.W.Frag} {f : Addr} {fd : FuncData} (D : FunD K "want_few" "want_few" (defArgs s_want_few) (defBody s_want_few) (defScope s_want_few) [] [] f fd) : Pd.Bt K fd ["poly"] 1 [] [] [0] :=
  Pd.bt0 D fun _ _ _ _ _ _ us ws h1 h2 => match us, h1, ws, h2 with | [_], _, [], _ => rfl
theorem bl_b_want_few_0 : ∀ l : List Nat, l.length = 1 + (([] : List PySem.Str).length + ([] : List Value).length) → (Pd.pick [0] l).length = (["poly"] : List PySem.Str).length := fun l h => match l, h with | [_], _ => rfl
theorem b_told_poly_0 {K : PySem.W.Frag} {f : Addr} {fd : FuncData} (D : FunD K "told_poly" "told_poly" (defArgs s_told_poly) (defBody s_told_poly) (defScope s_told_poly) [] [] f fd) : Pd.Bt K fd ["sums"] 1 [] [] [0] :=
  Pd.bt0 D fun _ _ _ _ _ _ us ws h1 h2 => match us, h1, ws, h2 with | [_], _, [], _ => rfl
theorem bl_b_told_poly_0 : ∀ l : List Nat, l.length = 1 + (([] : List PySem.Str).length + ([] : List Value).length) → (Pd.pick [0] l).length = (["sums"] : List PySem.Str).length := fun l h => match l, h with | [_], _ => rfl
theorem b_is_poly_in_0 {K : PySem.W.Frag} {f : Addr} {fd : FuncData} (D : FunD K "is_poly_in" "is_poly_in" (defArgs s_is_poly_in) (defBody s_is_poly_in) (defScope s_is_poly_in) [] [] f fd) : Pd.Bt K fd ["many", "value"] 2 [] [] [0, 1] :=
  Pd.bt0 D fun _ _ _ _ _ _ us ws h1 h2 => match us, h1, ws, h2 with | [_, _], _, [], _ => rfl
theorem bl_b_is_poly_in_0 : ∀ l : List Nat, l.length = 2 + (([] : List PySem.Str).length + ([] : List Value).length) → (Pd.pick [0, 1] l).length = (["many", "value"] : List PySem.Str).length := fun l h => match l, h with | [_, _], _ => rfl
theorem b_is_any_poly_0 {K : PySem.W.Frag} {f : Addr} {fd : FuncData} (D : FunD K "is_any_poly" "is_any_poly" (defArgs s_is_any_poly) (defBody s_is_any_poly) (defScope s_is_any_poly) [] [] f fd) : Pd.Bt K fd ["value"] 1 [] [] [0] :=
  Pd.bt0 D fun _ _ _ _ _ _ us ws h1 h2 => match us, h1, ws, h2 with | [_], _, [], _ => rfl
theorem bl_b_is_any_poly_0 : ∀ l : List Nat, l.length = 1 + (([] : List PySem.Str).length + ([] : List Value).length) → (Pd.pick [0] l).length = (["value"] : List PySem.Str).length := fun l h => match l, h with | [_], _ => rfl
theorem b_is_point_0 {K : PySem.W.Frag} {f : Addr} {fd : FuncData} (D : FunD K "is_point" "is_point" (defArgs s_is_point) (defBody s_is_point) (defScope s_is_point) [] [] f fd) : Pd.Bt K fd ["value"] 1 [] [] [0] :=
  Pd.bt0 D fun _ _ _ _ _ _ us ws h1 h2 => match us, h1, ws, h2 with | [_], _, [], _ => rfl
theorem bl_b_is_point_0 : ∀ l : List Nat, l.length = 1 + (([] : List PySem.Str).length + ([] : List Value).length) → (Pd.pick [0] l).length = (["value"] : List PySem.Str).length := fun l h => match l, h with | [_], _ => rfl
theorem b_mul_ratios_0 {K : PySem.W.Frag} {f : Addr} {fd : FuncData} (D : FunD K "mul_ratios" "mul_ratios" (defArgs s_mul_ratios) (defBody s_mul_ratios) (defScope s_mul_ratios) [] [] f fd) : Pd.Bt K fd ["one", "other"] 2 [] [] [0, 1] :=
  Pd.bt0 D fun _ _ _ _ _ _ us ws h1 h2 => match us, h1, ws, h2 with | [_, _], _, [], _ => rfl
theorem bl_b_mul_ratios_0 : ∀ l : List Nat, l.length = 2 + (([] : List PySem.Str).length + ([] : List Value).length) → (Pd.pick [0, 1] l).length = (["one", "other"] : List PySem.Str).length := fun l h => match l, h with | [_, _], _ => rfl
theorem b_power_ratio_0 {K : PySem.W.Frag} {f : Addr} {fd : FuncData} (D : FunD K "power_ratio" "power_ratio" (defArgs s_power_ratio) (defBody s_power_ratio) (defScope s_power_ratio) [] [] f fd) : Pd.Bt K fd ["ratio", "many"] 2 [] [] [0, 1] :=
  Pd.bt0 D fun _ _ _ _ _ _ us ws h1 h2 => match us, h1, ws, h2 with | [_, _], _, [], _ => rfl
theorem bl_b_power_ratio_0 : ∀ l : List Nat, l.length = 2 + (([] : List PySem.Str).length + ([] : List Value).length) → (Pd.pick [0, 1] l).length = (["ratio", "many"] : List PySem.Str).length := fun l h => match l, h with | [_, _], _ => rfl
theorem b_want_poly_0 {K : PySem.W.Frag} {f : Addr} {fd : FuncData} (D : FunD K "want_poly" "want_poly" (defArgs s_want_poly) (defBody s_want_poly) (defScope s_want_poly) [] [] f fd) : Pd.Bt K fd ["value"] 1 [] [] [0] :=
  Pd.bt0 D fun _ _ _ _ _ _ us ws h1 h2 => match us, h1, ws, h2 with | [_], _, [], _ => rfl
theorem bl_b_want_poly_0 : ∀ l : List Nat, l.length = 1 + (([] : List PySem.Str).length + ([] : List Value).length) → (Pd.pick [0] l).length = (["value"] : List PySem.Str).length := fun l h => match l, h with | [_], _ => rfl
theorem b_want_point_for_0 {K : PySem.W.Frag} {f : Addr} {fd : FuncData} (D : FunD K "want_point_for" "want_point_for" (defArgs s_want_point_for) (defBody s_want_point_for) (defScope s_want_point_for) [] [] f fd) : Pd.Bt K fd ["many", "value"] 2 [] [] [0, 1] :=
  Pd.bt0 D fun _ _ _ _ _ _ us ws h1 h2 => match us, h1, ws, h2 with | [_, _], _, [], _ => rfl
theorem bl_b_want_point_for_0 : ∀ l : List Nat, l.length = 2 + (([] : List PySem.Str).length + ([] : List Value).length) → (Pd.pick [0, 1] l).length = (["many", "value"] : List PySem.Str).length := fun l h => match l, h with | [_, _], _ => rfl
theorem b_letters_of_0 {K : PySem.W.Frag} {f : Addr} {fd : FuncData} (D : FunD K "letters_of" "letters_of" (defArgs s_letters_of) (defBody s_letters_of) (defScope s_letters_of) [] [] f fd) : Pd.Bt K fd ["poly"] 1 [] [] [0] :=
  Pd.bt0 D fun _ _ _ _ _ _ us ws h1 h2 => match us, h1, ws, h2 with | [_], _, [], _ => rfl
theorem bl_b_letters_of_0 : ∀ l : List Nat, l.length = 1 + (([] : List PySem.Str).length + ([] : List Value).length) → (Pd.pick [0] l).length = (["poly"] : List PySem.Str).length := fun l h => match l, h with | [_], _ => rfl
theorem b_value_of_0 {K : PySem.W.Frag} {f : Addr} {fd : FuncData} (D : FunD K "value_of" "value_of" (defArgs s_value_of) (defBody s_value_of) (defScope s_value_of) [] [] f fd) : Pd.Bt K fd ["poly", "point"] 2 [] [] [0, 1] :=
  Pd.bt0 D fun _ _ _ _ _ _ us ws h1 h2 => match us, h1, ws, h2 with | [_, _], _, [], _ => rfl
theorem bl_b_value_of_0 : ∀ l : List Nat, l.length = 2 + (([] : List PySem.Str).length + ([] : List Value).length) → (Pd.pick [0, 1] l).length = (["poly", "point"] : List PySem.Str).length := fun l h => match l, h with | [_, _], _ => rfl
theorem b_nested_from_0 {K : PySem.W.Frag} {f : Addr} {fd : FuncData} (D : FunD K "nested_from" "nested_from" (defArgs s_nested_from) (defBody s_nested_from) (defScope s_nested_from) [] [] f fd) : Pd.Bt K fd ["terms", "left"] 2 [] [] [0, 1] :=
  Pd.bt0 D fun _ _ _ _ _ _ us ws h1 h2 => match us, h1, ws, h2 with | [_, _], _, [], _ => rfl
theorem bl_b_nested_from_0 : ∀ l : List Nat, l.length = 2 + (([] : List PySem.Str).length + ([] : List Value).length) → (Pd.pick [0, 1] l).length = (["terms", "left"] : List PySem.Str).length := fun l h => match l, h with | [_, _], _ => rfl
theorem b_terms_from_0 {K : PySem.W.Frag} {f : Addr} {fd : FuncData} (D : FunD K "terms_from" "terms_from" (defArgs s_terms_from) (defBody s_terms_from) (defScope s_terms_from) [] [] f fd) : Pd.Bt K fd ["nested", "left"] 2 [] [] [0, 1] :=
  Pd.bt0 D fun _ _ _ _ _ _ us ws h1 h2 => match us, h1, ws, h2 with | [_, _], _, [], _ => rfl
theorem bl_b_terms_from_0 : ∀ l : List Nat, l.length = 2 + (([] : List PySem.Str).length + ([] : List Value).length) → (Pd.pick [0, 1] l).length = (["nested", "left"] : List PySem.Str).length := fun l h => match l, h with | [_, _], _ => rfl
theorem b_has_form_0 {K : PySem.W.Frag} {f : Addr} {fd : FuncData} (D : FunD K "has_form" "has_form" (defArgs s_has_form) (defBody s_has_form) (defScope s_has_form) [] [] f fd) : Pd.Bt K fd ["value", "left"] 2 [] [] [0, 1] :=
  Pd.bt0 D fun _ _ _ _ _ _ us ws h1 h2 => match us, h1, ws, h2 with | [_, _], _, [], _ => rfl
theorem bl_b_has_form_0 : ∀ l : List Nat, l.length = 2 + (([] : List PySem.Str).length + ([] : List Value).length) → (Pd.pick [0, 1] l).length = (["value", "left"] : List PySem.Str).length := fun l h => match l, h with | [_, _], _ => rfl
theorem b_poly_from_0 {K : PySem.W.Frag} {f : Addr} {fd : FuncData} (D : FunD K "poly_from" "poly_from" (defArgs s_poly_from) (defBody s_poly_from) (defScope s_poly_from) [] [] f fd) : Pd.Bt K fd ["nested", "many"] 2 [] [] [0, 1] :=
  Pd.bt0 D fun _ _ _ _ _ _ us ws h1 h2 => match us, h1, ws, h2 with | [_, _], _, [], _ => rfl
theorem bl_b_poly_from_0 : ∀ l : List Nat, l.length = 2 + (([] : List PySem.Str).length + ([] : List Value).length) → (Pd.pick [0, 1] l).length = (["nested", "many"] : List PySem.Str).length := fun l h => match l, h with | [_, _], _ => rfl
theorem b_is_nested_of_0 {K : PySem.W.Frag} {f : Addr} {fd : FuncData} (D : FunD K "is_nested_of" "is_nested_of" (defArgs s_is_nested_of) (defBody s_is_nested_of) (defScope s_is_nested_of) [] [] f fd) : Pd.Bt K fd ["many", "value"] 2 [] [] [0, 1] :=
  Pd.bt0 D fun _ _ _ _ _ _ us ws h1 h2 => match us, h1, ws, h2 with | [_, _], _, [], _ => rfl
theorem bl_b_is_nested_of_0 : ∀ l : List Nat, l.length = 2 + (([] : List PySem.Str).length + ([] : List Value).length) → (Pd.pick [0, 1] l).length = (["many", "value"] : List PySem.Str).length := fun l h => match l, h with | [_, _], _ => rfl
theorem b_want_poly_in_0 {K : PySem.W.Frag} {f : Addr} {fd : FuncData} (D : FunD K "want_poly_in" "want_poly_in" (defArgs s_want_poly_in) (defBody s_want_poly_in) (defScope s_want_poly_in) [] [] f fd) : Pd.Bt K fd ["many", "value"] 2 [] [] [0, 1] :=
  Pd.bt0 D fun _ _ _ _ _ _ us ws h1 h2 => match us, h1, ws, h2 with | [_, _], _, [], _ => rfl
theorem bl_b_want_poly_in_0 : ∀ l : List Nat, l.length = 2 + (([] : List PySem.Str).length + ([] : List Value).length) → (Pd.pick [0, 1] l).length = (["many", "value"] : List PySem.Str).length := fun l h => match l, h with | [_, _], _ => rfl
theorem b_want_nested_0 {K : PySem.W.Frag} {f : Addr} {fd : FuncData} (D : FunD K "want_nested" "want_nested" (defArgs s_want_nested) (defBody s_want_nested) (defScope s_want_nested) [] [] f fd) : Pd.Bt K fd ["many", "value"] 2 [] [] [0, 1] :=
  Pd.bt0 D fun _ _ _ _ _ _ us ws h1 h2 => match us, h1, ws, h2 with | [_, _], _, [], _ => rfl
theorem bl_b_want_nested_0 : ∀ l : List Nat, l.length = 2 + (([] : List PySem.Str).length + ([] : List Value).length) → (Pd.pick [0, 1] l).length = (["many", "value"] : List PySem.Str).length := fun l h => match l, h with | [_, _], _ => rfl
theorem b_value_from_0 {K : PySem.W.Frag} {f : Addr} {fd : FuncData} (D : FunD K "value_from" "value_from" (defArgs s_value_from) (defBody s_value_from) (defScope s_value_from) [] [] f fd) : Pd.Bt K fd ["nested", "point"] 2 [] [] [0, 1] :=
  Pd.bt0 D fun _ _ _ _ _ _ us ws h1 h2 => match us, h1, ws, h2 with | [_, _], _, [], _ => rfl
theorem bl_b_value_from_0 : ∀ l : List Nat, l.length = 2 + (([] : List PySem.Str).length + ([] : List Value).length) → (Pd.pick [0, 1] l).length = (["nested", "point"] : List PySem.Str).length := fun l h => match l, h with | [_, _], _ => rfl
theorem b__law_draw_0 {K : PySem.W.Frag} {f : Addr} {fd : FuncData} (D : FunD K "_law_draw" "_law_draw" (defArgs s__law_draw) (defBody s__law_draw) (defScope s__law_draw) [] [] f fd) : Pd.Bt K fd ["_law_pot_here", "_law_many"] 2 [] [] [0, 1] :=
  Pd.bt0 D fun _ _ _ _ _ _ us ws h1 h2 => match us, h1, ws, h2 with | [_, _], _, [], _ => rfl
theorem bl_b__law_draw_0 : ∀ l : List Nat, l.length = 2 + (([] : List PySem.Str).length + ([] : List Value).length) → (Pd.pick [0, 1] l).length = (["_law_pot_here", "_law_many"] : List PySem.Str).length := fun l h => match l, h with | [_, _], _ => rfl
theorem b__law_low_0 {K : PySem.W.Frag} {f : Addr} {fd : FuncData} (D : FunD K "_law_low" "_law_low" (defArgs s__law_low) (defBody s__law_low) (defScope s__law_low) [] [] f fd) : Pd.Bt K fd ["_law_number", "_law_under"] 2 [] [] [0, 1] :=
  Pd.bt0 D fun _ _ _ _ _ _ us ws h1 h2 => match us, h1, ws, h2 with | [_, _], _, [], _ => rfl
theorem bl_b__law_low_0 : ∀ l : List Nat, l.length = 2 + (([] : List PySem.Str).length + ([] : List Value).length) → (Pd.pick [0, 1] l).length = (["_law_number", "_law_under"] : List PySem.Str).length := fun l h => match l, h with | [_, _], _ => rfl
theorem b__law_mul_0 {K : PySem.W.Frag} {f : Addr} {fd : FuncData} (D : FunD K "_law_mul" "_law_mul" (defArgs s__law_mul) (defBody s__law_mul) (defScope s__law_mul) [] [] f fd) : Pd.Bt K fd ["_law_one", "_law_other"] 2 [] [] [0, 1] :=
  Pd.bt0 D fun _ _ _ _ _ _ us ws h1 h2 => match us, h1, ws, h2 with | [_, _], _, [], _ => rfl
theorem bl_b__law_mul_0 : ∀ l : List Nat, l.length = 2 + (([] : List PySem.Str).length + ([] : List Value).length) → (Pd.pick [0, 1] l).length = (["_law_one", "_law_other"] : List PySem.Str).length := fun l h => match l, h with | [_, _], _ => rfl
theorem b__law_add_0 {K : PySem.W.Frag} {f : Addr} {fd : FuncData} (D : FunD K "_law_add" "_law_add" (defArgs s__law_add) (defBody s__law_add) (defScope s__law_add) [] [] f fd) : Pd.Bt K fd ["_law_one", "_law_other"] 2 [] [] [0, 1] :=
  Pd.bt0 D fun _ _ _ _ _ _ us ws h1 h2 => match us, h1, ws, h2 with | [_, _], _, [], _ => rfl
theorem bl_b__law_add_0 : ∀ l : List Nat, l.length = 2 + (([] : List PySem.Str).length + ([] : List Value).length) → (Pd.pick [0, 1] l).length = (["_law_one", "_law_other"] : List PySem.Str).length := fun l h => match l, h with | [_, _], _ => rfl
theorem b__law_pick_0 {K : PySem.W.Frag} {f : Addr} {fd : FuncData} (D : FunD K "_law_pick" "_law_pick" (defArgs s__law_pick) (defBody s__law_pick) (defScope s__law_pick) [] [] f fd) : Pd.Bt K fd ["_law_pot_here", "_law_some"] 2 [] [] [0, 1] :=
  Pd.bt0 D fun _ _ _ _ _ _ us ws h1 h2 => match us, h1, ws, h2 with | [_, _], _, [], _ => rfl
theorem bl_b__law_pick_0 : ∀ l : List Nat, l.length = 2 + (([] : List PySem.Str).length + ([] : List Value).length) → (Pd.pick [0, 1] l).length = (["_law_pot_here", "_law_some"] : List PySem.Str).length := fun l h => match l, h with | [_, _], _ => rfl
theorem b__law_ratio_0 {K : PySem.W.Frag} {f : Addr} {fd : FuncData} (D : FunD K "_law_ratio" "_law_ratio" (defArgs s__law_ratio) (defBody s__law_ratio) (defScope s__law_ratio) [] [] f fd) : Pd.Bt K fd ["_law_pot_here"] 1 [] [] [0] :=
  Pd.bt0 D fun _ _ _ _ _ _ us ws h1 h2 => match us, h1, ws, h2 with | [_], _, [], _ => rfl
theorem bl_b__law_ratio_0 : ∀ l : List Nat, l.length = 1 + (([] : List PySem.Str).length + ([] : List Value).length) → (Pd.pick [0] l).length = (["_law_pot_here"] : List PySem.Str).length := fun l h => match l, h with | [_], _ => rfl
theorem b__law_sums_0 {K : PySem.W.Frag} {f : Addr} {fd : FuncData} (D : FunD K "_law_sums" "_law_sums" (defArgs s__law_sums) (defBody s__law_sums) (defScope s__law_sums) [] [] f fd) : Pd.Bt K fd ["_law_terms_here"] 1 [] [] [0] :=
  Pd.bt0 D fun _ _ _ _ _ _ us ws h1 h2 => match us, h1, ws, h2 with | [_], _, [], _ => rfl
theorem bl_b__law_sums_0 : ∀ l : List Nat, l.length = 1 + (([] : List PySem.Str).length + ([] : List Value).length) → (Pd.pick [0] l).length = (["_law_terms_here"] : List PySem.Str).length := fun l h => match l, h with | [_], _ => rfl
theorem b__law_terms_0 {K : PySem.W.Frag} {f : Addr} {fd : FuncData} (D : FunD K "_law_terms" "_law_terms" (defArgs s__law_terms) (defBody s__law_terms) (defScope s__law_terms) [] [] f fd) : Pd.Bt K fd ["_law_pot_here", "_law_letters", "_law_most", "_law_deep"] 4 [] [] [0, 1, 2, 3] :=
  Pd.bt0 D fun _ _ _ _ _ _ us ws h1 h2 => match us, h1, ws, h2 with | [_, _, _, _], _, [], _ => rfl
theorem bl_b__law_terms_0 : ∀ l : List Nat, l.length = 4 + (([] : List PySem.Str).length + ([] : List Value).length) → (Pd.pick [0, 1, 2, 3] l).length = (["_law_pot_here", "_law_letters", "_law_most", "_law_deep"] : List PySem.Str).length := fun l h => match l, h with | [_, _, _, _], _ => rfl
theorem b__law_nested_0 {K : PySem.W.Frag} {f : Addr} {fd : FuncData} (D : FunD K "_law_nested" "_law_nested" (defArgs s__law_nested) (defBody s__law_nested) (defScope s__law_nested) [] [] f fd) : Pd.Bt K fd ["_law_sums_here", "_law_letters"] 2 [] [] [0, 1] :=
  Pd.bt0 D fun _ _ _ _ _ _ us ws h1 h2 => match us, h1, ws, h2 with | [_, _], _, [], _ => rfl
theorem bl_b__law_nested_0 : ∀ l : List Nat, l.length = 2 + (([] : List PySem.Str).length + ([] : List Value).length) → (Pd.pick [0, 1] l).length = (["_law_sums_here", "_law_letters"] : List PySem.Str).length := fun l h => match l, h with | [_, _], _ => rfl
theorem b__law_terms_of_0 {K : PySem.W.Frag} {f : Addr} {fd : FuncData} (D : FunD K "_law_terms_of" "_law_terms_of" (defArgs s__law_terms_of) (defBody s__law_terms_of) (defScope s__law_terms_of) [] [] f fd) : Pd.Bt K fd ["_law_value_here", "_law_letters"] 2 [] [] [0, 1] :=
  Pd.bt0 D fun _ _ _ _ _ _ us ws h1 h2 => match us, h1, ws, h2 with | [_, _], _, [], _ => rfl
theorem bl_b__law_terms_of_0 : ∀ l : List Nat, l.length = 2 + (([] : List PySem.Str).length + ([] : List Value).length) → (Pd.pick [0, 1] l).length = (["_law_value_here", "_law_letters"] : List PySem.Str).length := fun l h => match l, h with | [_, _], _ => rfl
theorem b__law_bent_0 {K : PySem.W.Frag} {f : Addr} {fd : FuncData} (D : FunD K "_law_bent" "_law_bent" (defArgs s__law_bent) (defBody s__law_bent) (defScope s__law_bent) [] [] f fd) : Pd.Bt K fd ["_law_pot_here", "_law_value_here"] 2 [] [] [0, 1] :=
  Pd.bt0 D fun _ _ _ _ _ _ us ws h1 h2 => match us, h1, ws, h2 with | [_, _], _, [], _ => rfl
theorem bl_b__law_bent_0 : ∀ l : List Nat, l.length = 2 + (([] : List PySem.Str).length + ([] : List Value).length) → (Pd.pick [0, 1] l).length = (["_law_pot_here", "_law_value_here"] : List PySem.Str).length := fun l h => match l, h with | [_, _], _ => rfl
theorem b__law_poly_0 {K : PySem.W.Frag} {f : Addr} {fd : FuncData} (D : FunD K "_law_poly" "_law_poly" (defArgs s__law_poly) (defBody s__law_poly) (defScope s__law_poly) [] [] f fd) : Pd.Bt K fd ["_law_pot_here", "_law_letters", "_law_most", "_law_deep"] 4 [] [] [0, 1, 2, 3] :=
  Pd.bt0 D fun _ _ _ _ _ _ us ws h1 h2 => match us, h1, ws, h2 with | [_, _, _, _], _, [], _ => rfl
theorem bl_b__law_poly_0 : ∀ l : List Nat, l.length = 4 + (([] : List PySem.Str).length + ([] : List Value).length) → (Pd.pick [0, 1, 2, 3] l).length = (["_law_pot_here", "_law_letters", "_law_most", "_law_deep"] : List PySem.Str).length := fun l h => match l, h with | [_, _, _, _], _ => rfl
theorem b__law_told_0 {K : PySem.W.Frag} {f : Addr} {fd : FuncData} (D : FunD K "_law_told" "_law_told" (defArgs s__law_told) (defBody s__law_told) (defScope s__law_told) [] [] f fd) : Pd.Bt K fd ["_law_sums_here"] 1 [] [] [0] :=
  Pd.bt0 D fun _ _ _ _ _ _ us ws h1 h2 => match us, h1, ws, h2 with | [_], _, [], _ => rfl
theorem bl_b__law_told_0 : ∀ l : List Nat, l.length = 1 + (([] : List PySem.Str).length + ([] : List Value).length) → (Pd.pick [0] l).length = (["_law_sums_here"] : List PySem.Str).length := fun l h => match l, h with | [_], _ => rfl
theorem b_nested_of_0 {K : PySem.W.Frag} {f : Addr} {fd : FuncData} (D : FunD K "nested_of" "nested_of" (defArgs s_nested_of) (defBody s_nested_of) (defScope s_nested_of) [] [] f fd) : Pd.Bt K fd ["many", "poly"] 2 [] [] [0, 1] :=
  Pd.bt0 D fun _ _ _ _ _ _ us ws h1 h2 => match us, h1, ws, h2 with | [_, _], _, [], _ => rfl
theorem bl_b_nested_of_0 : ∀ l : List Nat, l.length = 2 + (([] : List PySem.Str).length + ([] : List Value).length) → (Pd.pick [0, 1] l).length = (["many", "poly"] : List PySem.Str).length := fun l h => match l, h with | [_, _], _ => rfl
theorem b_poly_of_0 {K : PySem.W.Frag} {f : Addr} {fd : FuncData} (D : FunD K "poly_of" "poly_of" (defArgs s_poly_of) (defBody s_poly_of) (defScope s_poly_of) [] [] f fd) : Pd.Bt K fd ["many", "terms"] 2 [] [] [0, 1] :=
  Pd.bt0 D fun _ _ _ _ _ _ us ws h1 h2 => match us, h1, ws, h2 with | [_, _], _, [], _ => rfl
theorem bl_b_poly_of_0 : ∀ l : List Nat, l.length = 2 + (([] : List PySem.Str).length + ([] : List Value).length) → (Pd.pick [0, 1] l).length = (["many", "terms"] : List PySem.Str).length := fun l h => match l, h with | [_, _], _ => rfl
theorem b_nested_of_1 {K : PySem.W.Frag} {f : Addr} {fd : FuncData} (D : FunD K "nested_of" "nested_of" (defArgs s_nested_of) (defBody s_nested_of) (defScope s_nested_of) [] [] f fd) : Pd.Bt K fd ["many", "poly"] 0 ["poly", "many"] [] [1, 0] :=
  Pd.bt0 D fun _ _ _ _ _ _ us ws h1 h2 => match us, h1, ws, h2 with | [], _, [_, _], _ => rfl
theorem bl_b_nested_of_1 : ∀ l : List Nat, l.length = 0 + ((["poly", "many"] : List PySem.Str).length + ([] : List Value).length) → (Pd.pick [1, 0] l).length = (["many", "poly"] : List PySem.Str).length := fun l h => match l, h with | [_, _], _ => rfl
theorem b_is_nested_0 {K : PySem.W.Frag} {f : Addr} {fd : FuncData} (D : FunD K "is_nested" "is_nested" (defArgs s_is_nested) (defBody s_is_nested) (defScope s_is_nested) [] [] f fd) : Pd.Bt K fd ["many", "value"] 2 [] [] [0, 1] :=
  Pd.bt0 D fun _ _ _ _ _ _ us ws h1 h2 => match us, h1, ws, h2 with | [_, _], _, [], _ => rfl
theorem bl_b_is_nested_0 : ∀ l : List Nat, l.length = 2 + (([] : List PySem.Str).length + ([] : List Value).length) → (Pd.pick [0, 1] l).length = (["many", "value"] : List PySem.Str).length := fun l h => match l, h with | [_, _], _ => rfl
theorem b_poly_of_nested_0 {K : PySem.W.Frag} {f : Addr} {fd : FuncData} (D : FunD K "poly_of_nested" "poly_of_nested" (defArgs s_poly_of_nested) (defBody s_poly_of_nested) (defScope s_poly_of_nested) [] [] f fd) : Pd.Bt K fd ["many", "nested"] 2 [] [] [0, 1] :=
  Pd.bt0 D fun _ _ _ _ _ _ us ws h1 h2 => match us, h1, ws, h2 with | [_, _], _, [], _ => rfl
theorem bl_b_poly_of_nested_0 : ∀ l : List Nat, l.length = 2 + (([] : List PySem.Str).length + ([] : List Value).length) → (Pd.pick [0, 1] l).length = (["many", "nested"] : List PySem.Str).length := fun l h => match l, h with | [_, _], _ => rfl
theorem b__law_point_0 {K : PySem.W.Frag} {f : Addr} {fd : FuncData} (D : FunD K "_law_point" "_law_point" (defArgs s__law_point) (defBody s__law_point) (defScope s__law_point) [] [] f fd) : Pd.Bt K fd ["_law_pot_here", "_law_letters"] 2 [] [] [0, 1] :=
  Pd.bt0 D fun _ _ _ _ _ _ us ws h1 h2 => match us, h1, ws, h2 with | [_, _], _, [], _ => rfl
theorem bl_b__law_point_0 : ∀ l : List Nat, l.length = 2 + (([] : List PySem.Str).length + ([] : List Value).length) → (Pd.pick [0, 1] l).length = (["_law_pot_here", "_law_letters"] : List PySem.Str).length := fun l h => match l, h with | [_, _], _ => rfl
theorem b__law_value_0 {K : PySem.W.Frag} {f : Addr} {fd : FuncData} (D : FunD K "_law_value" "_law_value" (defArgs s__law_value) (defBody s__law_value) (defScope s__law_value) [] [] f fd) : Pd.Bt K fd ["_law_sums_here", "_law_point_here"] 2 [] [] [0, 1] :=
  Pd.bt0 D fun _ _ _ _ _ _ us ws h1 h2 => match us, h1, ws, h2 with | [_, _], _, [], _ => rfl
theorem bl_b__law_value_0 : ∀ l : List Nat, l.length = 2 + (([] : List PySem.Str).length + ([] : List Value).length) → (Pd.pick [0, 1] l).length = (["_law_sums_here", "_law_point_here"] : List PySem.Str).length := fun l h => match l, h with | [_, _], _ => rfl
theorem b_value_of_nested_0 {K : PySem.W.Frag} {f : Addr} {fd : FuncData} (D : FunD K "value_of_nested" "value_of_nested" (defArgs s_value_of_nested) (defBody s_value_of_nested) (defScope s_value_of_nested) [] [] f fd) : Pd.Bt K fd ["many", "nested", "point"] 3 [] [] [0, 1, 2] :=
  Pd.bt0 D fun _ _ _ _ _ _ us ws h1 h2 => match us, h1, ws, h2 with | [_, _, _], _, [], _ => rfl
theorem bl_b_value_of_nested_0 : ∀ l : List Nat, l.length = 3 + (([] : List PySem.Str).length + ([] : List Value).length) → (Pd.pick [0, 1, 2] l).length = (["many", "nested", "point"] : List PySem.Str).length := fun l h => match l, h with | [_, _, _], _ => rfl
theorem b_value_of_nested_1 {K : PySem.W.Frag} {f : Addr} {fd : FuncData} (D : FunD K "value_of_nested" "value_of_nested" (defArgs s_value_of_nested) (defBody s_value_of_nested) (defScope s_value_of_nested) [] [] f fd) : Pd.Bt K fd ["many", "nested", "point"] 0 ["point", "nested", "many"] [] [2, 1, 0] :=
  Pd.bt0 D fun _ _ _ _ _ _ us ws h1 h2 => match us, h1, ws, h2 with | [], _, [_, _, _], _ => rfl
theorem bl_b_value_of_nested_1 : ∀ l : List Nat, l.length = 0 + ((["point", "nested", "many"] : List PySem.Str).length + ([] : List Value).length) → (Pd.pick [2, 1, 0] l).length = (["many", "nested", "point"] : List PySem.Str).length := fun l h => match l, h with | [_, _, _], _ => rfl
theorem b_value_at_0 {K : PySem.W.Frag} {f : Addr} {fd : FuncData} (D : FunD K "value_at" "value_at" (defArgs s_value_at) (defBody s_value_at) (defScope s_value_at) [] [] f fd) : Pd.Bt K fd ["poly", "point"] 2 [] [] [0, 1] :=
  Pd.bt0 D fun _ _ _ _ _ _ us ws h1 h2 => match us, h1, ws, h2 with | [_, _], _, [], _ => rfl
theorem bl_b_value_at_0 : ∀ l : List Nat, l.length = 2 + (([] : List PySem.Str).length + ([] : List Value).length) → (Pd.pick [0, 1] l).length = (["poly", "point"] : List PySem.Str).length := fun l h => match l, h with | [_, _], _ => rfl
theorem b__law_is_nested_0 {K : PySem.W.Frag} {f : Addr} {fd : FuncData} (D : FunD K "_law_is_nested" "_law_is_nested" (defArgs s__law_is_nested) (defBody s__law_is_nested) (defScope s__law_is_nested) [] [] f fd) : Pd.Bt K fd ["_law_value_here", "_law_letters"] 2 [] [] [0, 1] :=
  Pd.bt0 D fun _ _ _ _ _ _ us ws h1 h2 => match us, h1, ws, h2 with | [_, _], _, [], _ => rfl
theorem bl_b__law_is_nested_0 : ∀ l : List Nat, l.length = 2 + (([] : List PySem.Str).length + ([] : List Value).length) → (Pd.pick [0, 1] l).length = (["_law_value_here", "_law_letters"] : List PySem.Str).length := fun l h => match l, h with | [_, _], _ => rfl
theorem b_is_nested_1 {K : PySem.W.Frag} {f : Addr} {fd : FuncData} (D : FunD K "is_nested" "is_nested" (defArgs s_is_nested) (defBody s_is_nested) (defScope s_is_nested) [] [] f fd) : Pd.Bt K fd ["many", "value"] 0 ["value", "many"] [] [1, 0] :=
  Pd.bt0 D fun _ _ _ _ _ _ us ws h1 h2 => match us, h1, ws, h2 with | [], _, [_, _], _ => rfl
theorem bl_b_is_nested_1 : ∀ l : List Nat, l.length = 0 + ((["value", "many"] : List PySem.Str).length + ([] : List Value).length) → (Pd.pick [1, 0] l).length = (["many", "value"] : List PySem.Str).length := fun l h => match l, h with | [_, _], _ => rfl
theorem b_poly_of_nested_1 {K : PySem.W.Frag} {f : Addr} {fd : FuncData} (D : FunD K "poly_of_nested" "poly_of_nested" (defArgs s_poly_of_nested) (defBody s_poly_of_nested) (defScope s_poly_of_nested) [] [] f fd) : Pd.Bt K fd ["many", "nested"] 0 ["nested", "many"] [] [1, 0] :=
  Pd.bt0 D fun _ _ _ _ _ _ us ws h1 h2 => match us, h1, ws, h2 with | [], _, [_, _], _ => rfl
theorem bl_b_poly_of_nested_1 : ∀ l : List Nat, l.length = 0 + ((["nested", "many"] : List PySem.Str).length + ([] : List Value).length) → (Pd.pick [1, 0] l).length = (["many", "nested"] : List PySem.Str).length := fun l h => match l, h with | [_, _], _ => rfl
theorem b__law_pot_0 {K : PySem.W.Frag} {f : Addr} {fd : FuncData} (D : FunD K "_law_pot" "_law_pot" (defArgs s__law_pot) (defBody s__law_pot) (defScope s__law_pot) [] [] f fd) : Pd.Bt K fd ["_law_script", "_law_k"] 2 [] [] [0, 1] :=
  Pd.bt0 D fun _ _ _ _ _ _ us ws h1 h2 => match us, h1, ws, h2 with | [_, _], _, [], _ => rfl
theorem bl_b__law_pot_0 : ∀ l : List Nat, l.length = 2 + (([] : List PySem.Str).length + ([] : List Value).length) → (Pd.pick [0, 1] l).length = (["_law_script", "_law_k"] : List PySem.Str).length := fun l h => match l, h with | [_, _], _ => rfl
theorem b__law_right_0 {K : PySem.W.Frag} {f : Addr} {fd : FuncData} (D : FunD K "_law_right" "_law_right" (defArgs s__law_right) (defBody s__law_right) (defScope s__law_right) [] [] f fd) : Pd.Bt K fd ["_law_pot_here"] 1 [] [] [0] :=
  Pd.bt0 D fun _ _ _ _ _ _ us ws h1 h2 => match us, h1, ws, h2 with | [_], _, [], _ => rfl
section
variable {P : Program} {w : World} {K : PySem.W.Frag} {mg : Str → Option Value} {base : Heap}
theorem ok__law_pot (T : Tx K mg) : Pd.FnP P w K mg base 1 T.a__law_pot T.d__law_pot ["_law_script", "_law_k"] m__law_pot := by
  exact Pd.fnp T.D__law_pot sc__law_pot fun cdv A outer s H E F hr hg => (show PSDs _ F _ (defBody s__law_pot) r__law_pot from (psd_cons (psd_set 2 sc__law_pot.nd (pd_op od_add (pd_op od_mul pd_int (pd_var 1)) pd_int))
    (psd_cons (psd_if (pt_cmp1 od_lt (pd_var 1) (pd_B (cs_len) T.n_len (pad_cons (pd_var 0) pad_nil))) (psd_one (psd_set 2 sc__law_pot.nd (pd_B (cs_abs) T.n_abs (pad_cons (pd_ix (pd_var 0) (pd_var 1)) pad_nil)))) psd_nil)
    (psd_one (psd_retO (po_lst (pad_cons (pd_B (cs_max rfl) T.n_max (pad_cons pd_int (pad_cons (pd_op od_sub (pd_var 2) (pd_op od_pow pd_int pd_int)) pad_nil))) (pad_cons (pd_op od_add (pd_op od_mod (pd_Ty (cs_int) T.n_int (pad_cons (pd_op od_add (pd_op od_add (pd_op od_mul (pd_op od_mod (pd_Ty (cs_int) T.n_int (pad_cons (pd_var 2) pad_nil)) pd_int) pd_int) (pd_op od_mul pd_int (pd_var 1))) pd_int) pad_nil)) pd_int) pd_int) pad_nil)) (len_cons (len_cons len_nil))))))))
theorem ok_is_list (T : Tx K mg) : Pd.FnP P w K mg base 1 T.a_is_list T.d_is_list ["value"] m_is_list := by
  exact Pd.fnp T.D_is_list sc_is_list fun cdv A outer s H E F hr hg => (show PSDs _ F _ (defBody s_is_list) r_is_list from (psd_one (psd_ret (pd_isi2 T.n_isinstance T.n_list T.n_tuple (pd_var 0)))))
theorem ok_is_integer (T : Tx K mg) : Pd.FnP P w K mg base 1 T.a_is_integer T.d_is_integer ["value"] m_is_integer := by
  exact Pd.fnp T.D_is_integer sc_is_integer fun cdv A outer s H E F hr hg => (show PSDs _ F _ (defBody s_is_integer) r_is_integer from (psd_one (psd_ret (pd_and (pd_isi T.n_isinstance T.n_int (pd_var 0)) (pd_one (pd_not (pd_isi T.n_isinstance T.n_bool (pd_var 0))))))))
theorem ok_is_count (T : Tx K mg) : Pd.FnP P w K mg base 2 T.a_is_count T.d_is_count ["value"] m_is_count := by
  exact Pd.fnp T.D_is_count sc_is_count fun cdv A outer s H E F hr hg => (show PSDs _ F _ (defBody s_is_count) r_is_count from (psd_one (psd_ret (pd_and (pd_call (takes_of rfl rfl rfl rfl) (ok_is_integer T) (hr.mono (by decide)) hg T.g_is_integer T.D_is_integer.kp (b_is_integer_0 T.D_is_integer) .nil (fun _ _ => rfl) (pae_d (pd_var 0) pae_nil) pke_nil (lenE_cons lenE_nil) lenE_nil (bl_b_is_integer_0)) (pd_one (pd_cmp od_ge (pd_var 0) pd_int))))))
theorem ok_is_ratio (T : Tx K mg) : Pd.FnP P w K mg base 2 T.a_is_ratio T.d_is_ratio ["value"] m_is_ratio := by
  exact Pd.fnp T.D_is_ratio sc_is_ratio fun cdv A outer s H E F hr hg => (show PSDs _ F _ (defBody s_is_ratio) r_is_ratio from (psd_cons (psd_if (PWD.pt (pw_o (ptd_not (pt_bool (pd_isi T.n_isinstance T.n_tuple (pd_var 0)))) (pw_o (pt_cmp1 (od_ne hr) (pd_B (cs_len) T.n_len (pad_cons (pd_var 0) pad_nil)) pd_int) (pw_o (ptd_not (pt_bool (pd_call (takes_of rfl rfl rfl rfl) (ok_is_integer T) (hr.mono (by decide)) hg T.g_is_integer T.D_is_integer.kp (b_is_integer_0 T.D_is_integer) .nil (fun _ _ => rfl) (pae_d (pd_ix (pd_var 0) pd_int) pae_nil) pke_nil (lenE_cons lenE_nil) lenE_nil (bl_b_is_integer_0)))) (pw_o1 (ptd_not (pt_bool (pd_call (takes_of rfl rfl rfl rfl) (ok_is_integer T) (hr.mono (by decide)) hg T.g_is_integer T.D_is_integer.kp (b_is_integer_0 T.D_is_integer) .nil (fun _ _ => rfl) (pae_d (pd_ix (pd_var 0) pd_int) pae_nil) pke_nil (lenE_cons lenE_nil) lenE_nil (bl_b_is_integer_0))))))))) (psd_one (psd_ret pd_bl)) psd_nil)
    (psd_one (psd_ret (pd_and (pd_cmp od_ge (pd_ix (pd_var 0) pd_int) pd_int) (pd_one (pd_cmp (od_eq hr) (pd_Bm (cs_gcd) T.i_gcd (pad_cons (pd_ix (pd_var 0) pd_int) (pad_cons (pd_ix (pd_var 0) pd_int) pad_nil))) pd_int)))))))
theorem ok_is_term (T : Tx K mg) : Pd.FnP P w K mg base 3 T.a_is_term T.d_is_term ["many", "value"] m_is_term := by
  exact Pd.fnp T.D_is_term sc_is_term fun cdv A outer s H E F hr hg => (show PSDs _ F _ (defBody s_is_term) r_is_term from (psd_cons (psd_if (PWD.pt (pw_o (ptd_not (pt_bool (pd_isi T.n_isinstance T.n_tuple (pd_var 1)))) (pw_o (pt_cmp1 (od_ne hr) (pd_B (cs_len) T.n_len (pad_cons (pd_var 1) pad_nil)) pd_int) (pw_o1 (ptd_not (pt_bool (pd_call (takes_of rfl rfl rfl rfl) (ok_is_ratio T) (hr.mono (by decide)) hg T.g_is_ratio T.D_is_ratio.kp (b_is_ratio_0 T.D_is_ratio) .nil (fun _ _ => rfl) (pae_d (pd_ix (pd_var 1) pd_int) pae_nil) pke_nil (lenE_cons lenE_nil) lenE_nil (bl_b_is_ratio_0)))))))) (psd_one (psd_ret pd_bl)) psd_nil)
    (psd_cons (psd_if (PWD.pt (pw_o (ptd_not (pt_bool (pd_isi T.n_isinstance T.n_tuple (pd_ix (pd_var 1) pd_int)))) (pw_o (pt_cmp1 (od_ne hr) (pd_B (cs_len) T.n_len (pad_cons (pd_ix (pd_var 1) pd_int) pad_nil)) (pd_var 0)) (pw_o1 (ptd_not (pt_bool (pd_B (cs_all rfl) T.n_all (pad_cons (pd_frz (po_comp [("one", 2)] (.n 2) rfl sc_is_term.nd (pid_seq (pd_ix (pd_var 1) pd_int)) (show BlkOk ["many", "value", "one"] (defScope s_is_term) _ _ from ⟨rfl, by decide +kernel, by decide +kernel, by decide +kernel, by decide +kernel⟩) (by first | (simp [Pd.TgtIn]; done) | (simp [Pd.TgtIn, Pd.in1]; done) | (simp [Pd.TgtIn, Pd.in1]; omega)) (fun s_ H_ C_ cl_ fp_ => (pg_name sc_is_term.nd (i := 2) rfl (by first | exact Or.inl rfl | exact Or.inr rfl))) (fun F_ s_ H_ C_ cl_ fp_ => ptsd_nil) (fun F_ s_ H_ C_ cl_ fp_ => (pd_call tk_none (ok_is_count T) (hr.mono (by decide)) hg T.g_is_count T.D_is_count.kp (b_is_count_0 T.D_is_count) .nil (fun _ _ => rfl) (pae_d (pd_var 2) pae_nil) pke_nil (lenE_cons lenE_nil) lenE_nil (bl_b_is_count_0))))) pad_nil)))))))) (psd_one (psd_ret pd_bl)) psd_nil)
    (psd_one (psd_ret (pd_cmp od_le (pd_B (cs_sum2 rfl) T.n_sum (pad_cons (pd_ix (pd_var 1) pd_int) pad_nil)) (pd_gint T.c_MOST_DEGREE)))))))
theorem ok_want_many (T : Tx K mg) : Pd.FnP P w K mg base 3 T.a_want_many T.d_want_many ["value", "most", "least"] m_want_many := by
  exact Pd.fnp T.D_want_many sc_want_many fun cdv A outer s H E F hr hg => (show PSDs _ F _ (defBody s_want_many) r_want_many from (psd_one (psd_if (PWD.pt (pw_o (ptd_not (pt_bool (pd_call (takes_of rfl rfl rfl rfl) (ok_is_count T) (hr.mono (by decide)) hg T.g_is_count T.D_is_count.kp (b_is_count_0 T.D_is_count) .nil (fun _ _ => rfl) (pae_d (pd_var 0) pae_nil) pke_nil (lenE_cons lenE_nil) lenE_nil (bl_b_is_count_0)))) (pw_o (pt_cmp1 od_lt (pd_var 0) (pd_var 2)) (pw_o1 (PWD.pt (pw_a (pt_cmp1 od_isnot2 (pd_var 1) pd_non) (pw_a1 (pt_cmp1 od_gt (pd_var 0) (pd_var 1))))))))) (psd_one psd_never) psd_nil)))
theorem ok_want_letters_many (T : Tx K mg) : Pd.FnP P w K mg base 4 T.a_want_letters_many T.d_want_letters_many ["value"] m_want_letters_many := by
  obtain ⟨_, b_want_many_0_v, b_want_many_0_b⟩ := b_want_many_0 T.D_want_many
  exact Pd.fnp T.D_want_letters_many sc_want_letters_many fun cdv A outer s H E F hr hg => (show PSDs _ F _ (defBody s_want_letters_many) r_want_letters_many from (psd_one (psd_expr (pd_call (takes_of rfl rfl rfl rfl) (ok_want_many T) (hr.mono (by decide)) hg T.g_want_many T.D_want_many.kp b_want_many_0_b b_want_many_0_v (fun _ _ => ⟨_, _, rfl, rfl, ⟨_, _, rfl, rfl, rfl⟩⟩) (pae_d (pd_var 0) (pae_d (pd_gint T.c_MOST_LETTERS_polys) (pae_d pd_int pae_nil))) pke_nil (lenE_cons (lenE_cons (lenE_cons lenE_nil))) lenE_nil (fun l h => bl_b_want_many_0 l (by rw [← b_want_many_0_v.length] at h; exact h))))))
theorem ok_told_poly (T : Tx K mg) : Pd.FnP P w K mg base 1 T.a_told_poly T.d_told_poly ["sums"] m_told_poly := by
  exact Pd.fnp T.D_told_poly sc_told_poly fun cdv A outer s H E F hr hg => (show PSDs _ F _ (defBody s_told_poly) r_told_poly from (psd_one (psd_ret (pd_tupOf T.n_tuple (pad_cons (pd_frz (po_comp [("exponents", 1)] (.n 1) rfl sc_told_poly.nd (pid_seq (pd_frz (po_sortedT T.n_sorted (pad_cons (pd_frz (po_listOfQ rfl T.n_list (pad_cons (pd_var 0) pad_nil))) pad_nil)))) (show BlkOk ["sums", "exponents"] (defScope s_told_poly) _ _ from ⟨rfl, by decide +kernel, by decide +kernel, by decide +kernel, by decide +kernel⟩) (by first | (simp [Pd.TgtIn]; done) | (simp [Pd.TgtIn, Pd.in1]; done) | (simp [Pd.TgtIn, Pd.in1]; omega)) (fun s_ H_ C_ cl_ fp_ => (pg_name sc_told_poly.nd (i := 1) rfl (by first | exact Or.inl rfl | exact Or.inr rfl))) (fun F_ s_ H_ C_ cl_ fp_ => (ptsd_one (pt_cmp1 (od_ne hr) (pd_ixQ (Pd.room_178 hr) (pd_var 0) (pd_var 1)) (pd_gtup T.t_NOUGHT)))) (fun F_ s_ H_ C_ cl_ fp_ => (pd_tup (pad_cons (pd_var 1) (pad_cons (pd_ixQ (Pd.room_178 hr) (pd_var 0) (pd_var 1)) pad_nil)) (len_cons (len_cons len_nil)))))) pad_nil)))))
theorem ok_made_ratio (T : Tx K mg) : Pd.FnP P w K mg base 1 T.a_made_ratio T.d_made_ratio ["number", "under"] m_made_ratio := by
  exact Pd.fnp T.D_made_ratio sc_made_ratio fun cdv A outer s H E F hr hg => (show PSDs _ F _ (defBody s_made_ratio) r_made_ratio from (psd_cons (psd_set 2 sc_made_ratio.nd (pd_Bm (cs_gcd) T.i_gcd (pad_cons (pd_var 0) (pad_cons (pd_var 1) pad_nil))))
    (psd_cons (psd_if (pt_cmp1 od_lt (pd_var 1) pd_int) (psd_one (psd_set 2 sc_made_ratio.nd (pd_op od_sub pd_int (pd_var 2)))) psd_nil)
    (psd_one (psd_ret (pd_tup (pad_cons (pd_op od_div (pd_var 0) (pd_var 2)) (pad_cons (pd_op od_div (pd_var 1) (pd_var 2)) pad_nil)) (len_cons (len_cons len_nil))))))))
theorem ok_add_ratios (T : Tx K mg) : Pd.FnP P w K mg base 2 T.a_add_ratios T.d_add_ratios ["one", "other"] m_add_ratios := by
  exact Pd.fnp T.D_add_ratios sc_add_ratios fun cdv A outer s H E F hr hg => (show PSDs _ F _ (defBody s_add_ratios) r_add_ratios from (psd_one (psd_ret (pd_call (takes_of rfl rfl rfl rfl) (ok_made_ratio T) (hr.mono (by decide)) hg T.g_made_ratio T.D_made_ratio.kp (b_made_ratio_0 T.D_made_ratio) .nil (fun _ _ => rfl) (pae_d (pd_op od_add (pd_op od_mul (pd_ix (pd_var 0) pd_int) (pd_ix (pd_var 1) pd_int)) (pd_op od_mul (pd_ix (pd_var 1) pd_int) (pd_ix (pd_var 0) pd_int))) (pae_d (pd_op od_mul (pd_ix (pd_var 0) pd_int) (pd_ix (pd_var 1) pd_int)) pae_nil)) pke_nil (lenE_cons (lenE_cons lenE_nil)) lenE_nil (bl_b_made_ratio_0)))))
theorem ok_put_more (T : Tx K mg) : Pd.FnPW P w K mg base 3 T.a_put_more T.d_put_more ["sums", "exponents", "ratio"] m_put_more := by
  exact Pd.fnpW T.D_put_more sc_put_more fun cdv A outer s H E F hr hg => (show PSDs _ F _ (defBody s_put_more) r_put_more from (psd_one (psd_putQ 0 (Pd.room_178 hr) (pd_call (takes_of rfl rfl rfl rfl) (ok_add_ratios T) (hr.mono (by decide)) hg T.g_add_ratios T.D_add_ratios.kp (b_add_ratios_0 T.D_add_ratios) .nil (fun _ _ => rfl) (pae_d (pd_getW 0 (Pd.room_178 hr) (pd_var 1) (pd_gtup T.t_NOUGHT)) (pae_d (pd_var 2) pae_nil)) pke_nil (lenE_cons (lenE_cons lenE_nil)) lenE_nil (bl_b_add_ratios_0)) (pd_var 1))))
theorem ok_want_at_most (T : Tx K mg) : Pd.FnP P w K mg base 1 T.a_want_at_most T.d_want_at_most ["what", "limit", "number"] m_want_at_most := by
  exact Pd.fnp T.D_want_at_most sc_want_at_most fun cdv A outer s H E F hr hg => (show PSDs _ F _ (defBody s_want_at_most) r_want_at_most from (psd_one (psd_if (pt_cmp1 od_gt (pd_var 2) (pd_var 1)) (psd_one psd_never) psd_nil)))
theorem ok_degree_of (T : Tx K mg) : Pd.FnP P w K mg base 1 T.a_degree_of T.d_degree_of ["poly"] m_degree_of := by
  exact Pd.fnp T.D_degree_of sc_degree_of fun cdv A outer s H E F hr hg => (show PSDs _ F _ (defBody s_degree_of) r_degree_of from (psd_one (psd_ret (pd_B (cs_max rfl) T.n_max (pad_cons (pd_op od_add3 (pd_frz (po_comp [("exponents", 1), ("ratio", 2)] (.t [1, 2]) rfl sc_degree_of.nd (pid_seq (pd_var 0)) (show BlkOk ["poly", "exponents", "ratio"] (defScope s_degree_of) _ _ from ⟨rfl, by decide +kernel, by decide +kernel, by decide +kernel, by decide +kernel⟩) (by first | (simp [Pd.TgtIn]; done) | (simp [Pd.TgtIn, Pd.in1]; done) | (simp [Pd.TgtIn, Pd.in1]; omega)) (fun s_ H_ C_ cl_ fp_ => (pg_tup rfl (pgts_cons (i := 1) sc_degree_of.nd (pgts_cons (i := 2) sc_degree_of.nd pgts_nil)))) (fun F_ s_ H_ C_ cl_ fp_ => ptsd_nil) (fun F_ s_ H_ C_ cl_ fp_ => (pd_B (cs_sum2 rfl) T.n_sum (pad_cons (pd_var 1) pad_nil))))) (pd_frz (po_lst (pad_cons pd_int pad_nil) (len_cons len_nil)))) pad_nil)))))
theorem ok_want_few (T : Tx K mg) : Pd.FnP P w K mg base 2 T.a_want_few T.d_want_few ["poly"] m_want_few := by
  exact Pd.fnp T.D_want_few sc_want_few fun cdv A outer s H E F hr hg => (show PSDs _ F _ (defBody s_want_few) r_want_few from (psd_cons (psd_expr (pd_call (takes_of rfl rfl rfl rfl) (ok_want_at_most T) (hr.mono (by decide)) hg T.g_want_at_most T.D_want_at_most.kp (b_want_at_most_0 T.D_want_at_most) .nil (fun _ _ => rfl) (pae_d pd_str (pae_d (pd_gint T.c_MOST_DEGREE) (pae_d (pd_call (takes_of rfl rfl rfl rfl) (ok_degree_of T) (hr.mono (by decide)) hg T.g_degree_of T.D_degree_of.kp (b_degree_of_0 T.D_degree_of) .nil (fun _ _ => rfl) (pae_d (pd_var 0) pae_nil) pke_nil (lenE_cons lenE_nil) lenE_nil (bl_b_degree_of_0)) pae_nil))) pke_nil (lenE_cons (lenE_cons (lenE_cons lenE_nil))) lenE_nil (bl_b_want_at_most_0)))
    (psd_cons (psd_expr (pd_call (takes_of rfl rfl rfl rfl) (ok_want_at_most T) (hr.mono (by decide)) hg T.g_want_at_most T.D_want_at_most.kp (b_want_at_most_0 T.D_want_at_most) .nil (fun _ _ => rfl) (pae_d pd_str (pae_d (pd_gint T.c_MOST_TERMS) (pae_d (pd_B (cs_len) T.n_len (pad_cons (pd_var 0) pad_nil)) pae_nil))) pke_nil (lenE_cons (lenE_cons (lenE_cons lenE_nil))) lenE_nil (bl_b_want_at_most_0)))
    (psd_one (psd_ret (pd_var 0))))))
theorem ok_poly_of (T : Tx K mg) : Pd.FnP P w K mg base 5 T.a_poly_of T.d_poly_of ["many", "terms"] m_poly_of := by
  exact Pd.fnp T.D_poly_of sc_poly_of fun cdv A outer s H E F hr hg => (show PSDs _ F _ (defBody s_poly_of) r_poly_of from (psd_cons (psd_expr (pd_call (takes_of rfl rfl rfl rfl) (ok_want_letters_many T) (hr.mono (by decide)) hg T.g_want_letters_many T.D_want_letters_many.kp (b_want_letters_many_0 T.D_want_letters_many) .nil (fun _ _ => rfl) (pae_d (pd_var 0) pae_nil) pke_nil (lenE_cons lenE_nil) lenE_nil (bl_b_want_letters_many_0)))
    (psd_cons (psd_if (PWD.pt (pw_o (ptd_not (pt_bool (pd_call (takes_of rfl rfl rfl rfl) (ok_is_list T) (hr.mono (by decide)) hg T.g_is_list T.D_is_list.kp (b_is_list_0 T.D_is_list) .nil (fun _ _ => rfl) (pae_d (pd_var 1) pae_nil) pke_nil (lenE_cons lenE_nil) lenE_nil (bl_b_is_list_0)))) (pw_o (pt_cmp1 od_gt (pd_B (cs_len) T.n_len (pad_cons (pd_var 1) pad_nil)) (pd_gint T.c_MOST_PASSED)) (pw_o1 (ptd_not (pt_bool (pd_B (cs_all rfl) T.n_all (pad_cons (pd_frz (po_comp [("one", 2)] (.n 2) rfl sc_poly_of.nd (pid_seq (pd_var 1)) (show BlkOk ["many", "terms", "one", "sums", "exponents", "ratio"] (defScope s_poly_of) _ _ from ⟨rfl, by decide +kernel, by decide +kernel, by decide +kernel, by decide +kernel⟩) (by first | (simp [Pd.TgtIn]; done) | (simp [Pd.TgtIn, Pd.in1]; done) | (simp [Pd.TgtIn, Pd.in1]; omega)) (fun s_ H_ C_ cl_ fp_ => (pg_name sc_poly_of.nd (i := 2) rfl (by first | exact Or.inl rfl | exact Or.inr rfl))) (fun F_ s_ H_ C_ cl_ fp_ => ptsd_nil) (fun F_ s_ H_ C_ cl_ fp_ => (pd_call tk_none (ok_is_term T) (hr.mono (by decide)) hg T.g_is_term T.D_is_term.kp (b_is_term_0 T.D_is_term) .nil (fun _ _ => rfl) (pae_d (pd_var 0) (pae_d (pd_var 2) pae_nil)) pke_nil (lenE_cons (lenE_cons lenE_nil)) lenE_nil (bl_b_is_term_0))))) pad_nil)))))))) (psd_one psd_never) psd_nil)
    (psd_cons (psd_setQ 3 sc_poly_of.nd pq_emp)
    (psd_cons (psd_for (passes_of rfl) rfl (pid_seq (pd_var 1)) (pgt_tup rfl (pgts_cons (i := 4) sc_poly_of.nd (pgts_cons (i := 5) sc_poly_of.nd pgts_nil))) (psd_one (psd_callW 3 (takes_of rfl rfl rfl rfl) (ok_put_more T) (hr.mono (by decide)) hg T.g_put_more T.D_put_more.kp (b_put_more_0 T.D_put_more) rfl (pae_d (pd_var 4) (pae_d (pd_var 5) pae_nil)) (lenE_cons (lenE_cons lenE_nil)))))
    (psd_one (psd_frzQ 3 (psd_ret (pd_call (takes_of rfl rfl rfl rfl) (ok_want_few T) (hr.mono (by decide)) hg T.g_want_few T.D_want_few.kp (b_want_few_0 T.D_want_few) .nil (fun _ _ => rfl) (pae_d (pd_call (takes_of rfl rfl rfl rfl) (ok_told_poly T) (hr.mono (by decide)) hg T.g_told_poly T.D_told_poly.kp (b_told_poly_0 T.D_told_poly) .nil (fun _ _ => rfl) (pae_d (pd_var 3) pae_nil) pke_nil (lenE_cons lenE_nil) lenE_nil (bl_b_told_poly_0)) pae_nil) pke_nil (lenE_cons lenE_nil) lenE_nil (bl_b_want_few_0))))))))))
theorem ok_letters_of (T : Tx K mg) : Pd.FnP P w K mg base 1 T.a_letters_of T.d_letters_of ["poly"] m_letters_of := by
  exact Pd.fnp T.D_letters_of sc_letters_of fun cdv A outer s H E F hr hg => (show PSDs _ F _ (defBody s_letters_of) r_letters_of from (psd_one (psd_ret (pd_ife (pt_cmp1 (od_ne hr) (pd_var 0) (pd_tup pad_nil len_nil)) (pd_B (cs_len) T.n_len (pad_cons (pd_ix (pd_ix (pd_var 0) pd_int) pd_int) pad_nil)) pd_non))))
theorem ok_is_poly_in (T : Tx K mg) : Pd.FnP P w K mg base 4 T.a_is_poly_in T.d_is_poly_in ["many", "value"] m_is_poly_in := by
  exact Pd.fnp T.D_is_poly_in sc_is_poly_in fun cdv A outer s H E F hr hg => (show PSDs _ F _ (defBody s_is_poly_in) r_is_poly_in from (psd_cons (psd_if (PWD.pt (pw_o (ptd_not (pt_bool (pd_isi T.n_isinstance T.n_tuple (pd_var 1)))) (pw_o (pt_cmp1 od_gt (pd_B (cs_len) T.n_len (pad_cons (pd_var 1) pad_nil)) (pd_gint T.c_MOST_TERMS)) (pw_o1 (ptd_not (pt_bool (pd_B (cs_all rfl) T.n_all (pad_cons (pd_frz (po_comp [("one", 2)] (.n 2) rfl sc_is_poly_in.nd (pid_seq (pd_var 1)) (show BlkOk ["many", "value", "one", "exponents", "ratio", "other"] (defScope s_is_poly_in) _ _ from ⟨rfl, by decide +kernel, by decide +kernel, by decide +kernel, by decide +kernel⟩) (by first | (simp [Pd.TgtIn]; done) | (simp [Pd.TgtIn, Pd.in1]; done) | (simp [Pd.TgtIn, Pd.in1]; omega)) (fun s_ H_ C_ cl_ fp_ => (pg_name sc_is_poly_in.nd (i := 2) rfl (by first | exact Or.inl rfl | exact Or.inr rfl))) (fun F_ s_ H_ C_ cl_ fp_ => ptsd_nil) (fun F_ s_ H_ C_ cl_ fp_ => (pd_call tk_none (ok_is_term T) (hr.mono (by decide)) hg T.g_is_term T.D_is_term.kp (b_is_term_0 T.D_is_term) .nil (fun _ _ => rfl) (pae_d (pd_var 0) (pae_d (pd_var 2) pae_nil)) pke_nil (lenE_cons (lenE_cons lenE_nil)) lenE_nil (bl_b_is_term_0))))) pad_nil)))))))) (psd_one (psd_ret pd_bl)) psd_nil)
    (psd_cons (psd_if (pt_bool (pd_B (cs_any rfl) T.n_any (pad_cons (pd_frz (po_comp [("exponents", 3), ("ratio", 4)] (.t [3, 4]) rfl sc_is_poly_in.nd (pid_seq (pd_var 1)) (show BlkOk ["many", "value", "one", "exponents", "ratio", "other"] (defScope s_is_poly_in) _ _ from ⟨rfl, by decide +kernel, by decide +kernel, by decide +kernel, by decide +kernel⟩) (by first | (simp [Pd.TgtIn]; done) | (simp [Pd.TgtIn, Pd.in1]; done) | (simp [Pd.TgtIn, Pd.in1]; omega)) (fun s_ H_ C_ cl_ fp_ => (pg_tup rfl (pgts_cons (i := 3) sc_is_poly_in.nd (pgts_cons (i := 4) sc_is_poly_in.nd pgts_nil)))) (fun F_ s_ H_ C_ cl_ fp_ => ptsd_nil) (fun F_ s_ H_ C_ cl_ fp_ => (pd_cmp (od_eq hr) (pd_var 4) (pd_gtup T.t_NOUGHT))))) pad_nil))) (psd_one (psd_ret pd_bl)) psd_nil)
    (psd_one (psd_ret (pd_B (cs_all rfl) T.n_all (pad_cons (pd_frz (po_comp [("one", 2), ("other", 5)] (.t [2, 5]) rfl sc_is_poly_in.nd (pid_zip T.n_zip (pad_cons (pd_var 1) (pad_cons (pd_sl (pd_var 1) (pp_some pd_int) pp_none) pad_nil))) (show BlkOk ["many", "value", "one", "exponents", "ratio", "other"] (defScope s_is_poly_in) _ _ from ⟨rfl, by decide +kernel, by decide +kernel, by decide +kernel, by decide +kernel⟩) (by first | (simp [Pd.TgtIn]; done) | (simp [Pd.TgtIn, Pd.in1]; done) | (simp [Pd.TgtIn, Pd.in1]; omega)) (fun s_ H_ C_ cl_ fp_ => (pg_tup rfl (pgts_cons (i := 2) sc_is_poly_in.nd (pgts_cons (i := 5) sc_is_poly_in.nd pgts_nil)))) (fun F_ s_ H_ C_ cl_ fp_ => ptsd_nil) (fun F_ s_ H_ C_ cl_ fp_ => (pd_cmp (od_lt2 (Pd.room_178 hr)) (pd_ix (pd_var 2) pd_int) (pd_ix (pd_var 5) pd_int))))) pad_nil)))))))
theorem ok_is_any_poly (T : Tx K mg) : Pd.FnP P w K mg base 5 T.a_is_any_poly T.d_is_any_poly ["value"] m_is_any_poly := by
  exact Pd.fnp T.D_is_any_poly sc_is_any_poly fun cdv A outer s H E F hr hg => (show PSDs _ F _ (defBody s_is_any_poly) r_is_any_poly from (psd_cons (psd_if (PWD.pt (pw_o (ptd_not (pt_bool (pd_isi T.n_isinstance T.n_tuple (pd_var 0)))) (pw_o1 (pt_cmp1 (od_eq hr) (pd_var 0) (pd_tup pad_nil len_nil))))) (psd_one (psd_ret (pd_and (pd_cmp (od_eq hr) (pd_var 0) (pd_tup pad_nil len_nil)) (pd_one (pd_isi T.n_isinstance T.n_tuple (pd_var 0)))))) psd_nil)
    (psd_cons (psd_set 1 sc_is_any_poly.nd (pd_ix (pd_var 0) pd_int))
    (psd_cons (psd_if (PWD.pt (pw_o (ptd_not (pt_bool (pd_isi T.n_isinstance T.n_tuple (pd_var 1)))) (pw_o (pt_cmp1 (od_ne hr) (pd_B (cs_len) T.n_len (pad_cons (pd_var 1) pad_nil)) pd_int) (pw_o1 (ptd_not (pt_bool (pd_isi T.n_isinstance T.n_tuple (pd_ix (pd_var 1) pd_int)))))))) (psd_one (psd_ret pd_bl)) psd_nil)
    (psd_one (psd_ret (pd_and (pd_chn pd_int (pcd_link od_le (pd_B (cs_len) T.n_len (pad_cons (pd_ix (pd_var 1) pd_int) pad_nil)) (pcd_last od_le (pd_gint T.c_MOST_LETTERS_polys)))) (pd_one (pd_call (takes_of rfl rfl rfl rfl) (ok_is_poly_in T) (hr.mono (by decide)) hg T.g_is_poly_in T.D_is_poly_in.kp (b_is_poly_in_0 T.D_is_poly_in) .nil (fun _ _ => rfl) (pae_d (pd_B (cs_len) T.n_len (pad_cons (pd_ix (pd_var 1) pd_int) pad_nil)) (pae_d (pd_var 0) pae_nil)) pke_nil (lenE_cons (lenE_cons lenE_nil)) lenE_nil (bl_b_is_poly_in_0))))))))))
theorem ok_want_poly (T : Tx K mg) : Pd.FnP P w K mg base 6 T.a_want_poly T.d_want_poly ["value"] m_want_poly := by
  exact Pd.fnp T.D_want_poly sc_want_poly fun cdv A outer s H E F hr hg => (show PSDs _ F _ (defBody s_want_poly) r_want_poly from (psd_one (psd_if (ptd_not (pt_bool (pd_call (takes_of rfl rfl rfl rfl) (ok_is_any_poly T) (hr.mono (by decide)) hg T.g_is_any_poly T.D_is_any_poly.kp (b_is_any_poly_0 T.D_is_any_poly) .nil (fun _ _ => rfl) (pae_d (pd_var 0) pae_nil) pke_nil (lenE_cons lenE_nil) lenE_nil (bl_b_is_any_poly_0)))) (psd_one psd_never) psd_nil)))
theorem ok_is_point (T : Tx K mg) : Pd.FnP P w K mg base 3 T.a_is_point T.d_is_point ["value"] m_is_point := by
  exact Pd.fnp T.D_is_point sc_is_point fun cdv A outer s H E F hr hg => (show PSDs _ F _ (defBody s_is_point) r_is_point from (psd_one (psd_ret (pd_and (pd_isi T.n_isinstance T.n_tuple (pd_var 0)) (pd_and (pd_chn pd_int (pcd_link od_le (pd_B (cs_len) T.n_len (pad_cons (pd_var 0) pad_nil)) (pcd_last od_le (pd_gint T.c_MOST_LETTERS_boxes)))) (pd_one (pd_B (cs_all rfl) T.n_all (pad_cons (pd_frz (po_comp [("one", 1)] (.n 1) rfl sc_is_point.nd (pid_seq (pd_var 0)) (show BlkOk ["value", "one"] (defScope s_is_point) _ _ from ⟨rfl, by decide +kernel, by decide +kernel, by decide +kernel, by decide +kernel⟩) (by first | (simp [Pd.TgtIn]; done) | (simp [Pd.TgtIn, Pd.in1]; done) | (simp [Pd.TgtIn, Pd.in1]; omega)) (fun s_ H_ C_ cl_ fp_ => (pg_name sc_is_point.nd (i := 1) rfl (by first | exact Or.inl rfl | exact Or.inr rfl))) (fun F_ s_ H_ C_ cl_ fp_ => ptsd_nil) (fun F_ s_ H_ C_ cl_ fp_ => (pd_call tk_none (ok_is_ratio T) (hr.mono (by decide)) hg T.g_is_ratio T.D_is_ratio.kp (b_is_ratio_0 T.D_is_ratio) .nil (fun _ _ => rfl) (pae_d (pd_var 1) pae_nil) pke_nil (lenE_cons lenE_nil) lenE_nil (bl_b_is_ratio_0))))) pad_nil))))))))
theorem ok_want_point_for (T : Tx K mg) : Pd.FnP P w K mg base 4 T.a_want_point_for T.d_want_point_for ["many", "value"] m_want_point_for := by
  exact Pd.fnp T.D_want_point_for sc_want_point_for fun cdv A outer s H E F hr hg => (show PSDs _ F _ (defBody s_want_point_for) r_want_point_for from (psd_one (psd_if (PWD.pt (pw_o (ptd_not (pt_bool (pd_call (takes_of rfl rfl rfl rfl) (ok_is_point T) (hr.mono (by decide)) hg T.g_is_point T.D_is_point.kp (b_is_point_0 T.D_is_point) .nil (fun _ _ => rfl) (pae_d (pd_var 1) pae_nil) pke_nil (lenE_cons lenE_nil) lenE_nil (bl_b_is_point_0)))) (pw_o1 (PWD.pt (pw_a (pt_cmp1 od_isnot2 (pd_var 0) pd_non) (pw_a1 (pt_cmp1 (od_ne hr) (pd_B (cs_len) T.n_len (pad_cons (pd_var 1) pad_nil)) (pd_var 0)))))))) (psd_one psd_never) psd_nil)))
theorem ok_mul_ratios (T : Tx K mg) : Pd.FnP P w K mg base 2 T.a_mul_ratios T.d_mul_ratios ["one", "other"] m_mul_ratios := by
  exact Pd.fnp T.D_mul_ratios sc_mul_ratios fun cdv A outer s H E F hr hg => (show PSDs _ F _ (defBody s_mul_ratios) r_mul_ratios from (psd_one (psd_ret (pd_call (takes_of rfl rfl rfl rfl) (ok_made_ratio T) (hr.mono (by decide)) hg T.g_made_ratio T.D_made_ratio.kp (b_made_ratio_0 T.D_made_ratio) .nil (fun _ _ => rfl) (pae_d (pd_op od_mul (pd_ix (pd_var 0) pd_int) (pd_ix (pd_var 1) pd_int)) (pae_d (pd_op od_mul (pd_ix (pd_var 0) pd_int) (pd_ix (pd_var 1) pd_int)) pae_nil)) pke_nil (lenE_cons (lenE_cons lenE_nil)) lenE_nil (bl_b_made_ratio_0)))))
theorem ok_power_ratio (T : Tx K mg) : Pd.FnP P w K mg base 3 T.a_power_ratio T.d_power_ratio ["ratio", "many"] m_power_ratio := by
  exact Pd.fnp T.D_power_ratio sc_power_ratio fun cdv A outer s H E F hr hg => (show PSDs _ F _ (defBody s_power_ratio) r_power_ratio from (psd_cons (psd_set 2 sc_power_ratio.nd (pd_gtup T.t_WHOLE))
    (psd_cons (psd_for (passes_of rfl) rfl (pid_rng1 T.n_range (pad_cons (pd_var 1) pad_nil)) (pgt_name sc_power_ratio.nd (i := 3)) (psd_one (psd_set 2 sc_power_ratio.nd (pd_call (takes_of rfl rfl rfl rfl) (ok_mul_ratios T) (hr.mono (by decide)) hg T.g_mul_ratios T.D_mul_ratios.kp (b_mul_ratios_0 T.D_mul_ratios) .nil (fun _ _ => rfl) (pae_d (pd_var 2) (pae_d (pd_var 0) pae_nil)) pke_nil (lenE_cons (lenE_cons lenE_nil)) lenE_nil (bl_b_mul_ratios_0)))))
    (psd_one (psd_ret (pd_var 2))))))
theorem ok_value_of (T : Tx K mg) : Pd.FnP P w K mg base 4 T.a_value_of T.d_value_of ["poly", "point"] m_value_of := by
  exact Pd.fnp T.D_value_of sc_value_of fun cdv A outer s H E F hr hg => (show PSDs _ F _ (defBody s_value_of) r_value_of from (psd_cons (psd_set 2 sc_value_of.nd (pd_gtup T.t_NOUGHT))
    (psd_cons (psd_for (passes_of rfl) rfl (pid_seq (pd_var 0)) (pgt_tup rfl (pgts_cons (i := 3) sc_value_of.nd (pgts_cons (i := 4) sc_value_of.nd pgts_nil))) (psd_cons (psd_set 5 sc_value_of.nd (pd_var 4))
    (psd_cons (psd_for (passes_of rfl) rfl (pid_zip T.n_zip (pad_cons (pd_var 3) (pad_cons (pd_var 1) pad_nil))) (pgt_tup rfl (pgts_cons (i := 6) sc_value_of.nd (pgts_cons (i := 7) sc_value_of.nd pgts_nil))) (psd_one (psd_if (pt_cmp1 od_gt (pd_var 6) pd_int) (psd_one (psd_set 5 sc_value_of.nd (pd_call (takes_of rfl rfl rfl rfl) (ok_mul_ratios T) (hr.mono (by decide)) hg T.g_mul_ratios T.D_mul_ratios.kp (b_mul_ratios_0 T.D_mul_ratios) .nil (fun _ _ => rfl) (pae_d (pd_var 5) (pae_d (pd_call (takes_of rfl rfl rfl rfl) (ok_power_ratio T) (hr.mono (by decide)) hg T.g_power_ratio T.D_power_ratio.kp (b_power_ratio_0 T.D_power_ratio) .nil (fun _ _ => rfl) (pae_d (pd_var 7) (pae_d (pd_var 6) pae_nil)) pke_nil (lenE_cons (lenE_cons lenE_nil)) lenE_nil (bl_b_power_ratio_0)) pae_nil)) pke_nil (lenE_cons (lenE_cons lenE_nil)) lenE_nil (bl_b_mul_ratios_0)))) psd_nil)))
    (psd_one (psd_set 2 sc_value_of.nd (pd_call (takes_of rfl rfl rfl rfl) (ok_add_ratios T) (hr.mono (by decide)) hg T.g_add_ratios T.D_add_ratios.kp (b_add_ratios_0 T.D_add_ratios) .nil (fun _ _ => rfl) (pae_d (pd_var 2) (pae_d (pd_var 5) pae_nil)) pke_nil (lenE_cons (lenE_cons lenE_nil)) lenE_nil (bl_b_add_ratios_0)))))))
    (psd_one (psd_ret (pd_var 2))))))
theorem ok_value_at (T : Tx K mg) : Pd.FnP P w K mg base 7 T.a_value_at T.d_value_at ["poly", "point"] m_value_at := by
  exact Pd.fnp T.D_value_at sc_value_at fun cdv A outer s H E F hr hg => (show PSDs _ F _ (defBody s_value_at) r_value_at from (psd_cons (psd_expr (pd_call (takes_of rfl rfl rfl rfl) (ok_want_poly T) (hr.mono (by decide)) hg T.g_want_poly T.D_want_poly.kp (b_want_poly_0 T.D_want_poly) .nil (fun _ _ => rfl) (pae_d (pd_var 0) pae_nil) pke_nil (lenE_cons lenE_nil) lenE_nil (bl_b_want_poly_0)))
    (psd_cons (psd_expr (pd_call (takes_of rfl rfl rfl rfl) (ok_want_point_for T) (hr.mono (by decide)) hg T.g_want_point_for T.D_want_point_for.kp (b_want_point_for_0 T.D_want_point_for) .nil (fun _ _ => rfl) (pae_d (pd_call (takes_of rfl rfl rfl rfl) (ok_letters_of T) (hr.mono (by decide)) hg T.g_letters_of T.D_letters_of.kp (b_letters_of_0 T.D_letters_of) .nil (fun _ _ => rfl) (pae_d (pd_var 0) pae_nil) pke_nil (lenE_cons lenE_nil) lenE_nil (bl_b_letters_of_0)) (pae_d (pd_var 1) pae_nil)) pke_nil (lenE_cons (lenE_cons lenE_nil)) lenE_nil (bl_b_want_point_for_0)))
    (psd_one (psd_ret (pd_call (takes_of rfl rfl rfl rfl) (ok_value_of T) (hr.mono (by decide)) hg T.g_value_of T.D_value_of.kp (b_value_of_0 T.D_value_of) .nil (fun _ _ => rfl) (pae_d (pd_var 0) (pae_d (pd_var 1) pae_nil)) pke_nil (lenE_cons (lenE_cons lenE_nil)) lenE_nil (bl_b_value_of_0)))))))
theorem ok_nested_from (T : Tx K mg) : ∀ n, Pd.FnP P w K mg base (1 + n) T.a_nested_from T.d_nested_from ["terms", "left"] (m_nested_from n)
  | 0 => Pd.FnP.none
  | n + 1 => by
    exact Pd.fnp T.D_nested_from sc_nested_from fun cdv A outer s H E F hr hg => (show PSDs _ F _ (defBody s_nested_from) (r_nested_from (m_nested_from n)) from (psd_cons (psd_if (pt_cmp1 (od_eq hr) (pd_var 1) pd_int) (psd_one (psd_ret (pd_ife (pt_cmp1 (od_ne hr) (pd_var 0) (pd_frz (po_lst pad_nil len_nil))) (pd_ix (pd_ix (pd_var 0) pd_int) pd_int) (pd_gtup T.t_NOUGHT)))) psd_nil)
    (psd_cons (psd_parDO (i := 2) (j := 3) rfl sc_nested_from.nd (pd_B (cs_max rfl) T.n_max (pad_cons (pd_op od_add3 (pd_frz (po_lst (pad_cons pd_int pad_nil) (len_cons len_nil))) (pd_frz (po_comp [("exponents", 4), ("ratio", 5)] (.t [4, 5]) rfl sc_nested_from.nd (pid_seq (pd_var 0)) (show BlkOk ["terms", "left", "greatest", "found", "exponents", "ratio", "often", "some"] (defScope s_nested_from) _ _ from ⟨rfl, by decide +kernel, by decide +kernel, by decide +kernel, by decide +kernel⟩) (by first | (simp [Pd.TgtIn]; done) | (simp [Pd.TgtIn, Pd.in1]; done) | (simp [Pd.TgtIn, Pd.in1]; omega)) (fun s_ H_ C_ cl_ fp_ => (pg_tup rfl (pgts_cons (i := 4) sc_nested_from.nd (pgts_cons (i := 5) sc_nested_from.nd pgts_nil)))) (fun F_ s_ H_ C_ cl_ fp_ => ptsd_nil) (fun F_ s_ H_ C_ cl_ fp_ => (pd_ix (pd_var 4) pd_int))))) pad_nil)) (po_lst pad_nil len_nil))
    (psd_cons (psd_for (passes_of rfl) rfl (pid_rng1 T.n_range (pad_cons (pd_op od_add (pd_var 2) pd_int) pad_nil)) (pgt_name sc_nested_from.nd (i := 6)) (psd_cons (psd_setC 7 [("exponents", 4), ("ratio", 5)] (.t [4, 5]) rfl sc_nested_from.nd (pid_seq (pd_var 0)) (show BlkOk ["terms", "left", "greatest", "found", "exponents", "ratio", "often", "some"] (defScope s_nested_from) _ _ from ⟨rfl, by decide +kernel, by decide +kernel, by decide +kernel, by decide +kernel⟩) (by first | (simp [Pd.TgtIn]; done) | (simp [Pd.TgtIn, Pd.in1]; done) | (simp [Pd.TgtIn, Pd.in1]; omega)) (fun s_ H_ C_ cl_ fp_ => (pg_tup rfl (pgts_cons (i := 4) sc_nested_from.nd (pgts_cons (i := 5) sc_nested_from.nd pgts_nil)))) (fun F_ s_ H_ C_ cl_ fp_ => (ptsd_one (pt_cmp1 (od_eq hr) (pd_ix (pd_var 4) pd_int) (pd_var 6)))) (fun F_ s_ H_ C_ cl_ fp_ => (pd_tup (pad_cons (pd_sl (pd_var 4) (pp_some pd_int) pp_none) (pad_cons (pd_var 5) pad_nil)) (len_cons (len_cons len_nil)))) (sw_true rfl rfl rfl (by decide +kernel)))
    (psd_one (psd_app 3 (pd_call (takes_of rfl rfl rfl rfl) (ok_nested_from T n) (hr.mono (by first | exact Nat.le_refl _ | exact Nat.le_trans (by decide) (Nat.le_add_right _ _))) hg T.g_nested_from T.D_nested_from.kp (b_nested_from_0 T.D_nested_from) .nil (fun _ _ => rfl) (pae_d (pd_var 7) (pae_d (pd_op od_sub (pd_var 1) pd_int) pae_nil)) pke_nil (lenE_cons (lenE_cons lenE_nil)) lenE_nil (bl_b_nested_from_0))))))
    (psd_one (psd_frz 3 (psd_ret (pd_tupOf T.n_tuple (pad_cons (pd_var 3) pad_nil)))))))))
theorem ok_terms_from (T : Tx K mg) : ∀ n, Pd.FnP P w K mg base (1 + n) T.a_terms_from T.d_terms_from ["nested", "left"] (m_terms_from n)
  | 0 => Pd.FnP.none
  | n + 1 => by
    exact Pd.fnp T.D_terms_from sc_terms_from fun cdv A outer s H E F hr hg => (show PSDs _ F _ (defBody s_terms_from) (r_terms_from (m_terms_from n)) from (psd_cons (psd_if (pt_cmp1 (od_eq hr) (pd_var 1) pd_int) (psd_one (psd_retO (po_lst (pad_cons (pd_tup (pad_cons (pd_tup pad_nil len_nil) (pad_cons (pd_var 0) pad_nil)) (len_cons (len_cons len_nil))) pad_nil) (len_cons len_nil)))) psd_nil)
    (psd_cons (psd_setO 2 sc_terms_from.nd (po_lst pad_nil len_nil))
    (psd_cons (psd_for (passes_of rfl) rfl (pid_enum2 T.n_enumerate (pad_cons (pd_var 0) pad_nil)) (pgt_tup rfl (pgts_cons (i := 3) sc_terms_from.nd (pgts_cons (i := 4) sc_terms_from.nd pgts_nil))) (psd_one (psd_ext 2 (po_comp [("exponents", 5), ("ratio", 6)] (.t [5, 6]) rfl sc_terms_from.nd (pid_seq (pd_call (takes_of rfl rfl rfl rfl) (ok_terms_from T n) (hr.mono (by first | exact Nat.le_refl _ | exact Nat.le_trans (by decide) (Nat.le_add_right _ _))) hg T.g_terms_from T.D_terms_from.kp (b_terms_from_0 T.D_terms_from) .nil (fun _ _ => rfl) (pae_d (pd_var 4) (pae_d (pd_op od_sub (pd_var 1) pd_int) pae_nil)) pke_nil (lenE_cons (lenE_cons lenE_nil)) lenE_nil (bl_b_terms_from_0))) (show BlkOk ["nested", "left", "found", "often", "inner", "exponents", "ratio"] (defScope s_terms_from) _ _ from ⟨rfl, by decide +kernel, by decide +kernel, by decide +kernel, by decide +kernel⟩) (by first | (simp [Pd.TgtIn]; done) | (simp [Pd.TgtIn, Pd.in1]; done) | (simp [Pd.TgtIn, Pd.in1]; omega)) (fun s_ H_ C_ cl_ fp_ => (pg_tup rfl (pgts_cons (i := 5) sc_terms_from.nd (pgts_cons (i := 6) sc_terms_from.nd pgts_nil)))) (fun F_ s_ H_ C_ cl_ fp_ => ptsd_nil) (fun F_ s_ H_ C_ cl_ fp_ => (pd_tup (pad_cons (pd_op od_add3 (pd_tup (pad_cons (pd_var 3) pad_nil) (len_cons len_nil)) (pd_var 5)) (pad_cons (pd_var 6) pad_nil)) (len_cons (len_cons len_nil))))))))
    (psd_one (psd_retV 2))))))
theorem ok_poly_from (T : Tx K mg) : Pd.FnP P w K mg base 14 T.a_poly_from T.d_poly_from ["nested", "many"] m_poly_from := by
  exact Pd.fnp T.D_poly_from sc_poly_from fun cdv A outer s H E F hr hg => (show PSDs _ F _ (defBody s_poly_from) r_poly_from from (psd_one (psd_ret (pd_call (takes_of rfl rfl rfl rfl) (ok_told_poly T) (hr.mono (by decide)) hg T.g_told_poly T.D_told_poly.kp (b_told_poly_0 T.D_told_poly) .nil (fun _ _ => rfl) (pae_d (pd_frzQ (pq_dictOf (Pd.room_178 hr) rfl T.n_dict (pad_cons (pd_call (takes_of rfl rfl rfl rfl) (ok_terms_from T 12) (hr.mono (by decide)) hg T.g_terms_from T.D_terms_from.kp (b_terms_from_0 T.D_terms_from) .nil (fun _ _ => rfl) (pae_d (pd_var 0) (pae_d (pd_var 1) pae_nil)) pke_nil (lenE_cons (lenE_cons lenE_nil)) lenE_nil (bl_b_terms_from_0)) pad_nil))) pae_nil) pke_nil (lenE_cons lenE_nil) lenE_nil (bl_b_told_poly_0)))))
theorem ok_has_form (T : Tx K mg) : ∀ n, Pd.FnP P w K mg base (3 + n) T.a_has_form T.d_has_form ["value", "left"] (m_has_form n)
  | 0 => Pd.FnP.none
  | n + 1 => by
    exact Pd.fnp T.D_has_form sc_has_form fun cdv A outer s H E F hr hg => (show PSDs _ F _ (defBody s_has_form) (r_has_form (m_has_form n)) from (psd_cons (psd_if (pt_cmp1 (od_eq hr) (pd_var 1) pd_int) (psd_one (psd_ret (pd_call (takes_of rfl rfl rfl rfl) (ok_is_ratio T) (hr.mono (by first | exact Nat.le_refl _ | exact Nat.le_trans (by decide) (Nat.le_add_right _ _))) hg T.g_is_ratio T.D_is_ratio.kp (b_is_ratio_0 T.D_is_ratio) .nil (fun _ _ => rfl) (pae_d (pd_var 0) pae_nil) pke_nil (lenE_cons lenE_nil) lenE_nil (bl_b_is_ratio_0)))) psd_nil)
    (psd_cons (psd_if (PWD.pt (pw_o (ptd_not (pt_bool (pd_isi T.n_isinstance T.n_tuple (pd_var 0)))) (pw_o1 (ptd_not (pt_chn pd_int (pcd_link od_le (pd_B (cs_len) T.n_len (pad_cons (pd_var 0) pad_nil)) (pcd_last od_le pd_int))))))) (psd_one (psd_ret pd_bl)) psd_nil)
    (psd_one (psd_ret (pd_B (cs_all rfl) T.n_all (pad_cons (pd_frz (po_comp [("one", 2)] (.n 2) rfl sc_has_form.nd (pid_seq (pd_var 0)) (show BlkOk ["value", "left", "one"] (defScope s_has_form) _ _ from ⟨rfl, by decide +kernel, by decide +kernel, by decide +kernel, by decide +kernel⟩) (by first | (simp [Pd.TgtIn]; done) | (simp [Pd.TgtIn, Pd.in1]; done) | (simp [Pd.TgtIn, Pd.in1]; omega)) (fun s_ H_ C_ cl_ fp_ => (pg_name sc_has_form.nd (i := 2) rfl (by first | exact Or.inl rfl | exact Or.inr rfl))) (fun F_ s_ H_ C_ cl_ fp_ => ptsd_nil) (fun F_ s_ H_ C_ cl_ fp_ => (pd_call tk_none (ok_has_form T n) (hr.mono (by first | exact Nat.le_refl _ | exact Nat.le_trans (by decide) (Nat.le_add_right _ _))) hg T.g_has_form T.D_has_form.kp (b_has_form_0 T.D_has_form) .nil (fun _ _ => rfl) (pae_d (pd_var 2) (pae_d (pd_op od_sub (pd_var 1) pd_int) pae_nil)) pke_nil (lenE_cons (lenE_cons lenE_nil)) lenE_nil (bl_b_has_form_0))))) pad_nil)))))))
theorem ok_is_nested_of (T : Tx K mg) : Pd.FnP P w K mg base 16 T.a_is_nested_of T.d_is_nested_of ["many", "value"] m_is_nested_of := by
  exact Pd.fnp T.D_is_nested_of sc_is_nested_of fun cdv A outer s H E F hr hg => (show PSDs _ F _ (defBody s_is_nested_of) r_is_nested_of from (psd_cons (psd_if (ptd_not (pt_bool (pd_call (takes_of rfl rfl rfl rfl) (ok_has_form T 12) (hr.mono (by decide)) hg T.g_has_form T.D_has_form.kp (b_has_form_0 T.D_has_form) .nil (fun _ _ => rfl) (pae_d (pd_var 1) (pae_d (pd_var 0) pae_nil)) pke_nil (lenE_cons (lenE_cons lenE_nil)) lenE_nil (bl_b_has_form_0)))) (psd_one (psd_ret pd_bl)) psd_nil)
    (psd_cons (psd_set 2 sc_is_nested_of.nd (pd_call (takes_of rfl rfl rfl rfl) (ok_poly_from T) (hr.mono (by decide)) hg T.g_poly_from T.D_poly_from.kp (b_poly_from_0 T.D_poly_from) .nil (fun _ _ => rfl) (pae_d (pd_var 1) (pae_d (pd_var 0) pae_nil)) pke_nil (lenE_cons (lenE_cons lenE_nil)) lenE_nil (bl_b_poly_from_0)))
    (psd_one (psd_ret (pd_and (pd_call (takes_of rfl rfl rfl rfl) (ok_is_poly_in T) (hr.mono (by decide)) hg T.g_is_poly_in T.D_is_poly_in.kp (b_is_poly_in_0 T.D_is_poly_in) .nil (fun _ _ => rfl) (pae_d (pd_var 0) (pae_d (pd_var 2) pae_nil)) pke_nil (lenE_cons (lenE_cons lenE_nil)) lenE_nil (bl_b_is_poly_in_0)) (pd_one (pd_cmp (od_eq hr) (pd_call (takes_of rfl rfl rfl rfl) (ok_nested_from T 12) (hr.mono (by decide)) hg T.g_nested_from T.D_nested_from.kp (b_nested_from_0 T.D_nested_from) .nil (fun _ _ => rfl) (pae_d (pd_frz (po_listOf T.n_list (pad_cons (pd_var 2) pad_nil))) (pae_d (pd_var 0) pae_nil)) pke_nil (lenE_cons (lenE_cons lenE_nil)) lenE_nil (bl_b_nested_from_0)) (pd_var 1)))))))))
theorem ok_is_nested (T : Tx K mg) : Pd.FnP P w K mg base 17 T.a_is_nested T.d_is_nested ["many", "value"] m_is_nested := by
  exact Pd.fnp T.D_is_nested sc_is_nested fun cdv A outer s H E F hr hg => (show PSDs _ F _ (defBody s_is_nested) r_is_nested from (psd_cons (psd_expr (pd_call (takes_of rfl rfl rfl rfl) (ok_want_letters_many T) (hr.mono (by decide)) hg T.g_want_letters_many T.D_want_letters_many.kp (b_want_letters_many_0 T.D_want_letters_many) .nil (fun _ _ => rfl) (pae_d (pd_var 0) pae_nil) pke_nil (lenE_cons lenE_nil) lenE_nil (bl_b_want_letters_many_0)))
    (psd_one (psd_ret (pd_call (takes_of rfl rfl rfl rfl) (ok_is_nested_of T) (hr.mono (by decide)) hg T.g_is_nested_of T.D_is_nested_of.kp (b_is_nested_of_0 T.D_is_nested_of) .nil (fun _ _ => rfl) (pae_d (pd_var 0) (pae_d (pd_var 1) pae_nil)) pke_nil (lenE_cons (lenE_cons lenE_nil)) lenE_nil (bl_b_is_nested_of_0))))))
theorem ok_want_poly_in (T : Tx K mg) : Pd.FnP P w K mg base 5 T.a_want_poly_in T.d_want_poly_in ["many", "value"] m_want_poly_in := by
  exact Pd.fnp T.D_want_poly_in sc_want_poly_in fun cdv A outer s H E F hr hg => (show PSDs _ F _ (defBody s_want_poly_in) r_want_poly_in from (psd_one (psd_if (ptd_not (pt_bool (pd_call (takes_of rfl rfl rfl rfl) (ok_is_poly_in T) (hr.mono (by decide)) hg T.g_is_poly_in T.D_is_poly_in.kp (b_is_poly_in_0 T.D_is_poly_in) .nil (fun _ _ => rfl) (pae_d (pd_var 0) (pae_d (pd_var 1) pae_nil)) pke_nil (lenE_cons (lenE_cons lenE_nil)) lenE_nil (bl_b_is_poly_in_0)))) (psd_one psd_never) psd_nil)))
theorem ok_nested_of (T : Tx K mg) : Pd.FnP P w K mg base 14 T.a_nested_of T.d_nested_of ["many", "poly"] m_nested_of := by
  exact Pd.fnp T.D_nested_of sc_nested_of fun cdv A outer s H E F hr hg => (show PSDs _ F _ (defBody s_nested_of) r_nested_of from (psd_cons (psd_expr (pd_call (takes_of rfl rfl rfl rfl) (ok_want_letters_many T) (hr.mono (by decide)) hg T.g_want_letters_many T.D_want_letters_many.kp (b_want_letters_many_0 T.D_want_letters_many) .nil (fun _ _ => rfl) (pae_d (pd_var 0) pae_nil) pke_nil (lenE_cons lenE_nil) lenE_nil (bl_b_want_letters_many_0)))
    (psd_cons (psd_expr (pd_call (takes_of rfl rfl rfl rfl) (ok_want_poly_in T) (hr.mono (by decide)) hg T.g_want_poly_in T.D_want_poly_in.kp (b_want_poly_in_0 T.D_want_poly_in) .nil (fun _ _ => rfl) (pae_d (pd_var 0) (pae_d (pd_var 1) pae_nil)) pke_nil (lenE_cons (lenE_cons lenE_nil)) lenE_nil (bl_b_want_poly_in_0)))
    (psd_one (psd_ret (pd_call (takes_of rfl rfl rfl rfl) (ok_nested_from T 12) (hr.mono (by decide)) hg T.g_nested_from T.D_nested_from.kp (b_nested_from_0 T.D_nested_from) .nil (fun _ _ => rfl) (pae_d (pd_frz (po_listOf T.n_list (pad_cons (pd_var 1) pad_nil))) (pae_d (pd_var 0) pae_nil)) pke_nil (lenE_cons (lenE_cons lenE_nil)) lenE_nil (bl_b_nested_from_0)))))))
theorem ok_want_nested (T : Tx K mg) : Pd.FnP P w K mg base 17 T.a_want_nested T.d_want_nested ["many", "value"] m_want_nested := by
  exact Pd.fnp T.D_want_nested sc_want_nested fun cdv A outer s H E F hr hg => (show PSDs _ F _ (defBody s_want_nested) r_want_nested from (psd_one (psd_if (ptd_not (pt_bool (pd_call (takes_of rfl rfl rfl rfl) (ok_is_nested_of T) (hr.mono (by decide)) hg T.g_is_nested_of T.D_is_nested_of.kp (b_is_nested_of_0 T.D_is_nested_of) .nil (fun _ _ => rfl) (pae_d (pd_var 0) (pae_d (pd_var 1) pae_nil)) pke_nil (lenE_cons (lenE_cons lenE_nil)) lenE_nil (bl_b_is_nested_of_0)))) (psd_one psd_never) psd_nil)))
theorem ok_poly_of_nested (T : Tx K mg) : Pd.FnP P w K mg base 18 T.a_poly_of_nested T.d_poly_of_nested ["many", "nested"] m_poly_of_nested := by
  exact Pd.fnp T.D_poly_of_nested sc_poly_of_nested fun cdv A outer s H E F hr hg => (show PSDs _ F _ (defBody s_poly_of_nested) r_poly_of_nested from (psd_cons (psd_expr (pd_call (takes_of rfl rfl rfl rfl) (ok_want_letters_many T) (hr.mono (by decide)) hg T.g_want_letters_many T.D_want_letters_many.kp (b_want_letters_many_0 T.D_want_letters_many) .nil (fun _ _ => rfl) (pae_d (pd_var 0) pae_nil) pke_nil (lenE_cons lenE_nil) lenE_nil (bl_b_want_letters_many_0)))
    (psd_cons (psd_expr (pd_call (takes_of rfl rfl rfl rfl) (ok_want_nested T) (hr.mono (by decide)) hg T.g_want_nested T.D_want_nested.kp (b_want_nested_0 T.D_want_nested) .nil (fun _ _ => rfl) (pae_d (pd_var 0) (pae_d (pd_var 1) pae_nil)) pke_nil (lenE_cons (lenE_cons lenE_nil)) lenE_nil (bl_b_want_nested_0)))
    (psd_one (psd_ret (pd_call (takes_of rfl rfl rfl rfl) (ok_poly_from T) (hr.mono (by decide)) hg T.g_poly_from T.D_poly_from.kp (b_poly_from_0 T.D_poly_from) .nil (fun _ _ => rfl) (pae_d (pd_var 1) (pae_d (pd_var 0) pae_nil)) pke_nil (lenE_cons (lenE_cons lenE_nil)) lenE_nil (bl_b_poly_from_0)))))))
theorem ok_value_from (T : Tx K mg) : ∀ n, Pd.FnP P w K mg base (3 + n) T.a_value_from T.d_value_from ["nested", "point"] (m_value_from n)
  | 0 => Pd.FnP.none
  | n + 1 => by
    exact Pd.fnp T.D_value_from sc_value_from fun cdv A outer s H E F hr hg => (show PSDs _ F _ (defBody s_value_from) (r_value_from (m_value_from n)) from (psd_cons (psd_if (pt_cmp1 (od_eq hr) (pd_var 1) (pd_tup pad_nil len_nil)) (psd_one (psd_ret (pd_var 0))) psd_nil)
    (psd_cons (psd_set 2 sc_value_from.nd (pd_gtup T.t_NOUGHT))
    (psd_cons (psd_for (passes_of rfl) rfl (pid_seq (pd_revT (pd_var 0))) (pgt_name sc_value_from.nd (i := 3)) (psd_one (psd_set 2 sc_value_from.nd (pd_call (takes_of rfl rfl rfl rfl) (ok_add_ratios T) (hr.mono (by first | exact Nat.le_refl _ | exact Nat.le_trans (by decide) (Nat.le_add_right _ _))) hg T.g_add_ratios T.D_add_ratios.kp (b_add_ratios_0 T.D_add_ratios) .nil (fun _ _ => rfl) (pae_d (pd_call (takes_of rfl rfl rfl rfl) (ok_mul_ratios T) (hr.mono (by first | exact Nat.le_refl _ | exact Nat.le_trans (by decide) (Nat.le_add_right _ _))) hg T.g_mul_ratios T.D_mul_ratios.kp (b_mul_ratios_0 T.D_mul_ratios) .nil (fun _ _ => rfl) (pae_d (pd_var 2) (pae_d (pd_ix (pd_var 1) pd_int) pae_nil)) pke_nil (lenE_cons (lenE_cons lenE_nil)) lenE_nil (bl_b_mul_ratios_0)) (pae_d (pd_call (takes_of rfl rfl rfl rfl) (ok_value_from T n) (hr.mono (by first | exact Nat.le_refl _ | exact Nat.le_trans (by decide) (Nat.le_add_right _ _))) hg T.g_value_from T.D_value_from.kp (b_value_from_0 T.D_value_from) .nil (fun _ _ => rfl) (pae_d (pd_var 3) (pae_d (pd_sl (pd_var 1) (pp_some pd_int) pp_none) pae_nil)) pke_nil (lenE_cons (lenE_cons lenE_nil)) lenE_nil (bl_b_value_from_0)) pae_nil)) pke_nil (lenE_cons (lenE_cons lenE_nil)) lenE_nil (bl_b_add_ratios_0)))))
    (psd_one (psd_ret (pd_var 2)))))))
theorem ok_value_of_nested (T : Tx K mg) : Pd.FnP P w K mg base 18 T.a_value_of_nested T.d_value_of_nested ["many", "nested", "point"] m_value_of_nested := by
  exact Pd.fnp T.D_value_of_nested sc_value_of_nested fun cdv A outer s H E F hr hg => (show PSDs _ F _ (defBody s_value_of_nested) r_value_of_nested from (psd_cons (psd_expr (pd_call (takes_of rfl rfl rfl rfl) (ok_want_letters_many T) (hr.mono (by decide)) hg T.g_want_letters_many T.D_want_letters_many.kp (b_want_letters_many_0 T.D_want_letters_many) .nil (fun _ _ => rfl) (pae_d (pd_var 0) pae_nil) pke_nil (lenE_cons lenE_nil) lenE_nil (bl_b_want_letters_many_0)))
    (psd_cons (psd_expr (pd_call (takes_of rfl rfl rfl rfl) (ok_want_nested T) (hr.mono (by decide)) hg T.g_want_nested T.D_want_nested.kp (b_want_nested_0 T.D_want_nested) .nil (fun _ _ => rfl) (pae_d (pd_var 0) (pae_d (pd_var 1) pae_nil)) pke_nil (lenE_cons (lenE_cons lenE_nil)) lenE_nil (bl_b_want_nested_0)))
    (psd_cons (psd_expr (pd_call (takes_of rfl rfl rfl rfl) (ok_want_point_for T) (hr.mono (by decide)) hg T.g_want_point_for T.D_want_point_for.kp (b_want_point_for_0 T.D_want_point_for) .nil (fun _ _ => rfl) (pae_d (pd_var 0) (pae_d (pd_var 2) pae_nil)) pke_nil (lenE_cons (lenE_cons lenE_nil)) lenE_nil (bl_b_want_point_for_0)))
    (psd_one (psd_ret (pd_call (takes_of rfl rfl rfl rfl) (ok_value_from T 12) (hr.mono (by decide)) hg T.g_value_from T.D_value_from.kp (b_value_from_0 T.D_value_from) .nil (fun _ _ => rfl) (pae_d (pd_var 1) (pae_d (pd_var 2) pae_nil)) pke_nil (lenE_cons (lenE_cons lenE_nil)) lenE_nil (bl_b_value_from_0))))))))
theorem ok__law_draw (T : Tx K mg) : Pd.FnP P w K mg base 1 T.a__law_draw T.d__law_draw ["_law_pot_here", "_law_many"] m__law_draw := by
  exact Pd.fnp T.D__law_draw sc__law_draw fun cdv A outer s H E F hr hg => (show PSDs _ F _ (defBody s__law_draw) r__law_draw from (psd_cons (psd_if (pt_cmp1 od_gt (pd_potI 0 0) pd_int) (psd_cons (psd_potD 0 2 rfl sc__law_draw.nd T.n_divmod (pd_var 1))
    (psd_one (psd_ret (pd_var 2)))) psd_nil)
    (psd_cons (psd_potS 0 (pd_op od_mod (pd_Ty (cs_int) T.n_int (pad_cons (pd_op od_add (pd_op od_mul (pd_potI 0 1) pd_int) pd_int) pad_nil)) pd_int))
    (psd_one (psd_ret (pd_op od_mod (pd_Ty (cs_int) T.n_int (pad_cons (pd_op od_div (pd_op od_mod (pd_Ty (cs_int) T.n_int (pad_cons (pd_op od_mul (pd_potI 0 1) (pd_potI 0 1)) pad_nil)) pd_int) pd_int) pad_nil)) (pd_var 1)))))))
theorem ok__law_pick (T : Tx K mg) : Pd.FnP P w K mg base 2 T.a__law_pick T.d__law_pick ["_law_pot_here", "_law_some"] m__law_pick := by
  exact Pd.fnp T.D__law_pick sc__law_pick fun cdv A outer s H E F hr hg => (show PSDs _ F _ (defBody s__law_pick) r__law_pick from (psd_one (psd_ret (pd_ix (pd_var 1) (pd_call (takes_of rfl rfl rfl rfl) (ok__law_draw T) (hr.mono (by decide)) hg T.g__law_draw T.D__law_draw.kp (b__law_draw_0 T.D__law_draw) .nil (fun _ _ => rfl) (pae_p 0 (pae_d (pd_B (cs_len) T.n_len (pad_cons (pd_var 1) pad_nil)) pae_nil)) pke_nil (lenE_pot (lenE_cons lenE_nil)) lenE_nil (bl_b__law_draw_0))))))
theorem ok__law_told (T : Tx K mg) : Pd.FnP P w K mg base 1 T.a__law_told T.d__law_told ["_law_sums_here"] m__law_told := by
  exact Pd.fnp T.D__law_told sc__law_told fun cdv A outer s H E F hr hg => (show PSDs _ F _ (defBody s__law_told) r__law_told from (psd_one (psd_ret (pd_tupOf T.n_tuple (pad_cons (pd_frz (po_comp [("_law_exponents", 1)] (.n 1) rfl sc__law_told.nd (pid_seq (pd_frz (po_sortedT T.n_sorted (pad_cons (pd_frz (po_listOfQ rfl T.n_list (pad_cons (pd_var 0) pad_nil))) pad_nil)))) (show BlkOk ["_law_sums_here", "_law_exponents"] (defScope s__law_told) _ _ from ⟨rfl, by decide +kernel, by decide +kernel, by decide +kernel, by decide +kernel⟩) (by first | (simp [Pd.TgtIn]; done) | (simp [Pd.TgtIn, Pd.in1]; done) | (simp [Pd.TgtIn, Pd.in1]; omega)) (fun s_ H_ C_ cl_ fp_ => (pg_name sc__law_told.nd (i := 1) rfl (by first | exact Or.inl rfl | exact Or.inr rfl))) (fun F_ s_ H_ C_ cl_ fp_ => (ptsd_one (pt_cmp1 (od_ne hr) (pd_ix (pd_ixQ (Pd.room_178 hr) (pd_var 0) (pd_var 1)) pd_int) pd_int))) (fun F_ s_ H_ C_ cl_ fp_ => (pd_tup (pad_cons (pd_var 1) (pad_cons (pd_ixQ (Pd.room_178 hr) (pd_var 0) (pd_var 1)) pad_nil)) (len_cons (len_cons len_nil)))))) pad_nil)))))
theorem ok__law_low (T : Tx K mg) : Pd.FnP P w K mg base 1 T.a__law_low T.d__law_low ["_law_number", "_law_under"] m__law_low := by
  exact Pd.fnp T.D__law_low sc__law_low fun cdv A outer s H E F hr hg => (show PSDs _ F _ (defBody s__law_low) r__law_low from (psd_cons (psd_par (i := 2) (j := 3) rfl sc__law_low.nd (pad_cons (pd_B (cs_abs) T.n_abs (pad_cons (pd_var 0) pad_nil)) (pad_cons (pd_B (cs_abs) T.n_abs (pad_cons (pd_var 1) pad_nil)) pad_nil)))
    (psd_cons (psd_while 1000000000000000000000000000000000000000000000000000000000000000000000000000000000000000000000000000000000000000000000000000000000000000000000000000000000000000000000000000000000000000000000000000000000000000000000000000000000000000000000000000000000000000000000000000000000000000000000000000000000000000000000000000000000000000000000000000000000000000000000000000000000000000000000000000000000000000000000000000000000000000000000000000000000000000000000000000000000000000000000000000000000000000000000000000000000000000000000000000000000000000000000000000000000000000000000000000000000000000000000000000000000000000000000000000000000000000000000000000000000000000000000000000000000000000000000000000000000000000000000000000000000000000000000000000000000000000000000000000000000000000000000000000000000000000000000000000000000000000000000000000000000000000000000000000000000000000000000000000000000000 (passes_of rfl) (pt_cmp1 (od_ne hr) (pd_var 3) pd_int) (psd_one (psd_par (i := 2) (j := 3) rfl sc__law_low.nd (pad_cons (pd_var 3) (pad_cons (pd_op od_mod (pd_var 2) (pd_var 3)) pad_nil)))))
    (psd_cons (psd_if (pt_cmp1 (od_eq hr) (pd_var 2) pd_int) (psd_one (psd_ret (pd_tup (pad_cons pd_int (pad_cons pd_int pad_nil)) (len_cons (len_cons len_nil))))) psd_nil)
    (psd_one (psd_ret (pd_ife (pt_cmp1 od_gt (pd_var 1) pd_int) (pd_tup (pad_cons (pd_op od_div (pd_var 0) (pd_var 2)) (pad_cons (pd_op od_div (pd_var 1) (pd_var 2)) pad_nil)) (len_cons (len_cons len_nil))) (pd_tup (pad_cons (pd_op od_div (pd_neg (pd_var 0)) (pd_var 2)) (pad_cons (pd_op od_div (pd_neg (pd_var 1)) (pd_var 2)) pad_nil)) (len_cons (len_cons len_nil))))))))))
theorem ok__law_add (T : Tx K mg) : Pd.FnP P w K mg base 2 T.a__law_add T.d__law_add ["_law_one", "_law_other"] m__law_add := by
  exact Pd.fnp T.D__law_add sc__law_add fun cdv A outer s H E F hr hg => (show PSDs _ F _ (defBody s__law_add) r__law_add from (psd_one (psd_ret (pd_call (takes_of rfl rfl rfl rfl) (ok__law_low T) (hr.mono (by decide)) hg T.g__law_low T.D__law_low.kp (b__law_low_0 T.D__law_low) .nil (fun _ _ => rfl) (pae_d (pd_op od_add (pd_op od_mul (pd_ix (pd_var 0) pd_int) (pd_ix (pd_var 1) pd_int)) (pd_op od_mul (pd_ix (pd_var 1) pd_int) (pd_ix (pd_var 0) pd_int))) (pae_d (pd_op od_mul (pd_ix (pd_var 0) pd_int) (pd_ix (pd_var 1) pd_int)) pae_nil)) pke_nil (lenE_cons (lenE_cons lenE_nil)) lenE_nil (bl_b__law_low_0)))))
theorem ok__law_mul (T : Tx K mg) : Pd.FnP P w K mg base 2 T.a__law_mul T.d__law_mul ["_law_one", "_law_other"] m__law_mul := by
  exact Pd.fnp T.D__law_mul sc__law_mul fun cdv A outer s H E F hr hg => (show PSDs _ F _ (defBody s__law_mul) r__law_mul from (psd_one (psd_ret (pd_call (takes_of rfl rfl rfl rfl) (ok__law_low T) (hr.mono (by decide)) hg T.g__law_low T.D__law_low.kp (b__law_low_0 T.D__law_low) .nil (fun _ _ => rfl) (pae_d (pd_op od_mul (pd_ix (pd_var 0) pd_int) (pd_ix (pd_var 1) pd_int)) (pae_d (pd_op od_mul (pd_ix (pd_var 0) pd_int) (pd_ix (pd_var 1) pd_int)) pae_nil)) pke_nil (lenE_cons (lenE_cons lenE_nil)) lenE_nil (bl_b__law_low_0)))))
theorem ok__law_value (T : Tx K mg) : Pd.FnP P w K mg base 3 T.a__law_value T.d__law_value ["_law_sums_here", "_law_point_here"] m__law_value := by
  exact Pd.fnp T.D__law_value sc__law_value fun cdv A outer s H E F hr hg => (show PSDs _ F _ (defBody s__law_value) r__law_value from (psd_cons (psd_set 2 sc__law_value.nd (pd_tup (pad_cons pd_int (pad_cons pd_int pad_nil)) (len_cons (len_cons len_nil))))
    (psd_cons (psd_for (passes_of rfl) rfl (pid_seqQ (pd_var 0)) (pgt_name sc__law_value.nd (i := 3)) (psd_cons (psd_set 4 sc__law_value.nd (pd_ixQ (Pd.room_178 hr) (pd_var 0) (pd_var 3)))
    (psd_cons (psd_for (passes_of rfl) rfl (pid_zip T.n_zip (pad_cons (pd_var 3) (pad_cons (pd_var 1) pad_nil))) (pgt_tup rfl (pgts_cons (i := 5) sc__law_value.nd (pgts_cons (i := 6) sc__law_value.nd pgts_nil))) (psd_one (psd_for (passes_of rfl) rfl (pid_rng1 T.n_range (pad_cons (pd_var 5) pad_nil)) (pgt_name sc__law_value.nd (i := 7)) (psd_one (psd_set 4 sc__law_value.nd (pd_call (takes_of rfl rfl rfl rfl) (ok__law_mul T) (hr.mono (by decide)) hg T.g__law_mul T.D__law_mul.kp (b__law_mul_0 T.D__law_mul) .nil (fun _ _ => rfl) (pae_d (pd_var 4) (pae_d (pd_var 6) pae_nil)) pke_nil (lenE_cons (lenE_cons lenE_nil)) lenE_nil (bl_b__law_mul_0)))))))
    (psd_one (psd_set 2 sc__law_value.nd (pd_call (takes_of rfl rfl rfl rfl) (ok__law_add T) (hr.mono (by decide)) hg T.g__law_add T.D__law_add.kp (b__law_add_0 T.D__law_add) .nil (fun _ _ => rfl) (pae_d (pd_var 2) (pae_d (pd_var 4) pae_nil)) pke_nil (lenE_cons (lenE_cons lenE_nil)) lenE_nil (bl_b__law_add_0)))))))
    (psd_one (psd_ret (pd_var 2))))))
theorem ok__law_ratio (T : Tx K mg) : Pd.FnP P w K mg base 3 T.a__law_ratio T.d__law_ratio ["_law_pot_here"] m__law_ratio := by
  exact Pd.fnp T.D__law_ratio sc__law_ratio fun cdv A outer s H E F hr hg => (show PSDs _ F _ (defBody s__law_ratio) r__law_ratio from (psd_one (psd_ret (pd_call (takes_of rfl rfl rfl rfl) (ok__law_low T) (hr.mono (by decide)) hg T.g__law_low T.D__law_low.kp (b__law_low_0 T.D__law_low) .nil (fun _ _ => rfl) (pae_d (pd_call (takes_of rfl rfl rfl rfl) (ok__law_pick T) (hr.mono (by decide)) hg T.g__law_pick T.D__law_pick.kp (b__law_pick_0 T.D__law_pick) .nil (fun _ _ => rfl) (pae_p 0 (pae_d (pd_frz (po_lst (pad_cons pd_int (pad_cons pd_int (pad_cons (pd_neg pd_int) (pad_cons pd_int (pad_cons pd_int (pad_cons (pd_neg pd_int) (pad_cons pd_int pad_nil))))))) (len_cons (len_cons (len_cons (len_cons (len_cons (len_cons (len_cons len_nil))))))))) pae_nil)) pke_nil (lenE_pot (lenE_cons lenE_nil)) lenE_nil (bl_b__law_pick_0)) (pae_d (pd_call (takes_of rfl rfl rfl rfl) (ok__law_pick T) (hr.mono (by decide)) hg T.g__law_pick T.D__law_pick.kp (b__law_pick_0 T.D__law_pick) .nil (fun _ _ => rfl) (pae_p 0 (pae_d (pd_frz (po_lst (pad_cons pd_int (pad_cons pd_int (pad_cons pd_int (pad_cons pd_int (pad_cons pd_int pad_nil))))) (len_cons (len_cons (len_cons (len_cons (len_cons len_nil))))))) pae_nil)) pke_nil (lenE_pot (lenE_cons lenE_nil)) lenE_nil (bl_b__law_pick_0)) pae_nil)) pke_nil (lenE_cons (lenE_cons lenE_nil)) lenE_nil (bl_b__law_low_0)))))
theorem ok__law_terms (T : Tx K mg) : Pd.FnP P w K mg base 4 T.a__law_terms T.d__law_terms ["_law_pot_here", "_law_letters", "_law_most", "_law_deep"] m__law_terms := by
  exact Pd.fnp T.D__law_terms sc__law_terms fun cdv A outer s H E F hr hg => (show PSDs _ F _ (defBody s__law_terms) r__law_terms from (psd_cons (psd_setO 4 sc__law_terms.nd (po_lst pad_nil len_nil))
    (psd_cons (psd_for (passes_of rfl) rfl (pid_rng1 T.n_range (pad_cons (pd_call (takes_of rfl rfl rfl rfl) (ok__law_draw T) (hr.mono (by decide)) hg T.g__law_draw T.D__law_draw.kp (b__law_draw_0 T.D__law_draw) .nil (fun _ _ => rfl) (pae_p 0 (pae_d (pd_op od_add (pd_var 2) pd_int) pae_nil)) pke_nil (lenE_pot (lenE_cons lenE_nil)) lenE_nil (bl_b__law_draw_0)) pad_nil)) (pgt_name sc__law_terms.nd (i := 5)) (psd_cons (psd_setO 6 sc__law_terms.nd (po_lst pad_nil len_nil))
    (psd_cons (psd_for (passes_of rfl) rfl (pid_rng1 T.n_range (pad_cons (pd_var 1) pad_nil)) (pgt_name sc__law_terms.nd (i := 7)) (psd_one (psd_app 6 (pd_call (takes_of rfl rfl rfl rfl) (ok__law_draw T) (hr.mono (by decide)) hg T.g__law_draw T.D__law_draw.kp (b__law_draw_0 T.D__law_draw) .nil (fun _ _ => rfl) (pae_p 0 (pae_d (pd_op od_add (pd_var 3) pd_int) pae_nil)) pke_nil (lenE_pot (lenE_cons lenE_nil)) lenE_nil (bl_b__law_draw_0)))))
    (psd_one (psd_frz 6 (psd_app 4 (pd_tup (pad_cons (pd_tupOf T.n_tuple (pad_cons (pd_var 6) pad_nil)) (pad_cons (pd_call (takes_of rfl rfl rfl rfl) (ok__law_ratio T) (hr.mono (by decide)) hg T.g__law_ratio T.D__law_ratio.kp (b__law_ratio_0 T.D__law_ratio) .nil (fun _ _ => rfl) (pae_p 0 pae_nil) pke_nil (lenE_pot lenE_nil) lenE_nil (bl_b__law_ratio_0)) pad_nil)) (len_cons (len_cons len_nil)))))))))
    (psd_one (psd_retV 4)))))
theorem ok__law_sums (T : Tx K mg) : Pd.FnP P w K mg base 3 T.a__law_sums T.d__law_sums ["_law_terms_here"] m__law_sums := by
  exact Pd.fnp T.D__law_sums sc__law_sums fun cdv A outer s H E F hr hg => (show PSDs _ F _ (defBody s__law_sums) r__law_sums from (psd_cons (psd_setQ 1 sc__law_sums.nd pq_emp)
    (psd_cons (psd_for (passes_of rfl) rfl (pid_seq (pd_var 0)) (pgt_tup rfl (pgts_cons (i := 2) sc__law_sums.nd (pgts_cons (i := 3) sc__law_sums.nd pgts_nil))) (psd_one (psd_putQ 1 (Pd.room_178 hr) (pd_call (takes_of rfl rfl rfl rfl) (ok__law_add T) (hr.mono (by decide)) hg T.g__law_add T.D__law_add.kp (b__law_add_0 T.D__law_add) .nil (fun _ _ => rfl) (pae_d (pd_getW 1 (Pd.room_178 hr) (pd_var 2) (pd_tup (pad_cons pd_int (pad_cons pd_int pad_nil)) (len_cons (len_cons len_nil)))) (pae_d (pd_var 3) pae_nil)) pke_nil (lenE_cons (lenE_cons lenE_nil)) lenE_nil (bl_b__law_add_0)) (pd_var 2))))
    (psd_one (psd_frzQ 1 (psd_ret (pd_frzQ (pq_dictOf (Pd.room_178 hr) rfl T.n_dict (pad_cons (pd_frz (po_comp [("_law_exponents", 2)] (.n 2) rfl sc__law_sums.nd (pid_seqQ (pd_var 1)) (show BlkOk ["_law_terms_here", "_law_found", "_law_exponents", "_law_ratio_here"] (defScope s__law_sums) _ _ from ⟨rfl, by decide +kernel, by decide +kernel, by decide +kernel, by decide +kernel⟩) (by first | (simp [Pd.TgtIn]; done) | (simp [Pd.TgtIn, Pd.in1]; done) | (simp [Pd.TgtIn, Pd.in1]; omega)) (fun s_ H_ C_ cl_ fp_ => (pg_name sc__law_sums.nd (i := 2) rfl (by first | exact Or.inl rfl | exact Or.inr rfl))) (fun F_ s_ H_ C_ cl_ fp_ => (ptsd_one (pt_cmp1 (od_ne hr) (pd_ix (pd_ixQ (Pd.room_178 hr) (pd_var 1) (pd_var 2)) pd_int) pd_int))) (fun F_ s_ H_ C_ cl_ fp_ => (pd_tup (pad_cons (pd_var 2) (pad_cons (pd_ixQ (Pd.room_178 hr) (pd_var 1) (pd_var 2)) pad_nil)) (len_cons (len_cons len_nil)))))) pad_nil)))))))))
theorem ok__law_poly (T : Tx K mg) : Pd.FnP P w K mg base 5 T.a__law_poly T.d__law_poly ["_law_pot_here", "_law_letters", "_law_most", "_law_deep"] m__law_poly := by
  exact Pd.fnp T.D__law_poly sc__law_poly fun cdv A outer s H E F hr hg => (show PSDs _ F _ (defBody s__law_poly) r__law_poly from (psd_one (psd_ret (pd_call (takes_of rfl rfl rfl rfl) (ok__law_sums T) (hr.mono (by decide)) hg T.g__law_sums T.D__law_sums.kp (b__law_sums_0 T.D__law_sums) .nil (fun _ _ => rfl) (pae_d (pd_call (takes_of rfl rfl rfl rfl) (ok__law_terms T) (hr.mono (by decide)) hg T.g__law_terms T.D__law_terms.kp (b__law_terms_0 T.D__law_terms) .nil (fun _ _ => rfl) (pae_p 0 (pae_d (pd_var 1) (pae_d (pd_var 2) (pae_d (pd_var 3) pae_nil)))) pke_nil (lenE_pot (lenE_cons (lenE_cons (lenE_cons lenE_nil)))) lenE_nil (bl_b__law_terms_0)) pae_nil) pke_nil (lenE_cons lenE_nil) lenE_nil (bl_b__law_sums_0)))))
theorem ok__law_point (T : Tx K mg) : Pd.FnP P w K mg base 4 T.a__law_point T.d__law_point ["_law_pot_here", "_law_letters"] m__law_point := by
  exact Pd.fnp T.D__law_point sc__law_point fun cdv A outer s H E F hr hg => (show PSDs _ F _ (defBody s__law_point) r__law_point from (psd_cons (psd_setO 2 sc__law_point.nd (po_lst pad_nil len_nil))
    (psd_cons (psd_for (passes_of rfl) rfl (pid_rng1 T.n_range (pad_cons (pd_var 1) pad_nil)) (pgt_name sc__law_point.nd (i := 3)) (psd_one (psd_app 2 (pd_call (takes_of rfl rfl rfl rfl) (ok__law_ratio T) (hr.mono (by decide)) hg T.g__law_ratio T.D__law_ratio.kp (b__law_ratio_0 T.D__law_ratio) .nil (fun _ _ => rfl) (pae_p 0 pae_nil) pke_nil (lenE_pot lenE_nil) lenE_nil (bl_b__law_ratio_0)))))
    (psd_one (psd_frz 2 (psd_ret (pd_tupOf T.n_tuple (pad_cons (pd_var 2) pad_nil))))))))
theorem ok__law_nested (T : Tx K mg) : ∀ n, Pd.FnP P w K mg base (1 + n) T.a__law_nested T.d__law_nested ["_law_sums_here", "_law_letters"] (m__law_nested n)
  | 0 => Pd.FnP.none
  | n + 1 => by
    exact Pd.fnp T.D__law_nested sc__law_nested fun cdv A outer s H E F hr hg => (show PSDs _ F _ (defBody s__law_nested) (r__law_nested (m__law_nested n)) from (psd_cons (psd_if (pt_cmp1 (od_eq hr) (pd_var 1) pd_int) (psd_one (psd_ret (pd_getQ (Pd.room_178 hr) (pd_var 0) (pd_tup pad_nil len_nil) (pd_tup (pad_cons pd_int (pad_cons pd_int pad_nil)) (len_cons (len_cons len_nil)))))) psd_nil)
    (psd_cons (psd_parDO (i := 2) (j := 3) rfl sc__law_nested.nd (pd_B (cs_max rfl) T.n_max (pad_cons (pd_op od_add3 (pd_frz (po_comp [("_law_exponents", 4)] (.n 4) rfl sc__law_nested.nd (pid_seqQ (pd_var 0)) (show BlkOk ["_law_sums_here", "_law_letters", "_law_most", "_law_found", "_law_exponents", "_law_often", "_law_part"] (defScope s__law_nested) _ _ from ⟨rfl, by decide +kernel, by decide +kernel, by decide +kernel, by decide +kernel⟩) (by first | (simp [Pd.TgtIn]; done) | (simp [Pd.TgtIn, Pd.in1]; done) | (simp [Pd.TgtIn, Pd.in1]; omega)) (fun s_ H_ C_ cl_ fp_ => (pg_name sc__law_nested.nd (i := 4) rfl (by first | exact Or.inl rfl | exact Or.inr rfl))) (fun F_ s_ H_ C_ cl_ fp_ => ptsd_nil) (fun F_ s_ H_ C_ cl_ fp_ => (pd_ix (pd_var 4) pd_int)))) (pd_frz (po_lst (pad_cons pd_int pad_nil) (len_cons len_nil)))) pad_nil)) (po_lst pad_nil len_nil))
    (psd_cons (psd_for (passes_of rfl) rfl (pid_rng1 T.n_range (pad_cons (pd_op od_add (pd_var 2) pd_int) pad_nil)) (pgt_name sc__law_nested.nd (i := 5)) (psd_cons (psd_set 6 sc__law_nested.nd (pd_frzQ (pq_dictOf (Pd.room_178 hr) rfl T.n_dict (pad_cons (pd_frz (po_comp [("_law_exponents", 4)] (.n 4) rfl sc__law_nested.nd (pid_seqQ (pd_var 0)) (show BlkOk ["_law_sums_here", "_law_letters", "_law_most", "_law_found", "_law_exponents", "_law_often", "_law_part"] (defScope s__law_nested) _ _ from ⟨rfl, by decide +kernel, by decide +kernel, by decide +kernel, by decide +kernel⟩) (by first | (simp [Pd.TgtIn]; done) | (simp [Pd.TgtIn, Pd.in1]; done) | (simp [Pd.TgtIn, Pd.in1]; omega)) (fun s_ H_ C_ cl_ fp_ => (pg_name sc__law_nested.nd (i := 4) rfl (by first | exact Or.inl rfl | exact Or.inr rfl))) (fun F_ s_ H_ C_ cl_ fp_ => (ptsd_one (pt_cmp1 (od_eq hr) (pd_ix (pd_var 4) pd_int) (pd_var 5)))) (fun F_ s_ H_ C_ cl_ fp_ => (pd_tup (pad_cons (pd_sl (pd_var 4) (pp_some pd_int) pp_none) (pad_cons (pd_ixQ (Pd.room_178 hr) (pd_var 0) (pd_var 4)) pad_nil)) (len_cons (len_cons len_nil)))))) pad_nil))))
    (psd_one (psd_app 3 (pd_call (takes_of rfl rfl rfl rfl) (ok__law_nested T n) (hr.mono (by first | exact Nat.le_refl _ | exact Nat.le_trans (by decide) (Nat.le_add_right _ _))) hg T.g__law_nested T.D__law_nested.kp (b__law_nested_0 T.D__law_nested) .nil (fun _ _ => rfl) (pae_d (pd_var 6) (pae_d (pd_op od_sub (pd_var 1) pd_int) pae_nil)) pke_nil (lenE_cons (lenE_cons lenE_nil)) lenE_nil (bl_b__law_nested_0))))))
    (psd_one (psd_frz 3 (psd_ret (pd_tupOf T.n_tuple (pad_cons (pd_var 3) pad_nil)))))))))
theorem ok__law_terms_of (T : Tx K mg) : ∀ n, Pd.FnP P w K mg base (2 + n) T.a__law_terms_of T.d__law_terms_of ["_law_value_here", "_law_letters"] (m__law_terms_of n)
  | 0 => Pd.FnP.none
  | n + 1 => by
    exact Pd.fnp T.D__law_terms_of sc__law_terms_of fun cdv A outer s H E F hr hg => (show PSDs _ F _ (defBody s__law_terms_of) (r__law_terms_of (m__law_terms_of n)) from (psd_cons (psd_if (pt_cmp1 (od_eq hr) (pd_var 1) pd_int) (psd_cons (psd_set 2 sc__law_terms_of.nd (pd_and (pd_isi T.n_isinstance T.n_tuple (pd_var 0)) (pd_one (pd_cmp (od_eq hr) (pd_B (cs_len) T.n_len (pad_cons (pd_var 0) pad_nil)) pd_int))))
    (psd_cons (psd_if (PWD.pt (pw_o (ptd_not (pt_bool (pd_var 2))) (pw_o1 (ptd_not (pt_bool (pd_B (cs_all rfl) T.n_all (pad_cons (pd_frz (po_comp [("_law_one", 3)] (.n 3) rfl sc__law_terms_of.nd (pid_seq (pd_var 0)) (show BlkOk ["_law_value_here", "_law_letters", "_law_is_pair", "_law_one", "_law_found", "_law_often", "_law_part", "_law_inner", "_law_exponents"] (defScope s__law_terms_of) _ _ from ⟨rfl, by decide +kernel, by decide +kernel, by decide +kernel, by decide +kernel⟩) (by first | (simp [Pd.TgtIn]; done) | (simp [Pd.TgtIn, Pd.in1]; done) | (simp [Pd.TgtIn, Pd.in1]; omega)) (fun s_ H_ C_ cl_ fp_ => (pg_name sc__law_terms_of.nd (i := 3) rfl (by first | exact Or.inl rfl | exact Or.inr rfl))) (fun F_ s_ H_ C_ cl_ fp_ => ptsd_nil) (fun F_ s_ H_ C_ cl_ fp_ => (pd_and (pd_isi T.n_isinstance T.n_int (pd_var 3)) (pd_one (pd_not (pd_isi T.n_isinstance T.n_bool (pd_var 3)))))))) pad_nil))))))) (psd_one (psd_ret pd_non)) psd_nil)
    (psd_cons (psd_if (PWD.pt (pw_o (pt_cmp1 od_lt (pd_ix (pd_var 0) pd_int) pd_int) (pw_o1 (pt_cmp1 (od_ne hr) (pd_call (takes_of rfl rfl rfl rfl) (ok__law_low T) (hr.mono (by first | exact Nat.le_refl _ | exact Nat.le_trans (by decide) (Nat.le_add_right _ _))) hg T.g__law_low T.D__law_low.kp (b__law_low_0 T.D__law_low) .nil (fun _ _ => rfl) (pae_d (pd_ix (pd_var 0) pd_int) (pae_d (pd_ix (pd_var 0) pd_int) pae_nil)) pke_nil (lenE_cons (lenE_cons lenE_nil)) lenE_nil (bl_b__law_low_0)) (pd_var 0))))) (psd_one (psd_ret pd_non)) psd_nil)
    (psd_one (psd_ret (pd_ife (pt_cmp1 (od_ne hr) (pd_ix (pd_var 0) pd_int) pd_int) (pd_frzQ (pq_disp1 (Pd.room_178 hr) (fun F_ => (pd_tup pad_nil len_nil)) (fun F_ => (pd_var 0)))) pd_emp)))))) psd_nil)
    (psd_cons (psd_if (PWD.pt (pw_o (ptd_not (pt_bool (pd_isi T.n_isinstance T.n_tuple (pd_var 0)))) (pw_o (pt_cmp1 (od_eq hr) (pd_var 0) (pd_tup pad_nil len_nil)) (pw_o1 (pt_cmp1 od_gt (pd_B (cs_len) T.n_len (pad_cons (pd_var 0) pad_nil)) pd_int))))) (psd_one (psd_ret pd_non)) psd_nil)
    (psd_cons (psd_setQ 4 sc__law_terms_of.nd pq_emp)
    (psd_cons (psd_for (passes_of rfl) rfl (pid_enum2 T.n_enumerate (pad_cons (pd_var 0) pad_nil)) (pgt_tup rfl (pgts_cons (i := 5) sc__law_terms_of.nd (pgts_cons (i := 6) sc__law_terms_of.nd pgts_nil))) (psd_cons (psd_set 7 sc__law_terms_of.nd (pd_call (takes_of rfl rfl rfl rfl) (ok__law_terms_of T n) (hr.mono (by first | exact Nat.le_refl _ | exact Nat.le_trans (by decide) (Nat.le_add_right _ _))) hg T.g__law_terms_of T.D__law_terms_of.kp (b__law_terms_of_0 T.D__law_terms_of) .nil (fun _ _ => rfl) (pae_d (pd_var 6) (pae_d (pd_op od_sub (pd_var 1) pd_int) pae_nil)) pke_nil (lenE_cons (lenE_cons lenE_nil)) lenE_nil (bl_b__law_terms_of_0)))
    (psd_cons (psd_if (pt_cmp1 od_is2 (pd_var 7) pd_non) (psd_one (psd_ret pd_non)) psd_nil)
    (psd_one (psd_for (passes_of rfl) rfl (pid_seqQ (pd_var 7)) (pgt_name sc__law_terms_of.nd (i := 8)) (psd_one (psd_putQ 4 (Pd.room_178 hr) (pd_ixQ (Pd.room_178 hr) (pd_var 7) (pd_var 8)) (pd_op od_add3 (pd_tup (pad_cons (pd_var 5) pad_nil) (len_cons len_nil)) (pd_var 8)))))))))
    (psd_one (psd_frzQ 4 (psd_ret (pd_var 4)))))))))
theorem ok__law_is_nested (T : Tx K mg) : Pd.FnP P w K mg base 15 T.a__law_is_nested T.d__law_is_nested ["_law_value_here", "_law_letters"] m__law_is_nested := by
  exact Pd.fnp T.D__law_is_nested sc__law_is_nested fun cdv A outer s H E F hr hg => (show PSDs _ F _ (defBody s__law_is_nested) r__law_is_nested from (psd_cons (psd_set 2 sc__law_is_nested.nd (pd_call (takes_of rfl rfl rfl rfl) (ok__law_terms_of T 12) (hr.mono (by decide)) hg T.g__law_terms_of T.D__law_terms_of.kp (b__law_terms_of_0 T.D__law_terms_of) .nil (fun _ _ => rfl) (pae_d (pd_var 0) (pae_d (pd_var 1) pae_nil)) pke_nil (lenE_cons (lenE_cons lenE_nil)) lenE_nil (bl_b__law_terms_of_0)))
    (psd_cons (psd_if (PWD.pt (pw_o (pt_cmp1 od_is2 (pd_var 2) pd_non) (pw_o (pt_cmp1 od_gt (pd_B (cs_lenQ) T.n_len (pad_cons (pd_var 2) pad_nil)) pd_int) (pw_o1 (pt_cmp1 od_gt (pd_B (cs_max rfl) T.n_max (pad_cons (pd_op od_add3 (pd_frz (po_comp [("_law_exponents", 3)] (.n 3) rfl sc__law_is_nested.nd (pid_seqQ (pd_var 2)) (show BlkOk ["_law_value_here", "_law_letters", "_law_terms_here", "_law_exponents"] (defScope s__law_is_nested) _ _ from ⟨rfl, by decide +kernel, by decide +kernel, by decide +kernel, by decide +kernel⟩) (by first | (simp [Pd.TgtIn]; done) | (simp [Pd.TgtIn, Pd.in1]; done) | (simp [Pd.TgtIn, Pd.in1]; omega)) (fun s_ H_ C_ cl_ fp_ => (pg_name sc__law_is_nested.nd (i := 3) rfl (by first | exact Or.inl rfl | exact Or.inr rfl))) (fun F_ s_ H_ C_ cl_ fp_ => ptsd_nil) (fun F_ s_ H_ C_ cl_ fp_ => (pd_B (cs_sum2 rfl) T.n_sum (pad_cons (pd_var 3) pad_nil))))) (pd_frz (po_lst (pad_cons pd_int pad_nil) (len_cons len_nil)))) pad_nil)) pd_int))))) (psd_one (psd_ret pd_bl)) psd_nil)
    (psd_one (psd_ret (pd_cmp (od_eq hr) (pd_call (takes_of rfl rfl rfl rfl) (ok__law_nested T 12) (hr.mono (by decide)) hg T.g__law_nested T.D__law_nested.kp (b__law_nested_0 T.D__law_nested) .nil (fun _ _ => rfl) (pae_d (pd_var 2) (pae_d (pd_var 1) pae_nil)) pke_nil (lenE_cons (lenE_cons lenE_nil)) lenE_nil (bl_b__law_nested_0)) (pd_var 0)))))))
theorem ok__law_bent (T : Tx K mg) : ∀ n, Pd.FnP P w K mg base (3 + n) T.a__law_bent T.d__law_bent ["_law_pot_here", "_law_value_here"] (m__law_bent n)
  | 0 => Pd.FnP.none
  | n + 1 => by
    exact Pd.fnp T.D__law_bent sc__law_bent fun cdv A outer s H E F hr hg => (show PSDs _ F _ (defBody s__law_bent) (r__law_bent (m__law_bent n)) from (psd_cons (psd_set 2 sc__law_bent.nd (pd_call (takes_of rfl rfl rfl rfl) (ok__law_pick T) (hr.mono (by first | exact Nat.le_refl _ | exact Nat.le_trans (by decide) (Nat.le_add_right _ _))) hg T.g__law_pick T.D__law_pick.kp (b__law_pick_0 T.D__law_pick) .nil (fun _ _ => rfl) (pae_p 0 (pae_d (pd_frz (po_lst (pad_cons pd_non (pad_cons pd_int (pad_cons pd_bl (pad_cons (pd_tup (pad_cons pd_int (pad_cons pd_int pad_nil)) (len_cons (len_cons len_nil))) (pad_cons (pd_tup (pad_cons pd_int (pad_cons pd_int pad_nil)) (len_cons (len_cons len_nil))) (pad_cons (pd_tup (pad_cons pd_int (pad_cons pd_int pad_nil)) (len_cons (len_cons len_nil))) (pad_cons (pd_tup pad_nil len_nil) (pad_cons (pd_tup (pad_cons (pd_tup (pad_cons pd_int (pad_cons pd_int pad_nil)) (len_cons (len_cons len_nil))) pad_nil) (len_cons len_nil)) (pad_cons (pd_tup (pad_cons (pd_tup (pad_cons pd_int (pad_cons pd_int pad_nil)) (len_cons (len_cons len_nil))) pad_nil) (len_cons len_nil)) (pad_cons (pd_tup (pad_cons pd_int (pad_cons pd_bl pad_nil)) (len_cons (len_cons len_nil))) pad_nil)))))))))) (len_cons (len_cons (len_cons (len_cons (len_cons (len_cons (len_cons (len_cons (len_cons (len_cons len_nil)))))))))))) pae_nil)) pke_nil (lenE_pot (lenE_cons lenE_nil)) lenE_nil (bl_b__law_pick_0)))
    (psd_cons (psd_par (i := 3) (j := 4) rfl sc__law_bent.nd (pad_cons (pd_call (takes_of rfl rfl rfl rfl) (ok__law_draw T) (hr.mono (by first | exact Nat.le_refl _ | exact Nat.le_trans (by decide) (Nat.le_add_right _ _))) hg T.g__law_draw T.D__law_draw.kp (b__law_draw_0 T.D__law_draw) .nil (fun _ _ => rfl) (pae_p 0 (pae_d pd_int pae_nil)) pke_nil (lenE_pot (lenE_cons lenE_nil)) lenE_nil (bl_b__law_draw_0)) (pad_cons (pd_call (takes_of rfl rfl rfl rfl) (ok__law_draw T) (hr.mono (by first | exact Nat.le_refl _ | exact Nat.le_trans (by decide) (Nat.le_add_right _ _))) hg T.g__law_draw T.D__law_draw.kp (b__law_draw_0 T.D__law_draw) .nil (fun _ _ => rfl) (pae_p 0 (pae_d (pd_B (cs_len) T.n_len (pad_cons (pd_var 1) pad_nil)) pae_nil)) pke_nil (lenE_pot (lenE_cons lenE_nil)) lenE_nil (bl_b__law_draw_0)) pad_nil)))
    (psd_cons (psd_if (PWD.pt (pw_a (pt_cmp1 (od_eq hr) (pd_var 3) pd_int) (pw_a (pt_bool (pd_isi T.n_isinstance T.n_tuple (pd_ix (pd_var 1) (pd_var 4)))) (pw_a1 (pt_cmp1 (od_ne hr) (pd_ix (pd_var 1) (pd_var 4)) (pd_tup pad_nil len_nil)))))) (psd_one (psd_ret (pd_op od_add3 (pd_op od_add3 (pd_sl (pd_var 1) pp_none (pp_some (pd_var 4))) (pd_tup (pad_cons (pd_call (takes_of rfl rfl rfl rfl) (ok__law_bent T n) (hr.mono (by first | exact Nat.le_refl _ | exact Nat.le_trans (by decide) (Nat.le_add_right _ _))) hg T.g__law_bent T.D__law_bent.kp (b__law_bent_0 T.D__law_bent) .nil (fun _ _ => rfl) (pae_p 0 (pae_d (pd_ix (pd_var 1) (pd_var 4)) pae_nil)) pke_nil (lenE_pot (lenE_cons lenE_nil)) lenE_nil (bl_b__law_bent_0)) pad_nil) (len_cons len_nil))) (pd_sl (pd_var 1) (pp_some (pd_op od_add (pd_var 4) pd_int)) pp_none)))) psd_nil)
    (psd_cons (psd_set 5 sc__law_bent.nd (pd_frz (po_lst (pad_cons (pd_op od_add3 (pd_var 1) (pd_tup (pad_cons (pd_var 2) pad_nil) (len_cons len_nil))) (pad_cons (pd_op od_add3 (pd_sl (pd_var 1) pp_none (pp_some (pd_var 4))) (pd_sl (pd_var 1) (pp_some (pd_op od_add (pd_var 4) pd_int)) pp_none)) (pad_cons (pd_op od_add3 (pd_op od_add3 (pd_sl (pd_var 1) pp_none (pp_some (pd_var 4))) (pd_tup (pad_cons (pd_var 2) pad_nil) (len_cons len_nil))) (pd_sl (pd_var 1) (pp_some (pd_op od_add (pd_var 4) pd_int)) pp_none)) (pad_cons (pd_frz (po_listOf T.n_list (pad_cons (pd_var 1) pad_nil))) (pad_cons (pd_op od_add3 (pd_var 1) (pd_sl (pd_var 1) (pp_some (pd_neg pd_int)) pp_none)) pad_nil))))) (len_cons (len_cons (len_cons (len_cons (len_cons len_nil))))))))
    (psd_one (psd_ret (pd_call (takes_of rfl rfl rfl rfl) (ok__law_pick T) (hr.mono (by first | exact Nat.le_refl _ | exact Nat.le_trans (by decide) (Nat.le_add_right _ _))) hg T.g__law_pick T.D__law_pick.kp (b__law_pick_0 T.D__law_pick) .nil (fun _ _ => rfl) (pae_p 0 (pae_d (pd_var 5) pae_nil)) pke_nil (lenE_pot (lenE_cons lenE_nil)) lenE_nil (bl_b__law_pick_0)))))))))
theorem ok__law_right (T : Tx K mg) : Pd.FnP P w K mg base 19 T.a__law_right T.d__law_right ["_law_pot_here"] m__law_right := by
  exact Pd.fnp T.D__law_right sc__law_right fun cdv A outer s H E F hr hg => (show PSDs _ F _ (defBody s__law_right) r__law_right from (psd_cons (psd_set 1 sc__law_right.nd (pd_call (takes_of rfl rfl rfl rfl) (ok__law_pick T) (hr.mono (by decide)) hg T.g__law_pick T.D__law_pick.kp (b__law_pick_0 T.D__law_pick) .nil (fun _ _ => rfl) (pae_p 0 (pae_d (pd_frz (po_lst (pad_cons pd_int (pad_cons pd_int (pad_cons pd_int (pad_cons pd_int pad_nil)))) (len_cons (len_cons (len_cons (len_cons len_nil)))))) pae_nil)) pke_nil (lenE_pot (lenE_cons lenE_nil)) lenE_nil (bl_b__law_pick_0)))
    (psd_cons (psd_set 2 sc__law_right.nd (pd_call (takes_of rfl rfl rfl rfl) (ok__law_poly T) (hr.mono (by decide)) hg T.g__law_poly T.D__law_poly.kp (b__law_poly_0 T.D__law_poly) .nil (fun _ _ => rfl) (pae_p 0 (pae_d (pd_var 1) (pae_d pd_int (pae_d (pd_ife (pt_cmp1 od_gt (pd_var 1) pd_int) (pd_op od_div pd_int (pd_var 1)) pd_int) pae_nil)))) pke_nil (lenE_pot (lenE_cons (lenE_cons (lenE_cons lenE_nil)))) lenE_nil (bl_b__law_poly_0)))
    (psd_cons (psd_par (i := 3) (j := 4) rfl sc__law_right.nd (pad_cons (pd_call (takes_of rfl rfl rfl rfl) (ok__law_told T) (hr.mono (by decide)) hg T.g__law_told T.D__law_told.kp (b__law_told_0 T.D__law_told) .nil (fun _ _ => rfl) (pae_d (pd_var 2) pae_nil) pke_nil (lenE_cons lenE_nil) lenE_nil (bl_b__law_told_0)) (pad_cons (pd_call (takes_of rfl rfl rfl rfl) (ok__law_nested T 12) (hr.mono (by decide)) hg T.g__law_nested T.D__law_nested.kp (b__law_nested_0 T.D__law_nested) .nil (fun _ _ => rfl) (pae_d (pd_var 2) (pae_d (pd_var 1) pae_nil)) pke_nil (lenE_cons (lenE_cons lenE_nil)) lenE_nil (bl_b__law_nested_0)) pad_nil)))
    (psd_cons (psd_set 5 sc__law_right.nd (pd_call (takes_of rfl rfl rfl rfl) (ok_nested_of T) (hr.mono (by decide)) hg T.g_nested_of T.D_nested_of.kp (b_nested_of_0 T.D_nested_of) .nil (fun _ _ => rfl) (pae_d (pd_var 1) (pae_d (pd_var 3) pae_nil)) pke_nil (lenE_cons (lenE_cons lenE_nil)) lenE_nil (bl_b_nested_of_0)))
    (psd_cons (psd_if (PWD.pt (pw_o (pt_cmp1 (od_ne hr) (pd_call (takes_of rfl rfl rfl rfl) (ok_poly_of T) (hr.mono (by decide)) hg T.g_poly_of T.D_poly_of.kp (b_poly_of_0 T.D_poly_of) .nil (fun _ _ => rfl) (pae_d (pd_var 1) (pae_d (pd_frz (po_listOf T.n_list (pad_cons (pd_var 3) pad_nil))) pae_nil)) pke_nil (lenE_cons (lenE_cons lenE_nil)) lenE_nil (bl_b_poly_of_0)) (pd_var 3)) (pw_o (pt_cmp1 (od_ne hr) (pd_var 5) (pd_var 4)) (pw_o1 (pt_cmp1 (od_ne hr) (pd_call0 (takes_of rfl rfl rfl rfl) (ok_nested_of T) (hr.mono (by decide)) hg T.g_nested_of T.D_nested_of.kp (b_nested_of_1 T.D_nested_of) .nil (fun _ _ => rfl) (pke_d (pd_var 3) (pke_d (pd_var 1) pke_nil)) (lenE_cons (lenE_cons lenE_nil)) (bl_b_nested_of_1)) (pd_var 4)))))) (psd_one (psd_ret pd_bl)) psd_nil)
    (psd_cons (psd_if (PWD.pt (pw_o (pt_cmp1 od_isnot2 (pd_call (takes_of rfl rfl rfl rfl) (ok_is_nested T) (hr.mono (by decide)) hg T.g_is_nested T.D_is_nested.kp (b_is_nested_0 T.D_is_nested) .nil (fun _ _ => rfl) (pae_d (pd_var 1) (pae_d (pd_var 5) pae_nil)) pke_nil (lenE_cons (lenE_cons lenE_nil)) lenE_nil (bl_b_is_nested_0)) pd_bl) (pw_o1 (pt_cmp1 (od_ne hr) (pd_call (takes_of rfl rfl rfl rfl) (ok_poly_of_nested T) (hr.mono (by decide)) hg T.g_poly_of_nested T.D_poly_of_nested.kp (b_poly_of_nested_0 T.D_poly_of_nested) .nil (fun _ _ => rfl) (pae_d (pd_var 1) (pae_d (pd_var 5) pae_nil)) pke_nil (lenE_cons (lenE_cons lenE_nil)) lenE_nil (bl_b_poly_of_nested_0)) (pd_var 3))))) (psd_one (psd_ret pd_bl)) psd_nil)
    (psd_cons (psd_for (passes_of rfl) rfl (pid_rng1 T.n_range (pad_cons pd_int pad_nil)) (pgt_name sc__law_right.nd (i := 6)) (psd_cons (psd_set 7 sc__law_right.nd (pd_call (takes_of rfl rfl rfl rfl) (ok__law_point T) (hr.mono (by decide)) hg T.g__law_point T.D__law_point.kp (b__law_point_0 T.D__law_point) .nil (fun _ _ => rfl) (pae_p 0 (pae_d (pd_var 1) pae_nil)) pke_nil (lenE_pot (lenE_cons lenE_nil)) lenE_nil (bl_b__law_point_0)))
    (psd_cons (psd_set 8 sc__law_right.nd (pd_call (takes_of rfl rfl rfl rfl) (ok__law_value T) (hr.mono (by decide)) hg T.g__law_value T.D__law_value.kp (b__law_value_0 T.D__law_value) .nil (fun _ _ => rfl) (pae_d (pd_var 2) (pae_d (pd_var 7) pae_nil)) pke_nil (lenE_cons (lenE_cons lenE_nil)) lenE_nil (bl_b__law_value_0)))
    (psd_cons (psd_if (PWD.pt (pw_o (pt_cmp1 (od_ne hr) (pd_call (takes_of rfl rfl rfl rfl) (ok_value_of_nested T) (hr.mono (by decide)) hg T.g_value_of_nested T.D_value_of_nested.kp (b_value_of_nested_0 T.D_value_of_nested) .nil (fun _ _ => rfl) (pae_d (pd_var 1) (pae_d (pd_var 5) (pae_d (pd_var 7) pae_nil))) pke_nil (lenE_cons (lenE_cons (lenE_cons lenE_nil))) lenE_nil (bl_b_value_of_nested_0)) (pd_var 8)) (pw_o1 (pt_cmp1 (od_ne hr) (pd_call0 (takes_of rfl rfl rfl rfl) (ok_value_of_nested T) (hr.mono (by decide)) hg T.g_value_of_nested T.D_value_of_nested.kp (b_value_of_nested_1 T.D_value_of_nested) .nil (fun _ _ => rfl) (pke_d (pd_var 7) (pke_d (pd_var 5) (pke_d (pd_var 1) pke_nil))) (lenE_cons (lenE_cons (lenE_cons lenE_nil))) (bl_b_value_of_nested_1)) (pd_var 8))))) (psd_one (psd_ret pd_bl)) psd_nil)
    (psd_one (psd_if (PWD.pt (pw_a (pt_cmp1 (od_ne hr) (pd_var 3) (pd_tup pad_nil len_nil)) (pw_a1 (pt_cmp1 (od_ne hr) (pd_call (takes_of rfl rfl rfl rfl) (ok_value_at T) (hr.mono (by decide)) hg T.g_value_at T.D_value_at.kp (b_value_at_0 T.D_value_at) .nil (fun _ _ => rfl) (pae_d (pd_var 3) (pae_d (pd_var 7) pae_nil)) pke_nil (lenE_cons (lenE_cons lenE_nil)) lenE_nil (bl_b_value_at_0)) (pd_var 8))))) (psd_one (psd_ret pd_bl)) psd_nil))))))
    (psd_cons (psd_for (passes_of rfl) rfl (pid_rng1 T.n_range (pad_cons pd_int pad_nil)) (pgt_name sc__law_right.nd (i := 6)) (psd_cons (psd_set 9 sc__law_right.nd (pd_call (takes_of rfl rfl rfl rfl) (ok__law_bent T 12) (hr.mono (by decide)) hg T.g__law_bent T.D__law_bent.kp (b__law_bent_0 T.D__law_bent) .nil (fun _ _ => rfl) (pae_p 0 (pae_d (pd_var 4) pae_nil)) pke_nil (lenE_pot (lenE_cons lenE_nil)) lenE_nil (bl_b__law_bent_0)))
    (psd_cons (psd_set 10 sc__law_right.nd (pd_call (takes_of rfl rfl rfl rfl) (ok__law_is_nested T) (hr.mono (by decide)) hg T.g__law_is_nested T.D__law_is_nested.kp (b__law_is_nested_0 T.D__law_is_nested) .nil (fun _ _ => rfl) (pae_d (pd_var 9) (pae_d (pd_var 1) pae_nil)) pke_nil (lenE_cons (lenE_cons lenE_nil)) lenE_nil (bl_b__law_is_nested_0)))
    (psd_cons (psd_if (pt_cmp1 (od_ne hr) (pd_B (cs_repr2U (have h_ := Pd.room_178 hr; h_) hg) T.n_repr (pad_cons (pd_frz (po_lst (pad_cons (pd_call (takes_of rfl rfl rfl rfl) (ok_is_nested T) (hr.mono (by decide)) hg T.g_is_nested T.D_is_nested.kp (b_is_nested_0 T.D_is_nested) .nil (fun _ _ => rfl) (pae_d (pd_var 1) (pae_d (pd_var 9) pae_nil)) pke_nil (lenE_cons (lenE_cons lenE_nil)) lenE_nil (bl_b_is_nested_0)) (pad_cons (pd_call0 (takes_of rfl rfl rfl rfl) (ok_is_nested T) (hr.mono (by decide)) hg T.g_is_nested T.D_is_nested.kp (b_is_nested_1 T.D_is_nested) .nil (fun _ _ => rfl) (pke_d (pd_var 9) (pke_d (pd_var 1) pke_nil)) (lenE_cons (lenE_cons lenE_nil)) (bl_b_is_nested_1)) pad_nil)) (len_cons (len_cons len_nil)))) pad_nil)) (pd_B (cs_repr2U (have h_ := Pd.room_178 hr; h_) hg) T.n_repr (pad_cons (pd_frz (po_lst (pad_cons (pd_var 10) (pad_cons (pd_var 10) pad_nil)) (len_cons (len_cons len_nil)))) pad_nil))) (psd_one (psd_ret pd_bl)) psd_nil)
    (psd_one (psd_if (PWD.pt (pw_a (pt_bool (pd_var 10)) (pw_a1 (pt_cmp1 (od_ne hr) (pd_call0 (takes_of rfl rfl rfl rfl) (ok_poly_of_nested T) (hr.mono (by decide)) hg T.g_poly_of_nested T.D_poly_of_nested.kp (b_poly_of_nested_1 T.D_poly_of_nested) .nil (fun _ _ => rfl) (pke_d (pd_var 9) (pke_d (pd_var 1) pke_nil)) (lenE_cons (lenE_cons lenE_nil)) (bl_b_poly_of_nested_1)) (pd_call (takes_of rfl rfl rfl rfl) (ok__law_told T) (hr.mono (by decide)) hg T.g__law_told T.D__law_told.kp (b__law_told_0 T.D__law_told) .nil (fun _ _ => rfl) (pae_d (pd_call (takes_of rfl rfl rfl rfl) (ok__law_terms_of T 12) (hr.mono (by decide)) hg T.g__law_terms_of T.D__law_terms_of.kp (b__law_terms_of_0 T.D__law_terms_of) .nil (fun _ _ => rfl) (pae_d (pd_var 9) (pae_d (pd_var 1) pae_nil)) pke_nil (lenE_cons (lenE_cons lenE_nil)) lenE_nil (bl_b__law_terms_of_0)) pae_nil) pke_nil (lenE_cons lenE_nil) lenE_nil (bl_b__law_told_0)))))) (psd_one (psd_ret pd_bl)) psd_nil))))))
    (psd_cons (psd_set 11 sc__law_right.nd (pd_frz (po_lst (pad_cons pd_non (pad_cons pd_int (pad_cons pd_str (pad_cons (pd_frz (po_lst pad_nil len_nil)) (pad_cons (pd_tup pad_nil len_nil) (pad_cons (pd_tup (pad_cons pd_int (pad_cons pd_int pad_nil)) (len_cons (len_cons len_nil))) (pad_cons (pd_tup (pad_cons (pd_tup (pad_cons pd_int (pad_cons pd_int pad_nil)) (len_cons (len_cons len_nil))) (pad_cons (pd_tup (pad_cons pd_int (pad_cons pd_int pad_nil)) (len_cons (len_cons len_nil))) pad_nil)) (len_cons (len_cons len_nil))) (pad_cons (pd_tup (pad_cons (pd_tup (pad_cons (pd_tup (pad_cons pd_int (pad_cons pd_int pad_nil)) (len_cons (len_cons len_nil))) pad_nil) (len_cons len_nil)) pad_nil) (len_cons len_nil)) pad_nil)))))))) (len_cons (len_cons (len_cons (len_cons (len_cons (len_cons (len_cons (len_cons len_nil)))))))))))
    (psd_one (psd_ret (pd_cmp (od_eq hr) (pd_B (cs_repr2U (have h_ := Pd.room_178 hr; h_) hg) T.n_repr (pad_cons (pd_frz (po_comp [("_law_value_here", 8)] (.n 8) rfl sc__law_right.nd (pid_seq (pd_var 11)) (show BlkOk ["_law_pot_here", "_law_letters", "_law_sums_here", "_law_poly_here", "_law_due", "_law_told_here", "_law_turn", "_law_point_here", "_law_value_here", "_law_bent_here", "_law_is_so", "_law_odd"] (defScope s__law_right) _ _ from ⟨rfl, by decide +kernel, by decide +kernel, by decide +kernel, by decide +kernel⟩) (by first | (simp [Pd.TgtIn]; done) | (simp [Pd.TgtIn, Pd.in1]; done) | (simp [Pd.TgtIn, Pd.in1]; omega)) (fun s_ H_ C_ cl_ fp_ => (pg_name sc__law_right.nd (i := 8) rfl (by first | exact Or.inl rfl | exact Or.inr rfl))) (fun F_ s_ H_ C_ cl_ fp_ => ptsd_nil) (fun F_ s_ H_ C_ cl_ fp_ => (pd_call tk_none (ok_is_nested T) (hr.mono (by decide)) hg T.g_is_nested T.D_is_nested.kp (b_is_nested_0 T.D_is_nested) .nil (fun _ _ => rfl) (pae_d (pd_var 1) (pae_d (pd_var 8) pae_nil)) pke_nil (lenE_cons (lenE_cons lenE_nil)) lenE_nil (bl_b_is_nested_0))))) pad_nil)) (pd_B (cs_repr2U (have h_ := Pd.room_178 hr; h_) hg) T.n_repr (pad_cons (pd_frz (po_comp [("_law_value_here", 8)] (.n 8) rfl sc__law_right.nd (pid_seq (pd_var 11)) (show BlkOk ["_law_pot_here", "_law_letters", "_law_sums_here", "_law_poly_here", "_law_due", "_law_told_here", "_law_turn", "_law_point_here", "_law_value_here", "_law_bent_here", "_law_is_so", "_law_odd"] (defScope s__law_right) _ _ from ⟨rfl, by decide +kernel, by decide +kernel, by decide +kernel, by decide +kernel⟩) (by first | (simp [Pd.TgtIn]; done) | (simp [Pd.TgtIn, Pd.in1]; done) | (simp [Pd.TgtIn, Pd.in1]; omega)) (fun s_ H_ C_ cl_ fp_ => (pg_name sc__law_right.nd (i := 8) rfl (by first | exact Or.inl rfl | exact Or.inr rfl))) (fun F_ s_ H_ C_ cl_ fp_ => ptsd_nil) (fun F_ s_ H_ C_ cl_ fp_ => (pd_call tk_none (ok__law_is_nested T) (hr.mono (by decide)) hg T.g__law_is_nested T.D__law_is_nested.kp (b__law_is_nested_0 T.D__law_is_nested) .nil (fun _ _ => rfl) (pae_d (pd_var 8) (pae_d (pd_var 1) pae_nil)) pke_nil (lenE_cons (lenE_cons lenE_nil)) lenE_nil (bl_b__law_is_nested_0))))) pad_nil)))))))))))))))
theorem ok_law (T : Tx K mg) : Pd.FnP P w K mg base 20 T.a_law T.d_law ["_law_script"] m_law :=
  Pd.fnp T.D_law sc_law fun cdv A outer s H E F hr hg => (show PSDs _ F _ (defBody s_law) r_law from (psd_one (psd_lawR (takes_of rfl rfl rfl rfl) (ok__law_right T) (hr.mono (by decide)) hg T.g__law_right T.D__law_right.kp (b__law_right_0 T.D__law_right) (po_call (takes_of rfl rfl rfl rfl) (ok__law_pot T) (hr.mono (by decide)) hg T.g__law_pot T.D__law_pot.kp (b__law_pot_0 T.D__law_pot) .nil (fun _ _ => rfl) (pae_d (pd_var 0) (pae_d pd_int pae_nil)) pke_nil (lenE_cons (lenE_cons lenE_nil)) lenE_nil (bl_b__law_pot_0)))))
end
end Tc


local macro_rules
  | `(tactic| simp! [$as,*] $[$l:location]?) => `(tactic| simp only [Pd.gv_var, Pd.varK_d, Pd.potK_p, Pd.gv_op, Pd.opK1_a, Pd.opK2_a, Pd.gv_I, Pd.gv_eqI, Pd.gv_neI, Pd.gv_neg, Pd.negK_a, Pd.gv_bool, Pd.boolK_a, Pd.gv_not, Pd.notK_a, Pd.brK_t, Pd.brK_f, Pd.brK_d, Pd.brK_n, Pd.runP_a, Pd.ansP_a, Pd.gv_and, Pd.gv_or, Pd.gv_andV, Pd.gv_orV, Pd.blK_a, Pd.gv_notV, Pd.gv_ite, Pd.gv_if, Pd.gv_nil, Pd.gv_cons, Pd.consK1_a, Pd.consK2_a, Pd.mapK_a, Pd.gv_tup, Pd.gv_lst, Pd.optK_a, Pd.gv_B, Pd.gv_chn, Pd.chnK_a, Pd.gv_last, Pd.gv_link, Pd.linkK_a, Pd.gv_isi, Pd.isi_ii, Pd.isi_bi, Pd.isi_tt, Pd.isi_ll, Pd.isi_ss, Pd.isi_ti, Pd.isi_li, Pd.isi_si, Pd.isi_tl, Pd.isi_lt, Pd.isi_it, Pd.isi_il, Pd.isi_is, Pd.isi_bs, Pd.isi_ib, Pd.isi_bb, Pd.isi_st, Pd.isi_sl, Pd.gv_seq, Pd.sqK_n, Pd.sqK_r, Pd.sqK_b, Pd.sqK_c, Pd.gv_next, Pd.gv_brk, Pd.gv_cnt, Pd.gv_retN, Pd.gv_set, Pd.setK_a, Pd.gv_par, Pd.parK_2, Pd.parK_3, Pd.gv_asg, Pd.asgK_a, Pd.asgR_s, Pd.bindT_n, Pd.bindT_2, Pd.bindT_3, Pd.gv_retS, Pd.retK_a, Pd.gv_retO, Pd.retOK_a, Pd.gv_fn, Pd.fnK_n, Pd.fnK_r, Pd.gv_enil, Pd.gv_econs, Pd.ecK1_a, Pd.ecK2_a, Pd.gv_epot, Pd.epK_a, Pd.rdK_d, Pd.rdK_o, Pd.roK_o, Pd.gv_call, Pd.cK1_a, Pd.cK2_a, Pd.gv_callO, Pd.coK1_a, Pd.coK2_a, Pd.gv_potI, Pd.potI_0, Pd.potI_1, Pd.gv_potS, Pd.potSK_a, Pd.gv_potD, Pd.potDK_a, Pd.gv_rng, Pd.gv_seqI, Pd.seqOf_l, Pd.seqOf_t, Pd.gv_for, Pd.forK_a, Pd.gv_comp, Pd.compK_a, Pd.gv_comp0, Pd.cmpR_s, Pd.cmpK2_a, Pd.cmpK1_a, Pd.gv_comp1, Pd.gv_tt1, Pd.hide_nil, Pd.hide_0, Pd.hide_d, Pd.hide_p, Pd.hide_o, Pd.wipeD_nil, Pd.wipeD_cons, Pd.gv_ok, Pd.gv_bad, Pd.gv_ret, Pd.gv_opt, Pd.gv_max2, Pd.gv_min2, Pd.gv_int, Pd.gv_ix0, Pd.gv_ix1, Pd.gv_ix2, Pd.gv_abs, Pd.pick_nil, Pd.pick_0, Pd.pick_1, Pd.pick_2, Pd.pick_3, Pd.pick_4, Pd.pick_5, Pd.gv_lenT0, Pd.gv_lenT1, Pd.gv_lenT2, Pd.gv_lenT3, Pd.gv_lenT4, Pd.gv_lenL0, Pd.gv_lenL1, Pd.gv_lenL2, Pd.gv_lenL3, Pd.gv_lenL4, Pd.gv_neS, Pd.gv_eqS, Pd.gv_rng1, Pd.gv_rng2, Pd.bnd62_of, Pd.rngL_len, Pd.big_of, Pd.gv_all2, Pd.gv_maxL2, Pd.gv_minL2, Pd.gv_goS, Pd.gv_go0, Pd.goK_n, Pd.goK_c, Pd.goK_b, Pd.goK_r, Pd.goR_s, Pd.gv_maxL4, Pd.gv_minL4, Pd.gv_tupOf, Pd.tupOf_l, Pd.tupOf_t, Pd.gv_listOf, Pd.listOf_l, Pd.listOf_t, Pd.gv_zip, Pd.zipOf_l, Pd.zipOf_t, Pd.gv_zip3, Pd.gv_zipB, Pd.zipB_ll, Pd.zipB_tt, Pd.zipB_lt, Pd.zipB_tl, Pd.gv_enum, Pd.enumOf_l, Pd.add2_i, Pd.add2_t, Pd.gv_sl, Pd.slK0_a, Pd.slK1_a, Pd.slK2_a, Pd.gSl_t, Pd.gSl_l, Pd.gv_enum2, Pd.enumOf2_l, Pd.enumOf2_t, Pd.gv_lend, Pd.lendK_n, Pd.lendK_b, Pd.lendK_i, Pd.lendK_s, Pd.frzAll_nil, Pd.frzAll_cons, Pd.frzE1_o, Pd.frzE1_d, Pd.frzE1_p, Pd.frzE1_n, Pd.gv_itO, Pd.itOK_a, Pd.gv_setI, Pd.siK_a, Pd.gv_setI2, Pd.si2K_a, Pd.si2L_n, Pd.mul2_i, Pd.mul2_t, Pd.gv_noP, Pd.gv_pt, Pd.ptK_a, Pd.gv_setO, Pd.setOK_a, Pd.ownK_o, Pd.gv_app, Pd.appK1_a, Pd.appK2_a, Pd.gv_ext, Pd.extK1_a, Pd.extK2_a, Pd.gv_parE, Pd.gv_bor, Pd.borK_a, Pd.gv_frz, Pd.frzE_o, Pd.gv_expr, Pd.exprK_a, Pd.is2_b, Pd.isn2_b, Pd.is2_n, Pd.isn2_n, Pd.is2_i, Pd.isn2_i, Pd.is2_t, Pd.isn2_t, List.map_cons, List.map_nil, List.length_cons, List.length_nil, List.replicate, List.cons_append, List.nil_append, List.append_nil, List.getElem?_cons_zero, List.getElem?_cons_succ, List.set_cons_zero, List.set_cons_succ, Nat.reduceSub, Nat.reduceAdd, Nat.reduceMul, Nat.zero_add, Nat.add_zero, true_and, and_true, Int.reducePow, Int.reduceToNat, Int.reduceMul, Int.reduceAdd, Int.reduceSub, Int.reduceMod, Int.reduceNeg, Int.reduceLE, Int.reduceLT, Int.reduceEq, Nat.reduceLT, Nat.reduceLeDiff, Nat.reducePow, Int.reduceAbs, ne_eq, not_false_eq_true, not_true_eq_false, Pd.small_of, decide_true, decide_false, Bool.and_self, Bool.true_and, Bool.and_true, Bool.not_false, Bool.not_true, Pd.brK_t, Pd.brK_f, Pd.gv_parOD, Pd.odK1_a, Pd.odK2_a, Pd.gv_parDO, Pd.doK1_a, Pd.doK2_a, Pd.add3_i, Pd.add3_l, Pd.add3_t, Pd.gv_rev, Pd.rev_2, Pd.mul3_i, Pd.gv_repO, Pd.repK1_a, Pd.repK_a, Pd.gv_sorted, Pd.gv_lendT, Pd.gv_slO0, Pd.slOK_a, Pd.gv_revT, Pd.revT_t, Pd.gv_opn, Pd.opnK_n, Pd.opnK_b, Pd.opnK_c, Pd.opnK_r, Pd.gv_opnA, Pd.opnA_a, Pd.gv_callL, Pd.clK_a, Pd.gv_callS, Pd.csK_a, Pd.csE_a, Pd.lamK_d, Pd.lamK_o, Pd.clr_nil, Pd.clr_0, Pd.clr_d, Pd.clr_p, Pd.clr_o, Pd.clr_n, Pd.hide_n, Pd.frzE1_opn, true_implies, false_implies, forall_const, implies_true, not_false_iff, Pd.addS_i, Pd.mulS_i, Pd.intS_i, Pd.addS_t, Pd.lenS_t, Pd.eqS_t, Pd.neS_t, Pd.tx_inj, Pd.gv_slS, Pd.slS0_a, Pd.slS_t, Pd.gv_seqS, Pd.seqS_t, Pd.gv_setQ, Pd.setQK_a, Pd.gv_dct, Pd.dctK_a, Pd.gv_putQ, Pd.putQ1_a, Pd.putQ2_k, Pd.qK_d, Pd.gv_ixW, Pd.gv_getW, Pd.getQ2_a, Pd.getQ3_k, Pd.gv_getQ, Pd.getQ1_a, Pd.gv_frzQ, Pd.frzX_d, Pd.gv_callW, Pd.gv_dictOf, Pd.gv_listOfQ, Pd.listOfQ_d, Pd.listOfQ_l, Pd.listOfQ_t, Pd.gv_seqQ, Pd.seqOfQ_d, Pd.seqOfQ_l, Pd.seqOfQ_t, Pd.gv_sortedT, Pd.lenQ_d, Pd.gv_isi2, Pd.hide_dic, Pd.frzE1_dic, Pd.noDic_nil, Pd.noDic_n, Pd.noDic_d, Pd.noDic_o, Pd.noDic_p, Pd.noDic_op, $as,*] $[$l:location]?)

namespace Tc
open PySem PySem.Spec Pd
/-! ### whole numbers of so many digits -/
def bi (k : Nat) (i : Int) : Prop := i.natAbs ≤ 2 ^ k
instance (k : Nat) (i : Int) : Decidable (bi k i) := inferInstanceAs (Decidable (i.natAbs ≤ 2 ^ k))
theorem bi.mono {a b : Nat} {i : Int} (h : bi a i) (l : a ≤ b) : bi b i := Nat.le_trans h (Nat.pow_le_pow_right (by decide) l)
theorem bi.small {k : Nat} {i : Int} (h : bi k i) (l : k < 9000) : small i = true := by
  refine decide_eq_true ?_
  by_cases z : i.natAbs = 0
  · rw [z]
    decide
  · exact (Nat.log2_lt z).mpr (Nat.lt_of_le_of_lt h (Nat.pow_lt_pow_right (by decide) l))
theorem bi.mul {a b : Nat} {i j : Int} (h : bi a i) (g : bi b j) : bi (a + b) (i * j) := by
  unfold bi at *
  rw [Int.natAbs_mul, Nat.pow_add]
  exact Nat.mul_le_mul h g
theorem bi.add {a b : Nat} {i j : Int} (h : bi a i) (g : bi b j) : bi (max a b + 1) (i + j) := by
  have h1 : i.natAbs ≤ 2 ^ (max a b) := h.mono (Nat.le_max_left _ _)
  have g1 : j.natAbs ≤ 2 ^ (max a b) := g.mono (Nat.le_max_right _ _)
  show (i + j).natAbs ≤ 2 ^ (max a b + 1)
  rw [Nat.pow_succ]
  omega
theorem bi.neg {a : Nat} {i : Int} (h : bi a i) : bi a (-i) := by
  unfold bi at *
  rw [Int.natAbs_neg]
  exact h
theorem bi.sub {a b : Nat} {i j : Int} (h : bi a i) (g : bi b j) : bi (max a b + 1) (i - j) := by
  rw [Int.sub_eq_add_neg]
  exact h.add g.neg
theorem bi.abs {a : Nat} {i : Int} (h : bi a i) : bi a (i.natAbs : Nat) := by
  unfold bi at *
  simpa using h
theorem bi_of {k : Nat} {i : Int} (h1 : -(2 ^ k : Nat) ≤ i) (h2 : i ≤ (2 ^ k : Nat)) : bi k i := by
  unfold bi
  omega
/-! ### ratios as pairs -/
abbrev W2 := Int × Int
def qv (w : W2) : Rat := (w.1 : Rat) / (w.2 : Rat)
def dw (w : W2) : Dt := .tup [.int w.1, .int w.2]
def dq (q : Rat) : Dt := .tup [.int q.num, .int (q.den : Nat)]
theorem cast_ne {i : Int} (h : i ≠ 0) : (i : Rat) ≠ 0 := fun e => h (Rat.intCast_inj.mp (by rw [e]; rfl))
theorem q_num_den (q : Rat) : (q.num : Rat) / ((q.den : Int) : Rat) = q := by
  rw [← Rat.divInt_eq_div]
  exact Rat.num_divInt_den q
theorem den_pos (q : Rat) : (0 : Int) < (q.den : Int) := by
  have := q.den_pos
  omega
theorem qv_q (q : Rat) : qv (q.num, (q.den : Nat)) = q := q_num_den q
theorem qv_mul {a b : W2} (ha : a.2 ≠ 0) (hb : b.2 ≠ 0) : qv (a.1 * b.1, a.2 * b.2) = qv a * qv b := by
  unfold qv
  have h1 := cast_ne ha
  have h2 := cast_ne hb
  simp only [Rat.intCast_mul]
  grind
theorem qv_add {a b : W2} (ha : a.2 ≠ 0) (hb : b.2 ≠ 0) : qv (a.1 * b.2 + b.1 * a.2, a.2 * b.2) = qv a + qv b := by
  unfold qv
  have h1 := cast_ne ha
  have h2 := cast_ne hb
  simp only [Rat.intCast_mul, Rat.intCast_add]
  grind
/-! ### made of a number over another -/
theorem num_den_of {n u : Int} (hu : u ≠ 0) (q : Rat) (e : q = (n : Rat) / (u : Rat)) : q.num = (u.sign * n) / (Int.gcd n u : Nat) ∧ (q.den : Int) = (u.natAbs : Int) / (Int.gcd n u : Nat) := by
  rw [← Rat.divInt_eq_div] at e
  subst e
  rw [Rat.num_divInt, Rat.den_divInt, if_neg hu, Int.gcd_comm]
  exact ⟨rfl, by rw [Int.natCast_ediv]⟩
theorem made_pos {n u : Int} (hu : 0 < u) : dq ((n : Rat) / (u : Rat)) = .tup [.int (n.fdiv (Int.gcd n u : Nat)), .int (u.fdiv (Int.gcd n u : Nat))] := by
  obtain ⟨e1, e2⟩ := num_den_of (n := n) (Int.ne_of_gt hu) _ rfl
  have g0 := Int.gcd_pos_of_ne_zero_right n (Int.ne_of_gt hu)
  unfold dq
  rw [e1, e2, fd_pos (by omega), fd_pos (by omega), Int.sign_eq_one_of_pos hu, Int.one_mul, Int.natAbs_of_nonneg (Int.le_of_lt hu)]
theorem made_neg {n u : Int} (hu : u < 0) : dq ((n : Rat) / (u : Rat)) = .tup [.int (n.fdiv (0 - (Int.gcd n u : Nat))), .int (u.fdiv (0 - (Int.gcd n u : Nat)))] := by
  have e0 : (n : Rat) / (u : Rat) = ((-n : Int) : Rat) / ((-u : Int) : Rat) := by
    have h1 := cast_ne (Int.ne_of_lt hu)
    simp only [Rat.intCast_neg]
    grind
  rw [e0, made_pos (show 0 < -u by omega), Int.neg_gcd, Int.gcd_neg]
  have e1 : ∀ x g : Int, x.fdiv (0 - g) = (-x).fdiv g := fun x g => by
    rw [Int.zero_sub, ← Int.neg_fdiv_neg, Int.neg_neg]
  rw [e1, e1]
/-! ### ratios of so many digits -/
def bz (k : Nat) (q : Rat) : Prop := bi k q.num ∧ bi k (q.den : Int)
instance (k : Nat) (q : Rat) : Decidable (bz k q) := inferInstanceAs (Decidable (bi k q.num ∧ bi k (q.den : Int)))
theorem bz.mono {a b : Nat} {q : Rat} (h : bz a q) (l : a ≤ b) : bz b q := ⟨h.1.mono l, h.2.mono l⟩
theorem bz_of {k : Nat} {w : W2} {q : Rat} (hw : w.2 ≠ 0) (e : qv w = q) (h1 : bi k w.1) (h2 : bi k w.2) : bz k q := by
  obtain ⟨e1, e2⟩ := num_den_of (n := w.1) hw q e.symm
  have e3 : q.den = w.2.natAbs / Int.gcd w.1 w.2 := by
    have : (q.den : Int) = ((w.2.natAbs / Int.gcd w.1 w.2 : Nat) : Int) := by rw [e2, Int.natCast_ediv]
    exact Int.ofNat.inj this
  have e4 : q.num.natAbs ≤ w.1.natAbs := by
    rw [e1]
    refine Nat.le_trans (Int.natAbs_ediv_le_natAbs _ _) ?_
    rw [Int.natAbs_mul, Int.natAbs_sign_of_ne_zero hw, Nat.one_mul]
    exact Nat.le_refl _
  refine ⟨Nat.le_trans e4 h1, ?_⟩
  show (q.den : Int).natAbs ≤ 2 ^ k
  rw [Int.natAbs_natCast, e3]
  exact Nat.le_trans (Nat.div_le_self _ _) h2
theorem den_ne (q : Rat) : ((q.den : Nat) : Int) ≠ 0 := Int.ne_of_gt (den_pos q)
theorem bz.add {a b : Nat} {p q : Rat} (h : bz a p) (g : bz b q) : bz (a + b + 1) (p + q) := by
  refine bz_of (w := (p.num * (q.den : Int) + q.num * (p.den : Int), (p.den : Int) * (q.den : Int))) (Int.mul_ne_zero (den_ne p) (den_ne q)) ?_ ?_ ?_
  · rw [qv_add (a := (p.num, (p.den : Int))) (b := (q.num, (q.den : Int))) (den_ne p) (den_ne q), qv_q, qv_q]
  · exact ((h.1.mul g.2).add (g.1.mul h.2)).mono (by omega)
  · exact (h.2.mul g.2).mono (by omega)
theorem bz.mul {a b : Nat} {p q : Rat} (h : bz a p) (g : bz b q) : bz (a + b) (p * q) := by
  refine bz_of (w := (p.num * q.num, (p.den : Int) * (q.den : Int))) (Int.mul_ne_zero (den_ne p) (den_ne q)) ?_ (h.1.mul g.1) (h.2.mul g.2)
  rw [qv_mul (a := (p.num, (p.den : Int))) (b := (q.num, (q.den : Int))) (den_ne p) (den_ne q), qv_q, qv_q]
theorem bz.neg {a : Nat} {p : Rat} (h : bz a p) : bz a (-p) := by
  unfold bz at *
  rw [Rat.neg_num, Rat.neg_den]
  exact ⟨h.1.neg, h.2⟩
theorem bz.sub {a b : Nat} {p q : Rat} (h : bz a p) (g : bz b q) : bz (a + b + 1) (p - q) := by
  rw [Rat.sub_eq_add_neg]
  exact h.add g.neg
/-! ### sizes -/
def qabs (q : Rat) : Rat := if q < 0 then -q else q
theorem bz.abs {a : Nat} {p : Rat} (h : bz a p) : bz a (qabs p) := by
  unfold qabs
  split
  · exact h.neg
  · exact h
end Tc


namespace Tc
open PySem PySem.Spec Pd
theorem gv_gcd2 {ρ : DEnv} {θ : Pot} (n d : Int) {Q : Dt → Pot → Prop} : Gv (opt (gGcd [.int n, .int d]) ρ θ) Q = Q (.int (Int.gcd n d : Nat)) θ := by
  have e : gGcd [.int n, .int d] = some (.int ((Nat.gcd n.natAbs d.natAbs : Nat) : Int)) := rfl
  rw [e, ← Int.gcd_eq_natAbs_gcd_natAbs, gv_opt]
theorem is_integer_eq {θ : Pot} {i : Int} {Q : Ret → Pot → Prop} : Gv (m_is_integer [.dat (.int i)] θ) Q = Q (.d (.bl true)) θ := by
  unfold m_is_integer r_is_integer
  simp! [true_and]
theorem bi_gcd {k : Nat} {n u : Int} (hu : u ≠ 0) (h : bi k u) : bi k (Int.gcd n u : Nat) := by
  have : Int.gcd n u ≤ u.natAbs := Int.gcd_le_natAbs_right _ hu
  unfold bi at *
  rw [Int.natAbs_natCast]
  omega
theorem made_ok {θ : Pot} {n u : Int} {k : Nat} {Q : Ret → Pot → Prop} (hu : u ≠ 0) (h : bi k u) (hk : k < 8990) (q : Q (.d (dq ((n : Rat) / (u : Rat)))) θ) : Gv (m_made_ratio [.dat (.int n), .dat (.int u)] θ) Q := by
  unfold m_made_ratio r_made_ratio
  have g0 : 0 < Int.gcd n u := Int.gcd_pos_of_ne_zero_right n hu
  have gs : small (Int.gcd n u : Nat) = true := (bi_gcd hu h).small (by omega)
  have gs2 : small (0 - (Int.gcd n u : Nat)) = true := by
    rw [Int.zero_sub]
    exact (bi_gcd hu h).neg.small (by omega)
  have gz : ¬ ((Int.gcd n u : Nat) : Int) = 0 := by omega
  have gz2 : ¬ (0 - ((Int.gcd n u : Nat) : Int)) = 0 := by omega
  simp! [gv_gcd2]
  refine ⟨fun c => ?_, fun c => ?_⟩
  · simp! [gs2, gz2]
    rw [made_neg c] at q
    exact q
  · simp! [gs, gz]
    rw [made_pos (by omega)] at q
    exact q
theorem mul_ok {θ : Pot} {p q : Rat} {a b : Nat} {Q : Ret → Pot → Prop} (hp : bz a p) (hq : bz b q) (l : a + b < 8980) (h : Q (.d (dq (p * q))) θ) : Gv (m_mul_ratios [.dat (dq p), .dat (dq q)] θ) Q := by
  unfold m_mul_ratios r_mul_ratios
  have s1 := hp.1.small (by omega)
  have s2 := hp.2.small (by omega)
  have s3 := hq.1.small (by omega)
  have s4 := hq.2.small (by omega)
  simp! [dq, s1, s2, s3, s4]
  refine made_ok (Int.mul_ne_zero (den_ne p) (den_ne q)) (hp.2.mul hq.2) (by omega) ?_
  have e := qv_mul (a := (p.num, (p.den : Int))) (b := (q.num, (q.den : Int))) (den_ne p) (den_ne q)
  rw [qv_q, qv_q] at e
  rw [← e] at h
  simp! [true_and]
  exact h
theorem add_ok {θ : Pot} {p q : Rat} {a b : Nat} {Q : Ret → Pot → Prop} (hp : bz a p) (hq : bz b q) (l : a + b < 8980) (h : Q (.d (dq (p + q))) θ) : Gv (m_add_ratios [.dat (dq p), .dat (dq q)] θ) Q := by
  unfold m_add_ratios r_add_ratios
  have s1 := hp.1.small (by omega)
  have s2 := hp.2.small (by omega)
  have s3 := hq.1.small (by omega)
  have s4 := hq.2.small (by omega)
  simp! [dq, s1, s2, s3, s4]
  refine made_ok (Int.mul_ne_zero (den_ne p) (den_ne q)) (hp.2.mul hq.2) (by omega) ?_
  have e := qv_add (a := (p.num, (p.den : Int))) (b := (q.num, (q.den : Int))) (den_ne p) (den_ne q)
  rw [qv_q, qv_q] at e
  rw [← e] at h
  simp! [true_and]
  exact h
theorem is_ratio_ok {θ : Pot} {p : Rat} {Q : Ret → Pot → Prop} (q : Q (.d (.bl true)) θ) : Gv (m_is_ratio [.dat (dq p)] θ) Q := by
  unfold m_is_ratio r_is_ratio
  have h1 : (1 : Int) ≤ (p.den : Nat) := den_pos p
  have g : Int.gcd p.num (p.den : Nat) = 1 := p.reduced
  simp! [dq, is_integer_eq, h1, gv_gcd2, g]
  exact q
theorem gcd_step (x y : Int) : Int.gcd y (x.fmod y) = Int.gcd x y := by
  rw [Int.fmod_def, Int.gcd_sub_mul_left_right, Int.gcd_comm]
theorem fm_lt {x y : Int} (h : y ≠ 0) : (x.fmod y).natAbs < y.natAbs := by
  by_cases z : 0 < y
  · have h1 := Int.fmod_nonneg_of_pos x z
    have h2 := Int.fmod_lt_of_pos x z
    omega
  · have h1 := Int.fmod_nonneg_of_pos (-x) (show 0 < -y by omega)
    have h2 := Int.fmod_lt_of_pos (-x) (show 0 < -y by omega)
    rw [Int.neg_fmod_neg] at h1 h2
    omega
theorem for_rangeM {T : Tgt} {body : M Out} {Q : Out → Pot → Prop} (g : Nat → Dt) (n : Nat) (I : Nat → DEnv → Pot → Prop) (h0 : ∀ ρ θ, I n ρ θ → Q (.next ρ) θ)
    (h1 : ∀ i ρ θ, i < n → I i ρ θ → ∃ ρ1, bindT T (g i) ρ = some ρ1 ∧ Gv (body ρ1 θ) fun o θ2 => ∃ ρ2, o = .next ρ2 ∧ I (i + 1) ρ2 θ2) (ρ : DEnv) (θ : Pot) (h : I 0 ρ θ) : Gv (forGo T body ((List.range n).map g) ρ θ) Q := by
  refine gv_for_inv (fun l ρ θ => ∃ i, i ≤ n ∧ l = (List.range' i (n - i)).map g ∧ I i ρ θ) ?_ ?_ _ _ _ ⟨0, Nat.zero_le _, by rw [List.range_eq_range', Nat.sub_zero], h⟩
  · rintro ρ θ ⟨i, l, e, hi⟩
    have : i = n := by
      have := congrArg List.length e
      simp at this
      omega
    subst this
    exact h0 _ _ hi
  · rintro d ds ρ θ ⟨i, l, e, hi⟩
    have lt : i < n := by
      rcases Nat.lt_or_ge i n with z | z
      · exact z
      · rw [show n - i = 0 by omega] at e
        cases e
    obtain ⟨m, em⟩ : ∃ m, n - i = m + 1 := ⟨n - i - 1, by omega⟩
    rw [em, List.range'_succ, List.map_cons] at e
    obtain ⟨rfl, rfl⟩ := List.cons.inj e
    obtain ⟨ρ1, e1, q⟩ := h1 i ρ θ lt hi
    refine ⟨ρ1, e1, q.imp ?_⟩
    rintro _ θ2 ⟨ρ2, rfl, q2⟩
    exact ⟨i + 1, lt, by rw [show n - (i + 1) = m by omega], q2⟩
/-! ### the law's own ratios -/
theorem low_ok {θ : Pot} {n u : Int} {a b : Nat} {Q : Ret → Pot → Prop} (hu : u ≠ 0) (hn : bi a n) (h : bi b u) (ka : a < 2900) (kb : b < 2900) (q : Q (.d (dq ((n : Rat) / (u : Rat)))) θ) : Gv (m__law_low [.dat (.int n), .dat (.int u)] θ) Q := by
  unfold m__law_low r__law_low
  have sn : small n = true := hn.small (by omega)
  have su : small u = true := h.small (by omega)
  have e10 : (2 : Nat) ^ 2900 < 10 ^ 900 := by decide +kernel
  have hb : u.natAbs < 10 ^ 900 := by
    have h1 : u.natAbs ≤ 2 ^ b := h
    have h2 : (2 : Nat) ^ b ≤ 2 ^ 2900 := Nat.pow_le_pow_right (by decide) (by omega)
    omega
  have g0 : 0 < Int.gcd n u := Int.gcd_pos_of_ne_zero_right n hu
  have gs : small (Int.gcd n u : Nat) = true := (bi_gcd hu h).small (by omega)
  have gz : ¬ ((Int.gcd n u : Nat) : Int) = 0 := by omega
  simp! [true_and]
  rw [show (if n < 0 then -n else n) = ((n.natAbs : Nat) : Int) by split <;> omega, show (if u < 0 then -u else u) = ((u.natAbs : Nat) : Int) by split <;> omega]
  refine gv_while_inv (fun k ρ θ' => ∃ x y : Int, ρ = [some (.dat (.int n)), some (.dat (.int u)), some (.dat (.int x)), some (.dat (.int y))] ∧ 0 ≤ x ∧ 0 ≤ y ∧ y.natAbs = k ∧ Int.gcd x y = Int.gcd n u ∧ θ' = θ) ?_ _ u.natAbs _ _ hb ⟨n.natAbs, u.natAbs, rfl, by omega, by omega, by rw [Int.natAbs_natCast], by rw [Int.gcd_natCast_natCast, Int.gcd_eq_natAbs_gcd_natAbs], rfl⟩
  rintro k ρ θ' ⟨x, y, rfl, x0, y0, ek, eg, rfl⟩
  by_cases z : y = 0
  · subst z
    rw [Int.gcd_zero_right] at eg
    have ex : x = ((Int.gcd n u : Nat) : Int) := by omega
    subst ex
    simp! [gz, if_false, Bool.false_eq_true, if_neg]
    by_cases c : 0 < u
    · simp! [c, gs, gz, sn, su]
      rw [made_pos c] at q
      exact q
    · have c' : u < 0 := by omega
      have sn2 : small (-n) = true := hn.neg.small (by omega)
      have su2 : small (-u) = true := h.neg.small (by omega)
      simp! [c, gs, gz, sn2, su2]
      rw [made_neg c'] at q
      have e1 : ∀ x g : Int, x.fdiv (0 - g) = (-x).fdiv g := fun x g => by
        rw [Int.zero_sub, ← Int.neg_fdiv_neg, Int.neg_neg]
      rw [e1, e1] at q
      exact q
  · simp! [z, if_true]
    refine ⟨_, ?_, y, x.fmod y, rfl, y0, Int.fmod_nonneg_of_pos x (by omega), rfl, (gcd_step x y).trans eg⟩
    rw [← ek]
    exact fm_lt z
theorem lmul_ok {θ : Pot} {p q : Rat} {a b : Nat} {Q : Ret → Pot → Prop} (hp : bz a p) (hq : bz b q) (l : a + b < 2890) (h : Q (.d (dq (p * q))) θ) : Gv (m__law_mul [.dat (dq p), .dat (dq q)] θ) Q := by
  unfold m__law_mul r__law_mul
  have s1 := hp.1.small (by omega)
  have s2 := hp.2.small (by omega)
  have s3 := hq.1.small (by omega)
  have s4 := hq.2.small (by omega)
  simp! [dq, s1, s2, s3, s4]
  refine low_ok (Int.mul_ne_zero (den_ne p) (den_ne q)) (hp.1.mul hq.1) (hp.2.mul hq.2) (by omega) (by omega) ?_
  have e := qv_mul (a := (p.num, (p.den : Int))) (b := (q.num, (q.den : Int))) (den_ne p) (den_ne q)
  rw [qv_q, qv_q] at e
  rw [← e] at h
  simp! [true_and]
  exact h
theorem ladd_ok {θ : Pot} {p q : Rat} {a b : Nat} {Q : Ret → Pot → Prop} (hp : bz a p) (hq : bz b q) (l : a + b < 2890) (h : Q (.d (dq (p + q))) θ) : Gv (m__law_add [.dat (dq p), .dat (dq q)] θ) Q := by
  unfold m__law_add r__law_add
  have s1 := hp.1.small (by omega)
  have s2 := hp.2.small (by omega)
  have s3 := hq.1.small (by omega)
  have s4 := hq.2.small (by omega)
  have b1 := hp.1.mul hq.2
  have b2 := hq.1.mul hp.2
  have s5 := b1.small (by omega)
  have s6 := b2.small (by omega)
  simp! [dq, s1, s2, s3, s4, s5, s6]
  refine low_ok (Int.mul_ne_zero (den_ne p) (den_ne q)) (b1.add b2) (hp.2.mul hq.2) (by omega) (by omega) ?_
  have e := qv_add (a := (p.num, (p.den : Int))) (b := (q.num, (q.den : Int))) (den_ne p) (den_ne q)
  rw [qv_q, qv_q] at e
  rw [← e] at h
  simp! [true_and]
  exact h
end Tc


namespace Tc
open PySem PySem.Spec Pd
/-! ### terms: exponents and ratios -/
abbrev Tm := List Int × Rat
abbrev Tl := List Tm
def dTm (p : Tm) : Dt := .tup [keyD p.1, dq p.2]
def vsP (P : Tl) : List Dt := P.map fun p => dq p.2
def ksP (P : Tl) : List (List Int) := P.map (·.1)
def dD (P : Tl) : Dt := .dct (ksP P) (vsP P)
def nz (p : Tm) : Bool := decide (p.2 ≠ 0)
def look : Tl → List Int → Option Rat
  | [], _ => none
  | p :: P, k => if p.1 = k then some p.2 else look P k
def getP (P : Tl) (k : List Int) : Rat := (look P k).getD 0
theorem dGet_look : ∀ (P : Tl) (k : List Int), dGet (ksP P) (vsP P) k = (look P k).map dq
  | [], _ => rfl
  | p :: P, k => by
    show (if p.1 = k then some (dq p.2) else dGet (ksP P) (vsP P) k) = (if p.1 = k then some p.2 else look P k).map dq
    by_cases z : p.1 = k
    · rw [if_pos z, if_pos z]
      rfl
    · rw [if_neg z, if_neg z, dGet_look P k]
theorem getD_look (P : Tl) (k : List Int) (q : Rat) : (dGet (ksP P) (vsP P) k).getD (dq q) = dq ((look P k).getD q) := by
  rw [dGet_look]
  cases look P k <;> rfl
theorem look_none {k : List Int} : ∀ {P : Tl}, look P k = none ↔ k ∉ ksP P
  | [] => by
    unfold ksP look
    simp
  | p :: P => by
    show (if p.1 = k then some p.2 else look P k) = none ↔ k ∉ p.1 :: ksP P
    by_cases z : p.1 = k
    · rw [if_pos z]
      simp [z]
    · rw [if_neg z, look_none, List.mem_cons, not_or]
      exact ⟨fun h => ⟨fun e => z e.symm, h⟩, fun h => h.2⟩
theorem look_mem {k : List Int} {r : Rat} : ∀ {P : Tl}, look P k = some r → (k, r) ∈ P
  | p :: P, h => by
    by_cases z : p.1 = k
    · rw [show look (p :: P) k = some p.2 from if_pos z] at h
      cases h
      rw [← z]
      exact List.mem_cons_self
    · rw [show look (p :: P) k = look P k from if_neg z] at h
      exact List.mem_cons_of_mem _ (look_mem h)
theorem mem_look {k : List Int} {r : Rat} : ∀ {P : Tl}, (ksP P).Nodup → (k, r) ∈ P → look P k = some r
  | p :: P, nd, h => by
    have nd' : (p.1 :: ksP P).Nodup := nd
    obtain ⟨n1, n2⟩ := List.nodup_cons.mp nd'
    rcases List.mem_cons.mp h with e | h
    · rw [← e]
      exact if_pos rfl
    · have z : ¬ p.1 = k := fun z => n1 (by rw [z]; exact List.mem_map.mpr ⟨(k, r), h, rfl⟩)
      rw [show look (p :: P) k = look P k from if_neg z]
      exact mem_look n2 h
theorem ks_perm {A B : Tl} (p : A.Perm B) : (ksP A).Perm (ksP B) := p.map _
theorem look_perm {A B : Tl} (p : A.Perm B) (nd : (ksP A).Nodup) (k : List Int) : look A k = look B k := by
  have nb : (ksP B).Nodup := (ks_perm p).nodup_iff.mp nd
  cases h : look B k with
  | none =>
    rw [look_none] at h ⊢
    exact fun z => h ((ks_perm p).mem_iff.mp z)
  | some r => exact mem_look nd (p.mem_iff.mpr (look_mem h))
/-! ### a key's value changed -/
def putP (P : Tl) (k : List Int) (r : Rat) : Tl := if (look P k).isSome = true then P.map (fun p => if p.1 = k then (p.1, r) else p) else P ++ [(k, r)]
theorem dMap_P (k : List Int) (r : Rat) : ∀ P : Tl, dMap (ksP P) (vsP P) k (dq r) = vsP (P.map fun p => if p.1 = k then (p.1, r) else p)
  | [] => rfl
  | p :: P => by
    show (if p.1 = k then dq r else dq p.2) :: dMap (ksP P) (vsP P) k (dq r) = dq (if p.1 = k then (p.1, r) else p).2 :: vsP (P.map fun p => if p.1 = k then (p.1, r) else p)
    rw [dMap_P k r P]
    by_cases z : p.1 = k
    · rw [if_pos z, if_pos z]
    · rw [if_neg z, if_neg z]
theorem dPut_P (P : Tl) (k : List Int) (r : Rat) : dPut (ksP P, vsP P) k (dq r) = (ksP (putP P k r), vsP (putP P k r)) := by
  unfold dPut putP
  rw [dGet_look, Option.isSome_map]
  by_cases z : (look P k).isSome = true
  · rw [if_pos z, if_pos z]
    refine Prod.ext ?_ (dMap_P k r P)
    show ksP P = ksP (P.map fun p => if p.1 = k then (p.1, r) else p)
    unfold ksP
    rw [List.map_map]
    refine List.map_congr_left fun p _ => ?_
    show p.1 = (if p.1 = k then (p.1, r) else p).1
    by_cases w : p.1 = k
    · rw [if_pos w]
    · rw [if_neg w]
  · rw [if_neg z, if_neg z]
    unfold ksP vsP
    rw [List.map_append, List.map_append]
    rfl
theorem putP_ks (P : Tl) (k : List Int) (r : Rat) : ksP (putP P k r) = if k ∈ ksP P then ksP P else ksP P ++ [k] := by
  have e : (dPut (ksP P, vsP P) k (dq r)).1 = ksP (putP P k r) := congrArg Prod.fst (dPut_P P k r)
  rw [← e]
  unfold dPut
  rw [dGet_look, Option.isSome_map]
  by_cases z : k ∈ ksP P
  · rw [if_pos z]
    have : (look P k).isSome = true := by
      cases h : look P k with
      | none => exact absurd z (look_none.mp h)
      | some r => rfl
    rw [if_pos this]
  · rw [if_neg z]
    have : ¬ (look P k).isSome = true := by
      rw [look_none.mpr z]
      exact fun h => nomatch h
    rw [if_neg this]
theorem putP_nodup {P : Tl} {k : List Int} {r : Rat} (nd : (ksP P).Nodup) : (ksP (putP P k r)).Nodup := by
  rw [putP_ks]
  by_cases z : k ∈ ksP P
  · rw [if_pos z]
    exact nd
  · rw [if_neg z]
    exact List.nodup_append.mpr ⟨nd, by simp, fun a ha b hb e => z (by rw [List.mem_singleton] at hb; rw [← hb, ← e]; exact ha)⟩
theorem putP_mem {P : Tl} {k : List Int} {r : Rat} {p : Tm} (h : p ∈ putP P k r) : p ∈ P ∨ p = (k, r) := by
  unfold putP at h
  split at h
  · obtain ⟨q, hq, rfl⟩ := List.mem_map.mp h
    by_cases w : q.1 = k
    · rw [if_pos w, w]
      exact Or.inr rfl
    · rw [if_neg w]
      exact Or.inl hq
  · rcases List.mem_append.mp h with h | h
    · exact Or.inl h
    · exact Or.inr (List.mem_singleton.mp h)
theorem putP_len (P : Tl) (k : List Int) (r : Rat) : (putP P k r).length ≤ P.length + 1 := by
  unfold putP
  split
  · rw [List.length_map]
    omega
  · rw [List.length_append]
    exact Nat.le_refl _
theorem putP_new {P : Tl} {k : List Int} {r : Rat} (h : k ∉ ksP P) : putP P k r = P ++ [(k, r)] := by
  unfold putP
  rw [look_none.mpr h]
  rfl
/-- more of a key -/
def accP (P : Tl) (p : Tm) : Tl := putP P p.1 (getP P p.1 + p.2)
def accs (ts : Tl) : Tl := ts.foldl accP []
theorem accs_nodup : ∀ (ts P : Tl), (ksP P).Nodup → (ksP (ts.foldl accP P)).Nodup
  | [], _, nd => nd
  | _ :: ts, _, nd => accs_nodup ts _ (putP_nodup nd)
/-! ### sorted by the keys -/
def sortP (P : Tl) : Tl := (sortK (ksP P)).map fun k => (k, getP P k)
theorem self_map {P : Tl} (nd : (ksP P).Nodup) : (ksP P).map (fun k => (k, getP P k)) = P := by
  unfold ksP
  rw [List.map_map]
  have : ∀ p ∈ P, ((fun k => (k, getP P k)) ∘ fun x : Tm => x.1) p = id p := fun p hp => by
    show (p.1, getP P p.1) = p
    unfold getP
    rw [mem_look nd (show (p.1, p.2) ∈ P from hp)]
    rfl
  rw [List.map_congr_left this, List.map_id]
theorem sortP_perm {P : Tl} (nd : (ksP P).Nodup) : (sortP P).Perm P := by
  have h := (sortK_perm (ksP P)).map fun k => (k, getP P k)
  rw [self_map nd] at h
  exact h
theorem sortP_ks (P : Tl) : ksP (sortP P) = sortK (ksP P) := by
  unfold sortP ksP
  rw [List.map_map]
  exact List.map_id _
theorem sortP_nodup {P : Tl} (nd : (ksP P).Nodup) : (ksP (sortP P)).Nodup := (ks_perm (sortP_perm nd)).nodup_iff.mpr nd
/-- keys of one length, small -/
def Kok (l : Nat) (P : Tl) : Prop := ∀ p ∈ P, okB l p.1 = true
theorem sortP_one {l : Nat} {A B : Tl} (p : A.Perm B) (nd : (ksP A).Nodup) (ok : Kok l A) (s : (ksP A).Pairwise fun x y => cd x ≤ cd y) : A = sortP B := by
  have nb : (ksP B).Nodup := (ks_perm p).nodup_iff.mp nd
  have ek : ksP A = sortK (ksP B) := sorted_oneK (d := l) ((ks_perm p).trans (sortK_perm _).symm) (fun k hk => by
    obtain ⟨q, hq, rfl⟩ := List.mem_map.mp hk
    exact ok q hq) s (sortK_sorted _)
  rw [← self_map nd, ek]
  unfold sortP
  refine List.map_congr_left fun k _ => ?_
  unfold getP
  rw [look_perm p nd k]
theorem sortP_sorted (P : Tl) : (ksP (sortP P)).Pairwise fun x y => cd x ≤ cd y := by
  rw [sortP_ks]
  exact sortK_sorted _
theorem Kok.perm {l : Nat} {A B : Tl} (p : A.Perm B) (h : Kok l B) : Kok l A := fun q hq => h q (p.mem_iff.mp hq)
theorem Kok.filter {l : Nat} {A : Tl} (h : Kok l A) (f : Tm → Bool) : Kok l (A.filter f) := fun q hq => h q (List.mem_filter.mp hq).1
theorem nodup_filter {A : Tl} (nd : (ksP A).Nodup) (f : Tm → Bool) : (ksP (A.filter f)).Nodup := by
  unfold ksP at *
  exact nd.sublist (List.Sublist.map _ List.filter_sublist)
theorem sortP_filter {l : Nat} {A : Tl} (nd : (ksP A).Nodup) (ok : Kok l A) (f : Tm → Bool) : (sortP A).filter f = sortP (A.filter f) := by
  have p := sortP_perm nd
  refine sortP_one (l := l) (p.filter f) (nodup_filter (sortP_nodup nd) f) ((ok.perm p).filter f) ?_
  have s := sortP_sorted A
  unfold ksP at *
  exact s.sublist (List.Sublist.map _ List.filter_sublist)
theorem sortP_sort {l : Nat} {A : Tl} (nd : (ksP A).Nodup) (ok : Kok l A) : sortP (sortP A) = sortP A := (sortP_one (l := l) (List.Perm.refl _) (sortP_nodup nd) (ok.perm (sortP_perm nd)) (sortP_sorted A)).symm
theorem okSort_P {l : Nat} {P : Tl} (hl : 1 ≤ l) (h : P.length < 64) (ok : Kok l P) : okSort (ksP P) = true := by
  unfold okSort
  have e : (ksP P).length = P.length := List.length_map _
  rw [e, decide_eq_true h, Bool.true_and]
  cases P with
  | nil => rfl
  | cons p P =>
    have o := ok p List.mem_cons_self
    have lp : p.1.length = l := (okB_iff.mp o).1
    show (decide (1 ≤ p.1.length) && (p.1 :: ksP P).all (okB p.1.length)) = true
    rw [lp, decide_eq_true hl, Bool.true_and, List.all_eq_true]
    intro k hk
    obtain ⟨q, hq, rfl⟩ := List.mem_map.mp (show k ∈ (p :: P).map (·.1) from hk)
    exact ok q hq
/-- strictly one after the other -/
theorem lex_of_cd : ∀ {l : Nat} {a b : List Int}, okB l a = true → okB l b = true → cd a < cd b → Pd.lexLt a b = true
  | l, [], [], _, _, h => absurd h (Int.lt_irrefl _)
  | l, [], y :: b, ha, hb, _ => by
    have := (okB_iff.mp ha).1
    have h2 := (okB_iff.mp hb).1
    rw [← this] at h2
    cases h2
  | l, x :: a, [], ha, hb, _ => by
    have := (okB_iff.mp hb).1
    have h2 := (okB_iff.mp ha).1
    rw [← this] at h2
    cases h2
  | l, x :: a, y :: b, ha, hb, h => by
    obtain ⟨la, ba⟩ := okB_iff.mp ha
    obtain ⟨lb, bb⟩ := okB_iff.mp hb
    rw [List.length_cons] at la lb
    have hl : a.length = b.length := by omega
    show (if x = y then Pd.lexLt a b else decide (x < y)) = true
    by_cases z : x = y
    · rw [if_pos z]
      subst z
      refine lex_of_cd (l := a.length) (okB_iff.mpr ⟨rfl, ba.tail⟩) (okB_iff.mpr ⟨hl.symm, bb.tail⟩) ?_
      exact (TS.code_same hl).mp h
    · rw [if_neg z]
      refine decide_eq_true ?_
      rcases Int.lt_trichotomy x y with w | w | w
      · exact w
      · exact absurd w z
      · have := TS.code_lt hl.symm bb.tail ba.tail w
        unfold cd at h
        omega
theorem sorted_strict {l : Nat} {A : Tl} (nd : (ksP A).Nodup) (ok : Kok l A) (s : (ksP A).Pairwise fun x y => cd x ≤ cd y) : (ksP A).Pairwise fun x y => Pd.lexLt x y = true := by
  refine List.Pairwise.imp_of_mem (fun {x y} hx hy h => ?_) (s.and nd)
  obtain ⟨p, hp, rfl⟩ := List.mem_map.mp hx
  obtain ⟨q, hq, rfl⟩ := List.mem_map.mp hy
  refine lex_of_cd (ok p hp) (ok q hq) ?_
  have : cd p.1 ≠ cd q.1 := fun e => h.2 (cd_inj (ok p hp) (ok q hq) e)
  omega
end Tc


namespace Tc
open PySem PySem.Spec Pd
/-! ### nested forms -/
def hd1 (k : List Int) : Int := k.headD 0
def slice (i : Int) (P : Tl) : Tl := (P.filter fun p => decide (hd1 p.1 = i)).map fun p => (p.1.tail, p.2)
def mxP : Tl → Nat
  | [] => 0
  | p :: P => max (hd1 p.1).toNat (mxP P)
def first : Tl → Rat
  | [] => 0
  | p :: _ => p.2
def N : Nat → Tl → Dt
  | 0, P => dq (first P)
  | l + 1, P => .tup ((List.range (mxP P + 1)).map fun i => N l (slice (i : Nat) P))
structure WF (l : Nat) (P : Tl) : Prop where
  nd : (ksP P).Nodup
  ok : Kok l P
theorem WF.perm {l : Nat} {A B : Tl} (p : A.Perm B) (h : WF l B) : WF l A := ⟨(ks_perm p).nodup_iff.mpr h.nd, h.ok.perm p⟩
theorem WF.filter {l : Nat} {A : Tl} (h : WF l A) (f : Tm → Bool) : WF l (A.filter f) := ⟨nodup_filter h.nd f, h.ok.filter f⟩
theorem WF.sort {l : Nat} {A : Tl} (h : WF l A) : WF l (sortP A) := h.perm (sortP_perm h.nd)
theorem ok_cons {l : Nat} {k : List Int} (h : okB (l + 1) k = true) : ∃ x t, k = x :: t ∧ 0 ≤ x ∧ x < 1000 ∧ okB l t = true := by
  obtain ⟨h1, h2⟩ := okB_iff.mp h
  cases k with
  | nil => cases h1
  | cons x t =>
    have := h2 x List.mem_cons_self
    exact ⟨x, t, rfl, this.1, this.2, okB_iff.mpr ⟨by simpa using h1, h2.tail⟩⟩
theorem slice_mem {i : Int} {P : Tl} {q : Tm} (h : q ∈ slice i P) : ∃ p ∈ P, hd1 p.1 = i ∧ q = (p.1.tail, p.2) := by
  obtain ⟨p, hp, rfl⟩ := List.mem_map.mp h
  obtain ⟨h1, h2⟩ := List.mem_filter.mp hp
  exact ⟨p, h1, of_decide_eq_true h2, rfl⟩
theorem WF.slice {l : Nat} {P : Tl} (h : WF (l + 1) P) (i : Int) : WF l (slice i P) := by
  refine ⟨?_, fun q hq => ?_⟩
  · have w := h.filter fun p => decide (hd1 p.1 = i)
    have nd := w.nd
    have ok := w.ok
    have hi : ∀ p ∈ P.filter (fun p => decide (hd1 p.1 = i)), hd1 p.1 = i := fun p hp => of_decide_eq_true (List.mem_filter.mp hp).2
    unfold Tc.slice
    revert nd ok hi
    generalize P.filter (fun p => decide (hd1 p.1 = i)) = A
    intro nd ok hi
    induction A with
    | nil => exact List.nodup_nil
    | cons p A ih =>
      have nd' : (p.1 :: ksP A).Nodup := nd
      obtain ⟨n1, n2⟩ := List.nodup_cons.mp nd'
      show (p.1.tail :: ksP (A.map fun p => (p.1.tail, p.2))).Nodup
      refine List.nodup_cons.mpr ⟨fun z => n1 ?_, ih n2 (fun q hq => ok q (List.mem_cons_of_mem _ hq)) fun q hq => hi q (List.mem_cons_of_mem _ hq)⟩
      obtain ⟨r, hr, er⟩ := List.mem_map.mp z
      obtain ⟨q, hq, rfl⟩ := List.mem_map.mp hr
      obtain ⟨x, t, e1, _⟩ := ok_cons (ok p List.mem_cons_self)
      obtain ⟨y, u, e2, _⟩ := ok_cons (ok q (List.mem_cons_of_mem _ hq))
      have h1 := hi p List.mem_cons_self
      have h2 := hi q (List.mem_cons_of_mem _ hq)
      have er' : q.1.tail = p.1.tail := er
      rw [e1] at h1 er'
      rw [e2] at h2 er'
      have hxy : x = y := (show x = i from h1).trans (show y = i from h2).symm
      have ht : u = t := er'
      refine List.mem_map.mpr ⟨q, hq, ?_⟩
      rw [e1, e2, hxy, ht]
  · obtain ⟨p, hp, _, rfl⟩ := slice_mem hq
    obtain ⟨x, t, e1, _, _, e2⟩ := ok_cons (h.ok p hp)
    show okB l p.1.tail = true
    rw [e1]
    exact e2
theorem slice_perm {A B : Tl} (p : A.Perm B) (i : Int) : (slice i A).Perm (slice i B) := (p.filter _).map _
theorem mxP_ge {P : Tl} {p : Tm} (h : p ∈ P) : (hd1 p.1).toNat ≤ mxP P := by
  induction P with
  | nil => cases h
  | cons q P ih =>
    show _ ≤ max (hd1 q.1).toNat (mxP P)
    rcases List.mem_cons.mp h with e | h
    · rw [e]
      exact Nat.le_max_left _ _
    · exact Nat.le_trans (ih h) (Nat.le_max_right _ _)
theorem mxP_le {P : Tl} {n : Nat} (h : ∀ p ∈ P, (hd1 p.1).toNat ≤ n) : mxP P ≤ n := by
  induction P with
  | nil => exact Nat.zero_le _
  | cons q P ih => exact Nat.max_le.mpr ⟨h q List.mem_cons_self, ih fun p hp => h p (List.mem_cons_of_mem _ hp)⟩
theorem mxP_perm {A B : Tl} (p : A.Perm B) : mxP A = mxP B :=
  Nat.le_antisymm (mxP_le fun q hq => mxP_ge (p.mem_iff.mp hq)) (mxP_le fun q hq => mxP_ge (p.mem_iff.mpr hq))
theorem wf0 {P : Tl} (h : WF 0 P) : P = [] ∨ ∃ r, P = [([], r)] := by
  have e : ∀ p ∈ P, p.1 = [] := fun p hp => List.length_eq_zero_iff.mp (okB_iff.mp (h.ok p hp)).1
  cases P with
  | nil => exact Or.inl rfl
  | cons p P =>
    cases P with
    | nil => exact Or.inr ⟨p.2, by rw [← e p List.mem_cons_self]⟩
    | cons q P =>
      have nd' : (p.1 :: q.1 :: ksP P).Nodup := h.nd
      rw [e p List.mem_cons_self, e q (List.mem_cons_of_mem _ List.mem_cons_self)] at nd'
      exact absurd List.mem_cons_self (List.nodup_cons.mp nd').1
theorem N_perm : ∀ {l : Nat} {A B : Tl}, A.Perm B → WF l B → N l A = N l B
  | 0, A, B, p, w => by
    rcases wf0 w with e | ⟨r, e⟩
    · subst e
      rw [p.eq_nil]
    · subst e
      rw [List.perm_singleton.mp p]
  | l + 1, A, B, p, w => by
    show Dt.tup _ = Dt.tup _
    rw [mxP_perm p]
    congr 1
    refine List.map_congr_left fun i _ => ?_
    exact N_perm (slice_perm p _) (w.slice _)
/-! ### the terms of a nested form -/
def rqD : Dt → Rat
  | .tup [.int n, .int d] => (n : Rat) / (d : Rat)
  | _ => 0
def TFr (f : Dt → Tl) : Int → List Dt → Tl
  | _, [] => []
  | i, d :: ds => (f d).map (fun p => (i :: p.1, p.2)) ++ TFr f (i + 1) ds
def TF : Nat → Dt → Tl
  | 0, d => [([], rqD d)]
  | l + 1, .tup ds => TFr (TF l) 0 ds
  | _ + 1, _ => []
def fm : Nat → Dt → Bool
  | 0, .tup [.int n, .int d] => decide (1 ≤ d) && decide (Int.gcd n d = 1)
  | 0, _ => false
  | l + 1, .tup ds => !ds.isEmpty && (decide (ds.length ≤ 9) && ds.all (fm l))
  | _ + 1, _ => false
theorem fm_succ {l : Nat} {d : Dt} (h : fm (l + 1) d = true) : ∃ ds, d = .tup ds ∧ ds ≠ [] ∧ ds.length ≤ 9 ∧ ∀ x ∈ ds, fm l x = true := by
  cases d with
  | tup ds =>
    have h : (!ds.isEmpty && (decide (ds.length ≤ 9) && ds.all (fm l))) = true := h
    rw [Bool.and_eq_true, Bool.and_eq_true, List.all_eq_true] at h
    exact ⟨ds, rfl, by cases ds <;> simp_all, of_decide_eq_true h.2.1, h.2.2⟩
  | _ => cases h
theorem fm_zero {d : Dt} (h : fm 0 d = true) : ∃ q : Rat, d = dq q ∧ rqD d = q := by
  match d, h with
  | .tup [.int n, .int m], h =>
    have h : (decide (1 ≤ m) && decide (Int.gcd n m = 1)) = true := h
    rw [Bool.and_eq_true] at h
    have h1 := of_decide_eq_true h.1
    have h2 := of_decide_eq_true h.2
    refine ⟨(n : Rat) / (m : Rat), ?_, rfl⟩
    rw [made_pos (by omega), h2]
    have e : ∀ x : Int, x.fdiv ((1 : Nat) : Int) = x := fun x => by
      rw [Int.fdiv_eq_ediv_of_nonneg _ (by omega)]
      omega
    rw [e, e]
theorem fm_dq (q : Rat) : fm 0 (dq q) = true := by
  show (decide (1 ≤ (q.den : Int)) && decide (Int.gcd q.num (q.den : Nat) = 1)) = true
  have h1 := den_pos q
  rw [Bool.and_eq_true]
  exact ⟨decide_eq_true (by omega), decide_eq_true q.reduced⟩
theorem rqD_dq (q : Rat) : rqD (dq q) = q := q_num_den q
theorem TFr_mem {f : Dt → Tl} : ∀ {ds : List Dt} {i : Int} {p : Tm}, p ∈ TFr f i ds → ∃ (j : Nat) (d : Dt) (q : Tm), ds[j]? = some d ∧ q ∈ f d ∧ p = ((i + (j : Nat)) :: q.1, q.2)
  | d :: ds, i, p, h => by
    rcases List.mem_append.mp h with h | h
    · obtain ⟨q, hq, rfl⟩ := List.mem_map.mp h
      exact ⟨0, d, q, rfl, hq, by simp⟩
    · obtain ⟨j, d', q, h1, h2, h3⟩ := TFr_mem h
      refine ⟨j + 1, d', q, by simpa using h1, h2, ?_⟩
      rw [h3]
      congr 2
      omega
theorem TFr_nodup {f : Dt → Tl} : ∀ {ds : List Dt} {i : Int}, (∀ d ∈ ds, (ksP (f d)).Nodup) → (ksP (TFr f i ds)).Nodup
  | [], _, _ => List.nodup_nil
  | d :: ds, i, h => by
    show (ksP ((f d).map (fun p => (i :: p.1, p.2)) ++ TFr f (i + 1) ds)).Nodup
    unfold ksP
    rw [List.map_append, List.nodup_append]
    refine ⟨?_, TFr_nodup fun d' hd => h d' (List.mem_cons_of_mem _ hd), fun a ha b hb e => ?_⟩
    · have nd := h d List.mem_cons_self
      rw [List.map_map]
      have z : ((fun x : Tm => x.1) ∘ fun p : Tm => (i :: p.1, p.2)) = (fun k => i :: k) ∘ fun x : Tm => x.1 := rfl
      rw [z, ← List.map_map]
      exact nd.map _ fun a b e w => e (List.cons.inj w).2
    · obtain ⟨p, hp, rfl⟩ := List.mem_map.mp ha
      obtain ⟨q, hq, rfl⟩ := List.mem_map.mp hp
      obtain ⟨p2, hp2, rfl⟩ := List.mem_map.mp hb
      obtain ⟨j, d', q', _, _, e2⟩ := TFr_mem hp2
      rw [e2] at e
      have := (List.cons.inj e).1
      omega
theorem TF_wf : ∀ {l : Nat} {b : Dt}, fm l b = true → WF l (TF l b)
  | 0, b, _ => ⟨List.nodup_cons.mpr ⟨fun h => (List.not_mem_nil h).elim, List.nodup_nil⟩, fun p hp => by rw [List.mem_singleton.mp hp]; rfl⟩
  | l + 1, b, h => by
    obtain ⟨ds, rfl, _, h9, h3⟩ := fm_succ h
    refine ⟨TFr_nodup fun d hd => (TF_wf (h3 d hd)).nd, fun p hp => ?_⟩
    obtain ⟨j, d, q, e1, e2, rfl⟩ := TFr_mem (show p ∈ TFr (TF l) 0 ds from hp)
    have hj := (List.getElem?_eq_some_iff.mp e1).1
    obtain ⟨k1, k2⟩ := okB_iff.mp ((TF_wf (h3 d (List.mem_of_getElem? e1))).ok q e2)
    refine okB_iff.mpr ⟨by simpa using k1, fun m hm => ?_⟩
    rcases List.mem_cons.mp hm with z | z
    · rw [z]
      omega
    · exact k2 m z
/-- small exponents -/
def Sm (n : Int) (P : Tl) : Prop := ∀ p ∈ P, ∀ x ∈ p.1, x ≤ n
theorem Sm.slice {n i : Int} {P : Tl} (h : Sm n P) : Sm n (slice i P) := fun q hq x hx => by
  obtain ⟨p, hp, _, rfl⟩ := slice_mem hq
  exact h p hp x (List.mem_of_mem_tail hx)
theorem Sm.mx {l n : Nat} {P : Tl} (h : Sm n P) (w : WF (l + 1) P) : mxP P ≤ n := mxP_le fun p hp => by
  obtain ⟨x, t, e, h0, _⟩ := ok_cons (w.ok p hp)
  have := h p hp x (by rw [e]; exact List.mem_cons_self)
  rw [e]
  show x.toNat ≤ n
  omega
theorem fm_N : ∀ {l : Nat} {P : Tl}, WF l P → Sm 8 P → fm l (N l P) = true
  | 0, P, _, _ => fm_dq _
  | l + 1, P, w, s => by
    show (!((List.range (mxP P + 1)).map fun i => N l (Tc.slice (i : Nat) P)).isEmpty && (decide (((List.range (mxP P + 1)).map fun i => N l (Tc.slice (i : Nat) P)).length ≤ 9) && ((List.range (mxP P + 1)).map fun i => N l (Tc.slice (i : Nat) P)).all (fm l))) = true
    have hm := Sm.mx (n := 8) s w
    rw [Bool.and_eq_true, Bool.and_eq_true, List.all_eq_true]
    refine ⟨by simp [List.range_succ], decide_eq_true (by rw [List.length_map, List.length_range]; omega), fun x hx => ?_⟩
    obtain ⟨i, _, rfl⟩ := List.mem_map.mp hx
    exact fm_N (w.slice _) s.slice
theorem slice_back {l : Nat} {P : Tl} (w : WF (l + 1) P) (i : Int) : (Tc.slice i P).map (fun p => (i :: p.1, p.2)) = P.filter fun p => decide (hd1 p.1 = i) := by
  unfold Tc.slice
  rw [List.map_map]
  have : ∀ p ∈ P.filter (fun p => decide (hd1 p.1 = i)), ((fun p : Tm => (i :: p.1, p.2)) ∘ fun p : Tm => (p.1.tail, p.2)) p = id p := fun p hp => by
    obtain ⟨h1, h2⟩ := List.mem_filter.mp hp
    obtain ⟨x, t, e, _⟩ := ok_cons (w.ok p h1)
    have h2 := of_decide_eq_true h2
    rw [e] at h2
    have h2 : x = i := h2
    show (i :: p.1.tail, p.2) = p
    rw [e, ← h2]
    show (x :: t, p.2) = p
    rw [← e]
  rw [List.map_congr_left this, List.map_id]
theorem parts_perm (P : Tl) : ∀ n : Nat, (∀ p ∈ P, 0 ≤ hd1 p.1 ∧ hd1 p.1 < n) → ((List.range n).flatMap fun i => P.filter fun p => decide (hd1 p.1 = (i : Nat))).Perm P
  | 0, h => by
    have : P = [] := by
      cases P with
      | nil => rfl
      | cons p P => have := h p List.mem_cons_self; omega
    rw [this]
    exact List.Perm.refl _
  | n + 1, h => by
    rw [List.range_succ, List.flatMap_append]
    have e : ∀ i ∈ List.range n, (P.filter fun p => decide (hd1 p.1 = (i : Nat))) = ((P.filter fun p => !decide (hd1 p.1 = (n : Nat))).filter fun p => decide (hd1 p.1 = (i : Nat))) := fun i hi => by
      rw [List.filter_filter]
      refine List.filter_congr fun p _ => ?_
      have := List.mem_range.mp hi
      by_cases z : hd1 p.1 = (i : Nat)
      · rw [decide_eq_true z, decide_eq_false (by omega)]
        rfl
      · rw [decide_eq_false z, Bool.false_and]
    have ih := parts_perm (P.filter fun p => !decide (hd1 p.1 = (n : Nat))) n fun p hp => by
      obtain ⟨h1, h2⟩ := List.mem_filter.mp hp
      have := h p h1
      have h2 : ¬ hd1 p.1 = (n : Nat) := by simpa using h2
      omega
    have e2 : ((List.range n).flatMap fun i => P.filter fun p => decide (hd1 p.1 = (i : Nat))) = ((List.range n).flatMap fun i => (P.filter fun p => !decide (hd1 p.1 = (n : Nat))).filter fun p => decide (hd1 p.1 = (i : Nat))) := by
      rw [List.flatMap_def, List.flatMap_def, List.map_congr_left e]
    rw [e2]
    have e3 : ([n].flatMap fun i => P.filter fun p => decide (hd1 p.1 = (i : Nat))) = P.filter fun p => decide (hd1 p.1 = (n : Nat)) := by simp
    rw [e3]
    exact (ih.append_right _).trans (List.perm_append_comm.trans (List.filter_append_perm _ _))
theorem TFr_range (f : Dt → Tl) (g : Nat → Dt) : ∀ (n m : Nat) (i : Int), i = (m : Nat) → TFr f i ((List.range' m n).map g) = (List.range' m n).flatMap fun j => (f (g j)).map fun p => (((j : Nat) : Int) :: p.1, p.2)
  | 0, m, i, e => rfl
  | n + 1, m, i, e => by
    rw [List.range'_succ, List.map_cons, List.flatMap_cons]
    show (f (g m)).map (fun p => (i :: p.1, p.2)) ++ TFr f (i + 1) _ = _
    rw [TFr_range f g n (m + 1) (i + 1) (by omega), e]
theorem filter_flatMap' {α β : Type} (f : β → Bool) (g : α → List β) : ∀ l : List α, (l.flatMap g).filter f = l.flatMap fun a => (g a).filter f
  | [] => rfl
  | a :: l => by rw [List.flatMap_cons, List.flatMap_cons, List.filter_append, filter_flatMap' f g l]
theorem perm_flatMap' {α β : Type} {g h : α → List β} : ∀ {l : List α}, (∀ a ∈ l, (g a).Perm (h a)) → (l.flatMap g).Perm (l.flatMap h)
  | [], _ => List.Perm.refl _
  | a :: l, p => by
    rw [List.flatMap_cons, List.flatMap_cons]
    exact (p a List.mem_cons_self).append (perm_flatMap' fun b hb => p b (List.mem_cons_of_mem _ hb))
/-- the terms of a nested form that are not 0 are those it was made of -/
theorem TF_N : ∀ {l : Nat} {P : Tl}, WF l P → (∀ p ∈ P, nz p = true) → ((TF l (N l P)).filter nz).Perm P
  | 0, P, w, z => by
    rcases wf0 w with e | ⟨r, e⟩
    · subst e
      show (([([], rqD (dq 0))] : Tl).filter nz).Perm []
      rw [rqD_dq]
      exact List.Perm.refl _
    · subst e
      show (([([], rqD (dq r))] : Tl).filter nz).Perm [([], r)]
      rw [rqD_dq, List.filter_cons_of_pos (z _ List.mem_cons_self)]
      exact List.Perm.refl _
  | l + 1, P, w, z => by
    show ((TFr (TF l) 0 ((List.range (mxP P + 1)).map fun i => N l (Tc.slice (i : Nat) P))).filter nz).Perm P
    rw [List.range_eq_range', TFr_range (TF l) _ _ 0 0 rfl, ← List.range_eq_range', filter_flatMap']
    refine List.Perm.trans (perm_flatMap' (h := fun i => P.filter fun p => decide (hd1 p.1 = (i : Nat))) fun i _ => ?_) (parts_perm P (mxP P + 1) fun p hp => ?_)
    · rw [← slice_back w, List.filter_map]
      refine List.Perm.map _ ?_
      have zs : ∀ q ∈ Tc.slice (i : Nat) P, nz q = true := fun q hq => by
        obtain ⟨p, hp, _, rfl⟩ := slice_mem hq
        exact z p hp
      exact TF_N (w.slice _) zs
    · obtain ⟨x, t, e, h0, _⟩ := ok_cons (w.ok p hp)
      have := mxP_ge hp
      rw [e] at this ⊢
      have h1 : hd1 (x :: t) = x := rfl
      rw [h1] at this ⊢
      omega
end Tc


namespace Tc
open PySem PySem.Spec Pd
/-! ### values -/
def rp (x : Rat) : Nat → Rat
  | 0 => 1
  | n + 1 => rp x n * x
def mono : List Rat → List Int → Rat
  | x :: pt, n :: k => rp x n.toNat * mono pt k
  | _, _ => 1
def ev (pt : List Rat) : Tl → Rat
  | [] => 0
  | p :: P => p.2 * mono pt p.1 + ev pt P
theorem ev_perm {pt : List Rat} {A B : Tl} (p : A.Perm B) : ev pt A = ev pt B := by
  induction p with
  | nil => rfl
  | cons x _ ih => exact congrArg (x.2 * mono pt x.1 + ·) ih
  | swap x y l =>
    show y.2 * mono pt y.1 + (x.2 * mono pt x.1 + ev pt l) = x.2 * mono pt x.1 + (y.2 * mono pt y.1 + ev pt l)
    grind
  | trans _ _ i1 i2 => exact i1.trans i2
theorem ev_append (pt : List Rat) : ∀ A B : Tl, ev pt (A ++ B) = ev pt A + ev pt B
  | [], B => by
    show ev pt B = 0 + ev pt B
    grind
  | p :: A, B => by
    show p.2 * mono pt p.1 + ev pt (A ++ B) = p.2 * mono pt p.1 + ev pt A + ev pt B
    rw [ev_append pt A B]
    grind
/-- the sum over i < n -/
def hs (f : Nat → Rat) : Nat → Rat
  | 0 => 0
  | n + 1 => hs f n + f n
theorem hs_congr {f g : Nat → Rat} : ∀ n, (∀ i, i < n → f i = g i) → hs f n = hs g n
  | 0, _ => rfl
  | n + 1, h => by
    show hs f n + f n = hs g n + g n
    rw [hs_congr n fun i hi => h i (by omega), h n (by omega)]
theorem hs_one (f : Nat → Rat) (j : Nat) (c : Rat) : ∀ n, hs (fun i => (if i = j then c else 0) + f i) n = (if j < n then c else 0) + hs f n
  | 0 => by
    show (0 : Rat) = (if j < 0 then c else 0) + 0
    rw [if_neg (Nat.not_lt_zero _)]
    grind
  | n + 1 => by
    show hs (fun i => (if i = j then c else 0) + f i) n + ((if n = j then c else 0) + f n) = (if j < n + 1 then c else 0) + (hs f n + f n)
    rw [hs_one f j c n]
    by_cases h1 : j < n
    · rw [if_pos h1, if_neg (by omega), if_pos (by omega)]
      grind
    · by_cases h2 : n = j
      · rw [if_neg h1, if_pos h2, if_pos (by omega)]
        grind
      · rw [if_neg h1, if_neg h2, if_neg (by omega)]
        grind
theorem hs_zero : ∀ n, hs (fun _ => 0) n = 0
  | 0 => rfl
  | n + 1 => by
    show hs (fun _ => 0) n + 0 = 0
    rw [hs_zero n]
    grind
theorem slice_cons (p : Tm) (P : Tl) (i : Int) : Tc.slice i (p :: P) = if hd1 p.1 = i then (p.1.tail, p.2) :: Tc.slice i P else Tc.slice i P := by
  unfold Tc.slice
  by_cases z : hd1 p.1 = i
  · rw [List.filter_cons_of_pos (p := fun p : Tm => decide (hd1 p.1 = i)) (decide_eq_true z), if_pos z]
    rfl
  · rw [List.filter_cons_of_neg (p := fun p : Tm => decide (hd1 p.1 = i)) (by simp [z]), if_neg z]
theorem ev_slice (x : Rat) (pt : List Rat) (n : Nat) : ∀ P : Tl, (∀ p ∈ P, ∃ h t, p.1 = h :: t ∧ 0 ≤ h ∧ h < n) → ev (x :: pt) P = hs (fun i => rp x i * ev pt (Tc.slice (i : Nat) P)) n
  | [], _ => by
    show (0 : Rat) = _
    rw [hs_congr (g := fun _ => 0) n fun i _ => by show rp x i * 0 = 0; grind, hs_zero]
  | p :: P, hp => by
    have ih := ev_slice x pt n P fun q hq => hp q (List.mem_cons_of_mem _ hq)
    obtain ⟨h, t, e, h0, h1⟩ := hp p List.mem_cons_self
    obtain ⟨j, rfl⟩ : ∃ j : Nat, h = j := ⟨h.toNat, by omega⟩
    have e2 : ∀ i : Nat, rp x i * ev pt (Tc.slice (i : Nat) (p :: P)) = (if i = j then rp x j * (p.2 * mono pt t) else 0) + rp x i * ev pt (Tc.slice (i : Nat) P) := fun i => by
      rw [slice_cons, e]
      have eh : hd1 (((j : Nat) : Int) :: t) = (j : Nat) := rfl
      rw [eh]
      by_cases z : i = j
      · subst z
        rw [if_pos rfl, if_pos rfl]
        show rp x i * (p.2 * mono pt t + ev pt (Tc.slice (i : Nat) P)) = _
        grind
      · rw [if_neg (by omega), if_neg z]
        grind
    rw [hs_congr n fun i _ => e2 i, hs_one, if_pos (by omega), ← ih]
    show p.2 * mono (x :: pt) p.1 + ev (x :: pt) P = _
    rw [e]
    show p.2 * (rp x (((j : Nat) : Int)).toNat * mono pt t) + ev (x :: pt) P = _
    rw [Int.toNat_natCast]
    grind
/-- by Horner -/
def hor (x : Rat) (v : Nat → Rat) : Nat → Rat → Rat
  | 0, a => a
  | n + 1, a => hor x v n (a * x + v n)
theorem hor_sum (x : Rat) (v : Nat → Rat) : ∀ (n : Nat) (a : Rat), hor x v n a = hs (fun i => rp x i * v i) n + rp x n * a
  | 0, a => by
    show a = 0 + 1 * a
    grind
  | n + 1, a => by
    show hor x v n (a * x + v n) = hs (fun i => rp x i * v i) n + rp x n * v n + rp x n * x * a
    rw [hor_sum x v n]
    grind
/-- the value of a nested form: so many turns, each a product and a sum -/
theorem ev_hor {l : Nat} {P : Tl} (w : WF (l + 1) P) (x : Rat) (pt : List Rat) : ev (x :: pt) P = hor x (fun i => ev pt (Tc.slice (i : Nat) P)) (mxP P + 1) 0 := by
  rw [hor_sum, ev_slice x pt (mxP P + 1) P fun p hp => ?_]
  · grind
  · obtain ⟨h, t, e, h0, _⟩ := ok_cons (w.ok p hp)
    have := mxP_ge hp
    rw [e] at this
    have h1 : h.toNat ≤ mxP P := this
    exact ⟨h, t, e, h0, by omega⟩
theorem ev_zero {P : Tl} (w : WF 0 P) : ev [] P = first P := by
  rcases wf0 w with e | ⟨r, e⟩
  · subst e
    rfl
  · subst e
    show r * 1 + 0 = r
    grind
/-! ### how many digits -/
def Bz (k : Nat) (P : Tl) : Prop := ∀ p ∈ P, bz k p.2
theorem Bz.slice {k : Nat} {P : Tl} (h : Bz k P) (i : Int) : Bz k (Tc.slice i P) := fun q hq => by
  obtain ⟨p, hp, _, rfl⟩ := slice_mem hq
  exact h p hp
theorem Bz.perm {k : Nat} {A B : Tl} (p : A.Perm B) (h : Bz k B) : Bz k A := fun q hq => h q (p.mem_iff.mp hq)
theorem bz0 : bz 0 0 := by decide +kernel
theorem bz_first {k : Nat} {P : Tl} (h : Bz k P) : bz k (first P) := by
  cases P with
  | nil => exact bz0.mono (Nat.zero_le _)
  | cons p P => exact h p List.mem_cons_self
/-- digits of the value on level l -/
def vb : Nat → Nat
  | 0 => 30
  | l + 1 => 5 * (vb l + 4) + 1
end Tc


namespace Tc
open PySem PySem.Spec Pd
theorem bnd_of {i : Int} (h1 : -4611686018427387904 ≤ i) (h2 : i < 4611686018427387904) : bnd62 i = true := by
  unfold bnd62
  rw [Bool.and_eq_true, decide_eq_true_iff, decide_eq_true_iff]
  constructor <;> omega
theorem rng0 (n : Nat) : rngL 0 n = (List.range n).map fun i : Nat => Dt.int (0 + i) := rfl
theorem draw_spec {θ : Pot} {n : Int} (h : PotOk θ) (hn : 0 < n) (hn2 : n < 1000000000000000000000000000000000000000000000000) : Gv (m__law_draw [.pot, .dat (.int n)] θ) fun r θ' => ∃ i, r = .d (.int i) ∧ 0 ≤ i ∧ i < n ∧ PotOk θ' := by
  unfold m__law_draw r__law_draw
  obtain ⟨h1, h2, h3⟩ := h
  have e1 : ∀ i : Int, i.fmod n = i % n := fun i => fm_pos hn
  have e2 : ∀ i : Int, i.fmod 2147483587 = i % 2147483587 := fun i => fm_pos (by decide)
  have e3 : ∀ i : Int, i.fmod 2147483563 = i % 2147483563 := fun i => fm_pos (by decide)
  have e4 : ∀ i : Int, i.fdiv 17 = i / 17 := fun i => fd_pos (by decide)
  have k1 : ∀ i : Int, 0 ≤ i % n ∧ i % n < n := fun i => ⟨Int.emod_nonneg i (by omega), Int.emod_lt_of_pos i hn⟩
  simp! [e1, e2, e3, e4]
  have nz : n ≠ 0 := by omega
  refine ⟨fun h => ⟨⟨hn, small_of (by omega) (by omega)⟩, _, rfl, (k1 _).1, (k1 _).2, Int.ediv_nonneg h1 (by omega), h2, h3⟩, fun h => ⟨small_of (by omega) (by omega), small_of (by omega) (by omega), by simp [nz], _, rfl, (k1 _).1, (k1 _).2, h1, ?_, ?_⟩⟩
  · show 0 ≤ (θ.2 * 39373 + 1061) % 2147483587
    omega
  · show (θ.2 * 39373 + 1061) % 2147483587 < 4294967296
    omega
theorem pick_mem {θ : Pot} {l : List Dt} {Q : Ret → Pot → Prop} (h : PotOk θ) (h0 : 0 < l.length) (h1 : l.length ≤ 100) (q : ∀ d ∈ l, ∀ θ', PotOk θ' → Q (.d d) θ') : Gv (m__law_pick [.pot, .dat (.lst l)] θ) Q := by
  unfold m__law_pick r__law_pick
  simp! [gv_lenL]
  refine (draw_spec h (by omega) (by omega)).imp ?_
  rintro _ θ1 ⟨i, rfl, i0, i1, hp⟩
  obtain ⟨k, rfl⟩ : ∃ k : Nat, i = (k : Nat) := ⟨i.toNat, by omega⟩
  have lk : k < l.length := by omega
  have g : gIx (.lst l) (.int (k : Nat)) = some l[k] := L2.atI_nat (j := k) (List.getElem?_eq_getElem lk)
  simp! [g]
  exact q _ (List.getElem_mem lk) θ1 hp
theorem cfil {α : Type} {ρ : DEnv} {θ : Pot} {T : Tgt} {vs : List Nat} {tt : M Bool} {elt : M Dt} {Q : List Dt → Pot → Prop} {g f : α → Dt} {c : α → Bool} : ∀ (l : List α), (∀ a ∈ l, cmpR (bindT T (g a) (wipeD (hide ρ) vs)) fun ρ1 => Gv (tt ρ1 θ) fun b θ' => b = c a ∧ θ' = θ ∧ (c a = true → Gv (elt ρ1 θ) fun d θ'' => d = f a ∧ θ'' = θ)) → Q ((l.filter c).map f) θ → Gv (compGo T vs tt elt (l.map g) ρ θ) Q
  | [], _, q => q
  | a :: l, h, q => by
    have ha := h a List.mem_cons_self
    rw [List.map_cons, gv_comp1]
    cases e : bindT T (g a) (wipeD (hide ρ) vs) with
    | none => rw [e] at ha; exact ha.elim
    | some ρ1 =>
      rw [e] at ha
      rw [cmpR_s, cmpK1_a]
      have ha : Gv (tt ρ1 θ) fun b θ' => b = c a ∧ θ' = θ ∧ (c a = true → Gv (elt ρ1 θ) fun d θ'' => d = f a ∧ θ'' = θ) := ha
      refine ha.imp ?_
      rintro b θ1 ⟨e1, e2, e3⟩
      subst e2
      cases ec : c a with
      | false =>
        rw [e1, ec, brK_f]
        rw [List.filter_cons_of_neg (by rw [ec]; exact Bool.false_ne_true)] at q
        exact cfil l (fun b hb => h b (List.mem_cons_of_mem _ hb)) q
      | true =>
        rw [e1, ec, brK_t]
        rw [List.filter_cons_of_pos ec, List.map_cons] at q
        refine (e3 ec).imp ?_
        rintro d θ2 ⟨q1, q2⟩
        rw [cmpK2_a, q1, q2]
        exact cfil (Q := consK2 (f a) Q) l (fun b hb => h b (List.mem_cons_of_mem _ hb)) q
theorem cmapD {ρ : DEnv} {θ : Pot} {T : Tgt} {vs : List Nat} {elt : M Dt} {Q : List Dt → Pot → Prop} {f : Dt → Dt} (l : List Dt) (h : ∀ a ∈ l, cmpR (bindT T a (wipeD (hide ρ) vs)) fun ρ1 => Gv (elt ρ1 θ) fun d θ' => d = f a ∧ θ' = θ) (q : Q (l.map f) θ) : Gv (compGo T vs tt1 elt l ρ θ) Q := by
  have := cmap (g := fun d : Dt => d) (f := f) l h q
  rwa [List.map_id'] at this

theorem for_map {α : Type} {T : Tgt} {body : Pd.M Out} {Q : Out → Pot → Prop} (g : α → Dt) (I : List α → DEnv → Pot → Prop) (ts : List α) (h0 : ∀ ρ θ, I ts ρ θ → Q (.next ρ) θ)
    (h1 : ∀ pre a post ρ θ, ts = pre ++ a :: post → I pre ρ θ → ∃ ρ1, bindT T (g a) ρ = some ρ1 ∧ Gv (body ρ1 θ) fun o θ2 => ∃ ρ2, o = .next ρ2 ∧ I (pre ++ [a]) ρ2 θ2) (ρ : DEnv) (θ : Pot) (h : I [] ρ θ) : Gv (forGo T body (ts.map g) ρ θ) Q := by
  refine gv_for_inv (fun l ρ θ => ∃ pre post, ts = pre ++ post ∧ l = post.map g ∧ I pre ρ θ) ?_ ?_ _ _ _ ⟨[], ts, rfl, rfl, h⟩
  · rintro ρ θ ⟨pre, post, e, l, hi⟩
    have : post = [] := List.map_eq_nil_iff.mp l.symm
    subst this
    rw [List.append_nil] at e
    subst e
    exact h0 _ _ hi
  · rintro d ds ρ θ ⟨pre, post, e, l, hi⟩
    cases post with
    | nil => cases l
    | cons a post =>
      rw [List.map_cons] at l
      obtain ⟨rfl, rfl⟩ := List.cons.inj l
      obtain ⟨ρ1, e1, q⟩ := h1 pre a post ρ θ e hi
      refine ⟨ρ1, e1, q.imp ?_⟩
      rintro _ θ2 ⟨ρ2, rfl, q2⟩
      exact ⟨pre ++ [a], post, by rw [e, List.append_assoc]; rfl, rfl, q2⟩
/-! ### what is drawn -/
theorem ratio_spec {θ : Pot} (h : PotOk θ) : Gv (m__law_ratio [.pot] θ) fun r θ' => ∃ q : Rat, r = .d (dq q) ∧ bz 3 q ∧ PotOk θ' := by
  unfold m__law_ratio r__law_ratio
  simp! [true_and]
  refine pick_mem h (by decide) (by decide) fun d hd θ1 h1 => ?_
  have hd' : ∃ n : Int, d = .int n ∧ bi 3 n := by
    simp only [List.mem_cons, List.not_mem_nil, or_false] at hd
    rcases hd with rfl | rfl | rfl | rfl | rfl | rfl | rfl <;> exact ⟨_, rfl, by decide⟩
  obtain ⟨n, rfl, bn⟩ := hd'
  simp! [true_and]
  refine pick_mem h1 (by decide) (by decide) fun d hd θ2 h2 => ?_
  have hd' : ∃ u : Int, d = .int u ∧ u ≠ 0 ∧ bi 3 u := by
    simp only [List.mem_cons, List.not_mem_nil, or_false] at hd
    rcases hd with rfl | rfl | rfl | rfl | rfl <;> exact ⟨_, rfl, by decide, by decide⟩
  obtain ⟨u, rfl, u0, bu⟩ := hd'
  simp! [true_and]
  refine low_ok u0 bn bu (by decide) (by decide) ?_
  simp! [true_and]
  exact ⟨_, rfl, bz_of (w := (n, u)) u0 rfl bn bu, h2⟩
def PKey (l : Nat) (n : Int) (k : List Int) : Prop := k.length = l ∧ ∀ x ∈ k, 0 ≤ x ∧ x ≤ n
theorem PKey.ok {l : Nat} {n : Int} {k : List Int} (h : PKey l n k) (hn : n ≤ 4) : okB l k = true := okB_iff.mpr ⟨h.1, fun m hm => by have := h.2 m hm; omega⟩
theorem terms_spec {θ : Pot} {L : Int} {l : Nat} {n : Int} (eL : L = (l : Nat)) (h : PotOk θ) (hl : l ≤ 3) (hn : 0 ≤ n ∧ n ≤ 4) : Gv (m__law_terms [.pot, .dat (.int L), .dat (.int 6), .dat (.int n)] θ) fun r θ' => ∃ ts : Tl, r = .o (ts.map dTm) ∧ ts.length ≤ 6 ∧ (∀ p ∈ ts, PKey l n p.1 ∧ bz 3 p.2) ∧ PotOk θ' := by
  unfold m__law_terms r__law_terms
  simp! [true_and]
  refine (draw_spec h (by decide) (by decide)).imp ?_
  rintro _ θ1 ⟨c, rfl, c0, c1, h1⟩
  have b1 : bnd62 c = true := bnd_of (by omega) (by omega)
  simp! [b1]
  obtain ⟨m, em⟩ : ∃ m : Nat, c.toNat = m := ⟨_, rfl⟩
  rw [em, rng0]
  refine for_rangeM (fun i : Nat => Dt.int (0 + i)) m (fun i ρ θ' => ∃ (ts : Tl) (a b c : Option Ent), ρ = [some .pot, some (.dat (.int L)), some (.dat (.int 6)), some (.dat (.int n)), some (.own (ts.map dTm)), a, b, c] ∧ ts.length = i ∧ (∀ p ∈ ts, PKey l n p.1 ∧ bz 3 p.2) ∧ PotOk θ') ?_ ?_ _ _ ⟨[], none, none, none, rfl, rfl, fun p hp => (List.not_mem_nil hp).elim, h1⟩
  · rintro ρ θ2 ⟨ts, a, b, c, rfl, lt, hp, h2⟩
    simp! [true_and]
    exact ⟨ts, rfl, by omega, hp, h2⟩
  · rintro i ρ θ2 hi ⟨ts, a, b, c, rfl, lt, hp, h2⟩
    refine ⟨_, rfl, ?_⟩
    have b2 : bnd62 L = true := bnd_of (by omega) (by omega)
    simp! [b2]
    rw [show L.toNat = l by omega, rng0]
    refine for_rangeM (fun i : Nat => Dt.int (0 + i)) l (fun j ρ θ' => ∃ (k : List Int) (c : Option Ent), ρ = [some .pot, some (.dat (.int L)), some (.dat (.int 6)), some (.dat (.int n)), some (.own (ts.map dTm)), some (.dat (.int (0 + (i : Nat)))), some (.own (k.map Dt.int)), c] ∧ PKey j n k ∧ PotOk θ') ?_ ?_ _ _ ⟨[], c, rfl, ⟨rfl, fun x hx => (List.not_mem_nil hx).elim⟩, h2⟩
    · rintro ρ θ3 ⟨k, c, rfl, pk, h3⟩
      simp! [true_and]
      refine (ratio_spec h3).imp ?_
      rintro _ θ4 ⟨q, rfl, bq, h4⟩
      have lb : (ts.map dTm).length < bigL := by
        rw [List.length_map, lt]
        unfold bigL
        omega
      simp! [lb]
      refine ⟨_, rfl, ts ++ [(k, q)], some (.dat (.int (0 + (i : Nat)))), some (.dat (.lst (k.map Dt.int))), c, ?_, by rw [List.length_append, lt]; rfl, fun p hp' => ?_, h4⟩
      · rw [List.map_append]
        rfl
      · rcases List.mem_append.mp hp' with z | z
        · exact hp p z
        · rw [List.mem_singleton.mp z]
          exact ⟨pk, bq⟩
    · rintro j ρ θ3 hj ⟨k, c, rfl, pk, h3⟩
      refine ⟨_, rfl, ?_⟩
      simp! [true_and]
      refine (draw_spec h3 (by omega) (by omega)).imp ?_
      rintro _ θ4 ⟨x, rfl, x0, x1, h4⟩
      have lb : (k.map Dt.int).length < bigL := by
        rw [List.length_map, pk.1]
        unfold bigL
        omega
      simp! [lb]
      refine ⟨_, rfl, k ++ [x], some (.dat (.int (0 + (j : Nat)))), ?_, ⟨by rw [List.length_append, pk.1]; rfl, fun y hy => ?_⟩, h4⟩
      · rw [List.map_append]
        rfl
      · rcases List.mem_append.mp hy with z | z
        · exact pk.2 y z
        · rw [List.mem_singleton.mp z]
          omega
end Tc


namespace Tc
open PySem PySem.Spec Pd
/-- a slot: empty, or data -/
def oD : Option Dt → Option Ent
  | some d => some (.dat d)
  | none => none
theorem hide_oD (x : Option Dt) (ρ : DEnv) : hide (oD x :: ρ) = oD x :: hide ρ := by cases x <;> rfl
/-! ### sums -/
theorem look0 (P : Tl) (k : List Int) : (dGet (ksP P) (vsP P) k).getD (.tup [.int 0, .int 1]) = dq (getP P k) := getD_look P k 0
theorem bz_getP {P : Tl} {b : Nat} (h : Bz b P) (k : List Int) : bz b (getP P k) := by
  unfold getP
  cases e : look P k with
  | none => exact bz0.mono (Nat.zero_le _)
  | some r => exact h _ (look_mem e)
theorem Bz.put {P : Tl} {b : Nat} {k : List Int} {r : Rat} (h : Bz b P) (hr : bz b r) : Bz b (putP P k r) := fun p hp => by
  rcases putP_mem hp with z | z
  · exact h p z
  · rw [z]
    exact hr
theorem Bz.acc {P : Tl} {n : Nat} {p : Tm} (h : Bz (4 * n) P) (hp : bz 3 p.2) : Bz (4 * (n + 1)) (accP P p) := by
  refine Bz.put (fun q hq => (h q hq).mono (by omega)) ?_
  exact ((bz_getP h p.1).add hp).mono (by omega)
theorem foldl_snoc (pre : Tl) (p : Tm) : (pre ++ [p]).foldl accP [] = accP (pre.foldl accP []) p := by
  rw [List.foldl_append]
  rfl
theorem dct_P (P : Tl) : Dt.dct (ksP P) (vsP P) = dD P := rfl
theorem get_P {P : Tl} (nd : (ksP P).Nodup) {p : Tm} (hp : p ∈ P) : dGet (ksP P) (vsP P) p.1 = some (dq p.2) := by
  rw [dGet_look, mem_look nd (show (p.1, p.2) ∈ P from hp)]
  rfl
theorem num_ne (q : Rat) : decide (q.num ≠ 0) = decide (q ≠ 0) := by
  have e : q.num ≠ 0 ↔ q ≠ 0 := not_congr Rat.num_eq_zero
  exact decide_eq_decide.mpr e
theorem nz_num (p : Tm) : (!decide (p.2.num = 0)) = nz p := by
  unfold nz
  rw [← num_ne]
  exact (decide_not (p := p.2.num = 0)).symm
theorem bT2 (i j : Nat) (p : Tm) (ρ : DEnv) : bindT (.t [i, j]) (dTm p) ρ = some ((ρ.set i (some (.dat (keyD p.1)))).set j (some (.dat (dq p.2)))) := rfl
theorem dict_T (A : Tl) (nd : (ksP A).Nodup) : dictOf [.lst (A.map dTm)] = some (ksP A, vsP A) := by
  have e : A.map dTm = (A.map fun p => (p.1, dq p.2)).map fun p => Dt.tup [keyD p.1, p.2] := by
    rw [List.map_map]
    rfl
  rw [e, dictOf_nodup]
  · rw [List.map_map, List.map_map]
    rfl
  · rw [List.map_map]
    exact nd
theorem sums_ok {θ : Pot} {ts : Tl} {Q : Ret → Pot → Prop} (hl : ts.length ≤ 6) (hb : ∀ p ∈ ts, bz 3 p.2) (q : Q (.d (dD ((accs ts).filter nz))) θ) : Gv (m__law_sums [.dat (.lst (ts.map dTm))] θ) Q := by
  unfold m__law_sums r__law_sums
  simp! [true_and]
  refine for_map dTm (fun pre ρ θ' => ∃ a b : Option Dt, ρ = [some (.dat (.lst (ts.map dTm))), some (.dic false (ksP (pre.foldl accP [])) (vsP (pre.foldl accP []))), oD a, oD b] ∧ Bz (4 * pre.length) (pre.foldl accP []) ∧ (pre.foldl accP []).length ≤ pre.length ∧ θ' = θ) ts ?_ ?_ _ _ ⟨none, none, rfl, fun p hp => (List.not_mem_nil hp).elim, Nat.le_refl _, rfl⟩
  · rintro ρ θ1 ⟨a, b, rfl, hB, hL, rfl⟩
    have nd : (ksP (accs ts)).Nodup := accs_nodup ts [] List.nodup_nil
    show Gv _ _
    have eA : ts.foldl accP [] = accs ts := rfl
    rw [eA] at hB hL ⊢
    have lb : ((ksP (accs ts)).map keyD).length < bigL := by
      rw [List.length_map]
      unfold ksP bigL
      rw [List.length_map]
      omega
    simp! [lb]
    have ek : (ksP (accs ts)).map keyD = (accs ts).map fun p => keyD p.1 := by
      unfold ksP
      rw [List.map_map]
      rfl
    rw [ek]
    refine cfil (f := dTm) (c := nz) (accs ts) (fun p hp => ?_) ?_
    · have g : ∀ (ρ : DEnv) (θ : Pot) (Q : Dt → Pot → Prop), Gv (opt (gIxQ (.dct (ksP (accs ts)) (vsP (accs ts))) (keyD p.1)) ρ θ) Q = Q (dq p.2) θ := fun ρ θ Q => gv_ixQd _ _ _ _ (get_P nd hp)
      simp! [g, dq, hide_oD]
      exact ⟨nz_num p, fun _ => rfl⟩
    · have e2 := dict_T ((accs ts).filter nz) (nodup_filter nd nz)
      simp! [e2]
      exact q
  · rintro pre p post ρ θ1 e ⟨a, b, rfl, hB, hL, rfl⟩
    refine ⟨_, bT2 2 3 p _, ?_⟩
    have bp : bz 3 p.2 := hb p (by rw [e]; simp)
    have lp : pre.length + post.length + 1 ≤ 6 := by
      rw [e, List.length_append, List.length_cons] at hl
      omega
    have lb : (ksP (pre.foldl accP [])).length < bigL := by
      unfold ksP bigL
      rw [List.length_map]
      omega
    simp! [look0]
    refine ladd_ok (bz_getP hB p.1) bp (by omega) ?_
    simp! [lb, dPut_P]
    refine ⟨_, rfl, some (keyD p.1), some (dq p.2), by rw [foldl_snoc]; rfl, ?_, ?_⟩
    · rw [foldl_snoc, List.length_append]
      exact hB.acc bp
    · rw [foldl_snoc, List.length_append]
      have := putP_len (pre.foldl accP []) p.1 (getP (pre.foldl accP []) p.1 + p.2)
      refine Nat.le_trans this ?_
      rw [List.length_singleton]
      omega
end Tc


namespace Tc
open PySem PySem.Spec Pd
def tp (P : Tl) : Dt := .tup (P.map dTm)
/-! ### sums told -/
theorem sort_D {l : Nat} {P : Tl} (w : WF l P) (hl : 1 ≤ l) (hn : P.length < 64) : sortOfT [.lst ((ksP P).map keyD)] = some ((sortP P).map fun p => keyD p.1) := by
  rw [sortOfT_k _ (okSort_P hl hn w.ok), ← sortP_ks]
  unfold ksP
  rw [List.map_map]
  rfl
theorem sort_mem {l : Nat} {P : Tl} (w : WF l P) {p : Tm} (hp : p ∈ sortP P) : dGet (ksP P) (vsP P) p.1 = some (dq p.2) := get_P w.nd ((sortP_perm w.nd).mem_iff.mp hp)
theorem ks_big {P : Tl} (h : P.length < 64) : ((ksP P).map keyD).length < bigL := by
  rw [List.length_map]
  unfold ksP bigL
  rw [List.length_map]
  omega
theorem law_told_ok {θ : Pot} {l : Nat} {P : Tl} {Q : Ret → Pot → Prop} (w : WF l P) (hl : 1 ≤ l) (hn : P.length < 64) (q : Q (.d (tp ((sortP P).filter nz))) θ) : Gv (m__law_told [.dat (dD P)] θ) Q := by
  unfold m__law_told r__law_told dD
  have e := sort_D w hl hn
  have lb := ks_big hn
  have ls : ((sortP P).map fun p : Tm => keyD p.1).length < bigL := by
    rw [List.length_map, (sortP_perm w.nd).length_eq]
    unfold bigL
    omega
  simp! [lb, e, ls]
  refine cfil (f := dTm) (c := nz) (sortP P) (fun p hp => ?_) ?_
  · have g : ∀ (ρ : DEnv) (θ : Pot) (Q : Dt → Pot → Prop), Gv (opt (gIxQ (.dct (ksP P) (vsP P)) (keyD p.1)) ρ θ) Q = Q (dq p.2) θ := fun ρ θ Q => gv_ixQd _ _ _ _ (sort_mem w hp)
    simp! [g, dq]
    exact ⟨nz_num p, fun _ => rfl⟩
  · simp! [true_and]
    exact q
theorem ev0 (q : Rat) : (PyData.tuple [PyData.int q.num, PyData.int (q.den : Nat)]).eqv (PyData.tuple [PyData.int 0, PyData.int 1]) = decide (q = 0) := by
  simp only [PyData.eqv, PyData.eqvAll, Bool.and_true]
  by_cases h : q = 0
  · subst h
    rfl
  · rw [decide_eq_false h]
    have : ¬ q.num = 0 := fun e => h (Rat.num_eq_zero.mp e)
    have e : (q.num == 0) = false := by simpa using this
    rw [e, Bool.false_and]
theorem ev0_nz (p : Tm) : (!(PyData.tuple [PyData.int p.2.num, PyData.int (p.2.den : Nat)]).eqv (PyData.tuple [PyData.int 0, PyData.int 1])) = nz p := by
  rw [ev0]
  unfold nz
  exact (decide_not (p := p.2 = 0)).symm
theorem told_ok {θ : Pot} {l : Nat} {P : Tl} {Q : Ret → Pot → Prop} (w : WF l P) (hl : 1 ≤ l) (hn : P.length < 64) (q : Q (.d (tp ((sortP P).filter nz))) θ) : Gv (m_told_poly [.dat (dD P)] θ) Q := by
  unfold m_told_poly r_told_poly dD
  have e := sort_D w hl hn
  have lb := ks_big hn
  have ls : ((sortP P).map fun p : Tm => keyD p.1).length < bigL := by
    rw [List.length_map, (sortP_perm w.nd).length_eq]
    unfold bigL
    omega
  simp! [lb, e, ls]
  refine cfil (f := dTm) (c := nz) (sortP P) (fun p hp => ?_) ?_
  · have g : ∀ (ρ : DEnv) (θ : Pot) (Q : Dt → Pot → Prop), Gv (opt (gIxQ (.dct (ksP P) (vsP P)) (keyD p.1)) ρ θ) Q = Q (dq p.2) θ := fun ρ θ Q => gv_ixQd _ _ _ _ (sort_mem w hp)
    simp! [g, dq]
    exact ⟨ev0_nz p, rfl, fun _ => rfl⟩
  · simp! [true_and]
    exact q
end Tc


namespace Tc
open PySem PySem.Spec Pd
/-! ### terms and polys, looked at -/
theorem gvE {α : Type} {r : Res α} {x : α} {θ : Pot} (h : ∀ Q : α → Pot → Prop, Q x θ → Gv r Q) (Q : α → Pot → Prop) : Gv r Q = Q x θ := by
  have e : r = .ok x θ := gv_eq (h (fun a θ' => a = x ∧ θ' = θ) ⟨rfl, rfl⟩)
  rw [e]
  rfl
theorem is_ratio_eq (p : Rat) (θ : Pot) (Q : Ret → Pot → Prop) : Gv (m_is_ratio [.dat (dq p)] θ) Q = Q (.d (.bl true)) θ := gvE (fun Q q => is_ratio_ok q) Q
theorem is_count_eq (i : Int) (θ : Pot) (Q : Ret → Pot → Prop) : Gv (m_is_count [.dat (.int i)] θ) Q = Q (.d (.bl (decide (i ≥ 0)))) θ := by
  unfold m_is_count r_is_count
  simp! [is_integer_eq]
theorem is_list_l (l : List Dt) (θ : Pot) (Q : Ret → Pot → Prop) : Gv (m_is_list [.dat (.lst l)] θ) Q = Q (.d (.bl true)) θ := by
  unfold m_is_list r_is_list
  simp! [true_and]
  rfl
theorem letters_eq {L : Int} (h1 : 1 ≤ L) (h2 : L ≤ 3) (θ : Pot) (Q : Ret → Pot → Prop) : Gv (m_want_letters_many [.dat (.int L)] θ) Q = Q (.d .non) θ := by
  unfold m_want_letters_many r_want_letters_many m_want_many r_want_many
  have g0 : L ≥ 0 := by omega
  have g1 : ¬ L < 1 := by omega
  have g2 : ¬ L > 8 := by omega
  simp! [is_count_eq, g0, g1, g2]
theorem all_true {α : Type} (l : List α) : l.all (fun _ => true) = true := List.all_eq_true.mpr fun _ _ => rfl
theorem any_false {α : Type} (l : List α) : l.any (fun _ => false) = false := by
  induction l with
  | nil => rfl
  | cons a l ih => rw [List.any_cons, ih]; rfl
theorem gv_anyM {α : Type} {ρ : DEnv} {θ : Pot} (p : α → Bool) (l : List α) {Q : Dt → Pot → Prop} : Gv (opt (gAny [.lst (l.map fun a => Dt.bl (p a))]) ρ θ) Q = Q (.bl (l.any p)) θ := by
  show Gv (opt ((boolsOf _).map _) ρ θ) Q = _
  rw [boolsOf_map, Option.map_some]
  show Q _ θ = _
  rw [List.any_map]
  rfl
theorem sum_eq (k : List Int) (ρ : DEnv) (θ : Pot) (Q : Dt → Pot → Prop) : Gv (opt (gSum2 [.tup (k.map Dt.int)]) ρ θ) Q = Q (.int k.sum) θ := by
  rw [gSum2_tup (ns := k)]
  · rfl
  · have := intsOf_map (fun i : Int => i) k
    rwa [List.map_id'] at this
theorem is_term_eq {L : Int} {l : Nat} {p : Tm} (eL : L = (l : Nat)) (hl : l ≤ 3) (ok : okB l p.1 = true) (θ : Pot) (Q : Ret → Pot → Prop) : Gv (m_is_term [.dat (.int L), .dat (dTm p)] θ) Q = Q (.d (.bl (decide (p.1.sum ≤ 8)))) θ := by
  refine gvE (fun Q q => ?_) Q
  unfold m_is_term r_is_term
  obtain ⟨h1, h2⟩ := okB_iff.mp ok
  have gl : ∀ (ρ : DEnv) (θ : Pot) (Q : Dt → Pot → Prop), Gv (opt (gLen [.tup (p.1.map Dt.int)]) ρ θ) Q = Q (.int L) θ := fun ρ θ Q => by rw [gv_lenT, List.length_map, h1, eL]
  have lb : (p.1.map Dt.int).length < bigL := by
    rw [List.length_map, h1]
    unfold bigL
    omega
  simp! [dTm, keyD, is_ratio_eq, gl, lb]
  refine cmap (f := fun _ => .bl true) p.1 (fun i hi => ?_) ?_
  · have := h2 i hi
    have g : i ≥ 0 := this.1
    simp! [is_count_eq, g]
  · have e : ∀ (ρ : DEnv) (θ : Pot) (Q : Dt → Pot → Prop), Gv (opt (gAll [.lst (p.1.map fun _ => Dt.bl true)]) ρ θ) Q = Q (.bl true) θ := fun ρ θ Q => by
      rw [gv_allM (fun _ : Int => true) p.1, all_true]
    simp! [e, sum_eq]
    exact q
theorem eq_0 (q : Rat) (ρ : DEnv) (θ : Pot) (Q : Dt → Pot → Prop) : Gv (opt (gEq (dq q) (.tup [.int 0, .int 1])) ρ θ) Q = Q (.bl (decide (q = 0))) θ := by
  have e : gEq (dq q) (.tup [.int 0, .int 1]) = some (.bl ((PyData.tuple [PyData.int q.num, PyData.int (q.den : Nat)]).eqv (PyData.tuple [PyData.int 0, PyData.int 1]))) := rfl
  rw [e, ev0]
  rfl
theorem cut_from (l : List Dt) (i : Nat) (h : i ≤ l.length) : cutD l (some (i : Int)) none = l.drop i := by
  unfold cutD
  rw [HT.sIx_nat, HT.sIx_none, Nat.min_eq_left h, List.take_of_length_le (by rw [List.length_drop]; omega)]
theorem cut_upto (l : List Dt) (i : Nat) (h : i ≤ l.length) : cutD l none (some (i : Int)) = l.take i := by
  unfold cutD
  rw [HT.sIx_nat, HT.sIx_none, Nat.min_eq_left h, List.drop_zero, Nat.sub_zero]
theorem cut1 (l : List Dt) : cutD l (some 1) none = l.drop 1 := by
  cases l with
  | nil => rfl
  | cons a l => exact cut_from (a :: l) 1 (Nat.succ_le_succ (Nat.zero_le _))
theorem pairs_next : ∀ P : Tl, pairs (P.map dTm) ((P.map dTm).drop 1) = (P.zip P.tail).map fun x => .tup [dTm x.1, dTm x.2]
  | [] => rfl
  | p :: P => by
    show pairs (dTm p :: P.map dTm) (P.map dTm) = _
    unfold pairs
    rw [List.tail_cons]
    show List.zipWith _ ((p :: P).map dTm) (P.map dTm) = _
    rw [List.zipWith_map, List.zip_eq_zipWith, List.map_zipWith]
/-- strictly one behind the other -/
def Srt (P : Tl) : Prop := (ksP P).Pairwise fun x y => Pd.lexLt x y = true
theorem next_lt : ∀ (P : Tl), Srt P → ∀ x ∈ P.zip P.tail, Pd.lexLt x.1.1 x.2.1 = true
  | [], _, x, hx => by cases hx
  | [p], _, x, hx => by cases hx
  | p :: q :: P, h, x, hx => by
    have h' : (p.1 :: ksP (q :: P)).Pairwise fun x y => Pd.lexLt x y = true := h
    obtain ⟨h1, h2⟩ := List.pairwise_cons.mp h'
    rcases List.mem_cons.mp (show x ∈ (p, q) :: (q :: P).zip P from hx) with e | e
    · rw [e]
      exact h1 q.1 List.mem_cons_self
    · exact next_lt (q :: P) h2 x e
theorem lt_keys (a b : List Int) (ρ : DEnv) (θ : Pot) (Q : Dt → Pot → Prop) : Gv (opt (gLt2 (keyD a) (keyD b)) ρ θ) Q = Q (.bl (Pd.lexLt a b)) θ := by
  have e : gLt2 (keyD a) (keyD b) = some (.bl (Pd.lexLt a b)) := by
    show (gLt (keyD a) (keyD b)).or (match keyOf (keyD a), keyOf (keyD b) with | some a, some b => _ | _, _ => _) = _
    rw [keyOf_keyD, keyOf_keyD]
    rfl
  rw [e]
  rfl
theorem lst_big {α : Type} {P : List α} (f : α → Dt) (h : P.length ≤ 200) : (P.map f).length < bigL := by
  rw [List.length_map]
  unfold bigL
  omega
def sm8 (p : Tm) : Bool := decide (p.1.sum ≤ 8)
theorem is_poly_in_eq {L : Int} {l : Nat} {P : Tl} (eL : L = (l : Nat)) (hl : l ≤ 3) (ok : Kok l P) (hz : ∀ p ∈ P, nz p = true) (hs : Srt P) (hn : P.length ≤ 60) (θ : Pot) (Q : Ret → Pot → Prop) : Gv (m_is_poly_in [.dat (.int L), .dat (tp P)] θ) Q = Q (.d (.bl (P.all sm8))) θ := by
  refine gvE (fun Q q => ?_) Q
  unfold m_is_poly_in r_is_poly_in
  have g1 : ¬ (P.length : Int) > 60 := by omega
  have lb := lst_big dTm (show P.length ≤ 200 by omega)
  have ln : ((P.map dTm).length : Int) = (P.length : Int) := by rw [List.length_map]
  simp! [gv_lenT, gv_lenL, tp, ln, g1, lb]
  refine cmap (f := fun p => .bl (sm8 p)) P (fun p hp => ?_) ?_
  · simp! [is_term_eq eL hl (ok p hp)]
    rfl
  · have e : ∀ (ρ : DEnv) (θ : Pot) (Q : Dt → Pot → Prop), Gv (opt (gAll [.lst (P.map fun p => Dt.bl (sm8 p))]) ρ θ) Q = Q (.bl (P.all sm8)) θ := fun ρ θ Q => gv_allM sm8 P
    simp! [e]
    cases hc : P.all sm8 with
    | false =>
      simp! [true_and]
      rw [hc] at q
      exact q
    | true =>
      rw [hc] at q
      simp! [true_and]
      refine ⟨lb, cmap (f := fun _ => .bl false) P (fun p hp => ?_) ?_⟩
      · have h0 : ¬ p.2 = 0 := of_decide_eq_true (hz p hp)
        rw [bT2]
        simp! [eq_0, h0]
      · have e4 : ∀ (ρ : DEnv) (θ : Pot) (Q : Dt → Pot → Prop), Gv (opt (gAny [.lst (P.map fun _ => Dt.bl false)]) ρ θ) Q = Q (.bl false) θ := fun ρ θ Q => by
          have := gv_anyM (ρ := ρ) (θ := θ) (fun _ : Tm => false) P (Q := Q)
          rw [this, any_false]
        have lz : ((P.zip P.tail).map fun x => Dt.tup [dTm x.1, dTm x.2]).length < bigL := by
          rw [List.length_map, List.length_zip]
          unfold bigL
          omega
        simp! [e4, cut1, pairs_next, lz]
        refine cmap (f := fun _ => .bl true) (P.zip P.tail) (fun x hx => ?_) ?_
        · have e5 : bindT (.t [2, 5]) (Dt.tup [dTm x.1, dTm x.2]) (wipeD (hide [some (.dat (.int L)), some (.dat (.tup (P.map dTm))), none, none, none, none]) [2, 5]) = some [some (.dat (.int L)), some (.dat (.tup (P.map dTm))), some (.dat (dTm x.1)), none, none, some (.dat (dTm x.2))] := rfl
          rw [e5]
          simp! [dTm, lt_keys]
          rw [next_lt P hs x hx]
        · have e6 : ∀ (ρ : DEnv) (θ : Pot) (Q : Dt → Pot → Prop), Gv (opt (gAll [.lst ((P.zip P.tail).map fun _ => Dt.bl true)]) ρ θ) Q = Q (.bl true) θ := fun ρ θ Q => by
            rw [gv_allM (fun _ : Tm × Tm => true) (P.zip P.tail), all_true]
          simp! [e6]
          exact q
end Tc


namespace Tc
open PySem PySem.Spec Pd
/-! ### polys told and taken -/
structure Nice (l : Nat) (P : Tl) : Prop where
  wf : WF l P
  hz : ∀ p ∈ P, nz p = true
  so : sortP P = P
  len : P.length ≤ 60
theorem Nice.srt {l : Nat} {P : Tl} (h : Nice l P) : Srt P := sorted_strict h.wf.nd h.wf.ok (by
  have := sortP_sorted P
  rwa [h.so] at this)
theorem filter_all {P : Tl} (hz : ∀ p ∈ P, nz p = true) : P.filter nz = P := List.filter_eq_self.mpr hz
theorem Nice.told {l : Nat} {P : Tl} (h : Nice l P) : (sortP P).filter nz = P := by rw [h.so, filter_all h.hz]
/-- what is told of sums is nice -/
theorem nice_told {l : Nat} {A : Tl} (w : WF l A) (hn : A.length ≤ 60) : Nice l ((sortP A).filter nz) := by
  refine ⟨(w.sort).filter nz, fun p hp => (List.mem_filter.mp hp).2, ?_, ?_⟩
  · rw [sortP_filter w.nd w.ok nz]
    exact sortP_sort (nodup_filter w.nd nz) (w.ok.filter nz)
  · refine Nat.le_trans (List.length_filter_le _ _) ?_
    rw [(sortP_perm w.nd).length_eq]
    exact hn
theorem max_ints {ns : List Int} (h : ns ≠ []) (ρ : DEnv) (θ : Pot) (Q : Dt → Pot → Prop) : Gv (opt (gMax [.lst (ns.map Dt.int)]) ρ θ) Q = Q (.int (maxI ns)) θ := by
  have := gv_maxM (ρ := ρ) (θ := θ) (fun i : Int => i) ns h (Q := Q)
  rwa [List.map_id'] at this
theorem maxI_le {ns : List Int} {n : Int} (h : ns ≠ []) (g : ∀ x ∈ ns, x ≤ n) : maxI ns ≤ n := g _ (maxI_mem h)
def degs (P : Tl) : List Int := P.map (fun p => p.1.sum) ++ [0]
theorem degs_ne (P : Tl) : degs P ≠ [] := fun e => by
  have := (List.append_eq_nil_iff.mp e).2
  cases this
theorem degs_le (P : Tl) : maxI (degs P) ≤ 8 ↔ P.all sm8 = true := by
  constructor
  · intro h
    refine List.all_eq_true.mpr fun p hp => decide_eq_true ?_
    exact Int.le_trans (maxI_ge (List.mem_append_left _ (List.mem_map.mpr ⟨p, hp, rfl⟩) : p.1.sum ∈ degs P)) h
  · intro h
    refine maxI_le (degs_ne P) fun x hx => ?_
    rcases List.mem_append.mp hx with z | z
    · obtain ⟨p, hp, rfl⟩ := List.mem_map.mp z
      exact of_decide_eq_true (List.all_eq_true.mp h p hp)
    · rw [List.mem_singleton.mp z]
      decide
theorem degs_dt (P : Tl) : (P.map fun p => Dt.int p.1.sum) ++ [Dt.int 0] = (degs P).map Dt.int := by
  unfold degs
  rw [List.map_append, List.map_map]
  rfl
theorem degree_eq {P : Tl} (hn : P.length ≤ 60) (θ : Pot) (Q : Ret → Pot → Prop) : Gv (m_degree_of [.dat (tp P)] θ) Q = Q (.d (.int (maxI (degs P)))) θ := by
  refine gvE (fun Q q => ?_) Q
  unfold m_degree_of r_degree_of
  have lb := lst_big dTm (show P.length ≤ 200 by omega)
  simp! [tp, lb]
  refine cmap (f := fun p => .int p.1.sum) P (fun p hp => ?_) ?_
  · have e5 : bindT (.t [1, 2]) (dTm p) (wipeD (hide [some (.dat (.tup (P.map dTm))), none, none]) [1, 2]) = some [some (.dat (.tup (P.map dTm))), some (.dat (keyD p.1)), some (.dat (dq p.2))] := rfl
    rw [e5]
    simp! [keyD, sum_eq]
  · have e6 := degs_dt P
    have lc : (P.map fun p => Dt.int p.1.sum).length + 1 < bigL := by
      rw [List.length_map]
      unfold bigL
      omega
    simp! [e6, max_ints (degs_ne P)]
    exact ⟨lc, q⟩
theorem few_eq {P : Tl} (hn : P.length ≤ 60) (h8 : P.all sm8 = true) (θ : Pot) (Q : Ret → Pot → Prop) : Gv (m_want_few [.dat (tp P)] θ) Q = Q (.d (tp P)) θ := by
  unfold m_want_few r_want_few
  have g1 : ¬ maxI (degs P) > 8 := by
    have := (degs_le P).mpr h8
    omega
  have g2 : ¬ (P.length : Int) > 60 := by omega
  have gl : ∀ (ρ : DEnv) (θ : Pot) (Q : Dt → Pot → Prop), Gv (opt (gLen [tp P]) ρ θ) Q = Q (.int (P.length : Int)) θ := fun ρ θ Q => by
    unfold tp
    rw [gv_lenT, List.length_map]
  have e : ∀ (s : String) (n m : Int) (θ : Pot) (Q : Ret → Pot → Prop), ¬ m > n → Gv (m_want_at_most [.dat (.str s), .dat (.int n), .dat (.int m)] θ) Q = Q (.d .non) θ := fun s n m θ Q h => by
    unfold m_want_at_most r_want_at_most
    simp! [h]
  simp! [degree_eq hn, gl, e "degree" _ _ _ _ g1, e "terms" _ _ _ _ g2]
theorem put_eq {P : Tl} {p : Tm} {b : Nat} (hp : p.1 ∉ ksP P) (hb : bz b p.2) (hk : b < 8000) (hn : P.length ≤ 60) (θ : Pot) : m_put_more (ksP P) (vsP P) [.dat (keyD p.1), .dat (dq p.2)] θ = .ok (ksP (P ++ [p]), vsP (P ++ [p])) θ := by
  have lb : (ksP P).length < bigL := by
    unfold ksP bigL
    rw [List.length_map]
    omega
  have gz : getP P p.1 = 0 := by
    unfold getP
    rw [look_none.mpr hp]
    rfl
  have e : r_put_more [some (.dic true (ksP P) (vsP P)), some (.dat (keyD p.1)), some (.dat (dq p.2))] θ = .ok (.next [some (.dic true (ksP (P ++ [p])) (vsP (P ++ [p]))), some (.dat (keyD p.1)), some (.dat (dq p.2))]) θ := by
    refine gv_eq ?_
    unfold r_put_more
    simp! [look0, gz]
    refine add_ok bz0 hb (by omega) ?_
    rw [Rat.zero_add]
    simp! [lb, dPut_P, putP_new hp]
  show (match r_put_more [some (.dic true (ksP P) (vsP P)), some (.dat (keyD p.1)), some (.dat (dq p.2))] θ with
    | .ok (.next ρ) θ' => _
    | _ => _) = _
  rw [e]
  rfl
theorem poly_of_ok {L : Int} {l : Nat} {P : Tl} {b : Nat} {θ : Pot} {Q : Ret → Pot → Prop} (eL : L = (l : Nat)) (h1 : 1 ≤ l) (hl : l ≤ 3) (n : Nice l P) (h8 : P.all sm8 = true) (hb : Bz b P) (hk : b < 8000) (q : Q (.d (tp P)) θ) : Gv (m_poly_of [.dat (.int L), .dat (.lst (P.map dTm))] θ) Q := by
  unfold m_poly_of r_poly_of
  have g1 : ¬ (P.length : Int) > 200 := by
    have := n.len
    omega
  have lb := lst_big dTm (show P.length ≤ 200 by have := n.len; omega)
  have gl : ∀ (ρ : DEnv) (θ : Pot) (Q : Dt → Pot → Prop), Gv (opt (gLen [.lst (P.map dTm)]) ρ θ) Q = Q (.int (P.length : Int)) θ := fun ρ θ Q => by rw [gv_lenL, List.length_map]
  simp! [letters_eq (show 1 ≤ L by omega) (show L ≤ 3 by omega), is_list_l, gl, g1, lb]
  refine cmap (f := fun _ => .bl true) P (fun p hp => ?_) ?_
  · have e8 : p.1.sum ≤ 8 := of_decide_eq_true (List.all_eq_true.mp h8 p hp)
    simp! [is_term_eq eL hl (n.wf.ok p hp), e8]
  · have e : ∀ (ρ : DEnv) (θ : Pot) (Q : Dt → Pot → Prop), Gv (opt (gAll [.lst (P.map fun _ => Dt.bl true)]) ρ θ) Q = Q (.bl true) θ := fun ρ θ Q => by
      rw [gv_allM (fun _ : Tm => true) P, all_true]
    simp! [e]
    refine for_map dTm (fun pre ρ θ' => ∃ a b : Option Dt, ρ = [some (.dat (.int L)), some (.dat (.lst (P.map dTm))), none, some (.dic false (ksP pre) (vsP pre)), oD a, oD b] ∧ θ' = θ) P ?_ ?_ _ _ ⟨none, none, rfl, rfl⟩
    · rintro ρ θ1 ⟨a, b, rfl, rfl⟩
      show Gv _ _
      have w := n.told
      simp! [dct_P]
      refine told_ok n.wf h1 (by have := n.len; omega) ?_
      rw [w]
      simp! [few_eq n.len h8]
      exact q
    · rintro pre p post ρ θ1 e ⟨a, b2, rfl, rfl⟩
      refine ⟨_, bT2 4 5 p _, ?_⟩
      have hn : p.1 ∉ ksP pre := fun z => by
        have nd := n.wf.nd
        rw [e] at nd
        unfold ksP at nd z
        rw [List.map_append, List.map_cons] at nd
        exact (List.nodup_append.mp nd).2.2 _ z _ List.mem_cons_self rfl
      have hl2 : pre.length ≤ 60 := by
        have := n.len
        rw [e, List.length_append] at this
        omega
      have hbp : bz b p.2 := hb p (by rw [e]; simp)
      have ee := put_eq hn hbp hk hl2 θ1
      simp! [cwK_e _ _ _ _ _ _ _ _ ee]
      exact ⟨_, rfl, some (keyD p.1), some (dq p.2), rfl⟩
end Tc


namespace Tc
open PySem PySem.Spec Pd
/-! ### the package's walk to a nested form -/
theorem heads_nn {l : Nat} {P : Tl} (w : WF (l + 1) P) {p : Tm} (hp : p ∈ P) : 0 ≤ hd1 p.1 := by
  obtain ⟨x, t, e, h0, h1, _⟩ := ok_cons (w.ok p hp)
  rw [e]
  exact h0
theorem max_heads {l : Nat} {P : Tl} (w : WF (l + 1) P) {ns : List Int} (h : ∀ x, x ∈ ns ↔ x = 0 ∨ ∃ p ∈ P, x = hd1 p.1) : maxI ns = (mxP P : Nat) := by
  have h0 : (0 : Int) ∈ ns := (h 0).mpr (Or.inl rfl)
  have ne : ns ≠ [] := fun e => by
    rw [e] at h0
    cases h0
  refine Int.le_antisymm (maxI_le ne fun x hx => ?_) ?_
  · rcases (h x).mp hx with e | ⟨p, hp, e⟩
    · omega
    · have := mxP_ge hp
      have := heads_nn w hp
      omega
  · have h1 : 0 ≤ maxI ns := maxI_ge h0
    have : mxP P ≤ (maxI ns).toNat := mxP_le fun p hp => by
      have := maxI_ge ((h (hd1 p.1)).mpr (Or.inr ⟨p, hp, rfl⟩))
      omega
    omega
theorem head_ix {l : Nat} {k : List Int} (h : okB (l + 1) k = true) (ρ : DEnv) (θ : Pot) (Q : Dt → Pot → Prop) : Gv (opt (gIx (keyD k) (.int 0)) ρ θ) Q = Q (.int (hd1 k)) θ := by
  obtain ⟨x, t, rfl, _⟩ := ok_cons h
  rw [show gIx (keyD (x :: t)) (.int 0) = some (.int x) from L2.atI_nat (j := 0) rfl]
  rfl
theorem tail_cut (k : List Int) : cutD (k.map Dt.int) (some 1) none = k.tail.map Dt.int := by
  rw [cut1]
  cases k <;> rfl
theorem slice_map (i : Int) (P : Tl) : (P.filter fun p => decide (hd1 p.1 = i)).map (fun p => dTm (p.1.tail, p.2)) = (slice i P).map dTm := by
  unfold Tc.slice
  rw [List.map_map]
  rfl
theorem nl0 (ρ : DEnv) (θ : Pot) (Q : Dt → Pot → Prop) : Gv (opt (gNe (.lst []) (.lst [])) ρ θ) Q = Q (.bl false) θ := rfl
theorem nl1 (n m : Int) (ρ : DEnv) (θ : Pot) (Q : Dt → Pot → Prop) : Gv (opt (gNe (.lst [.tup [.tup [], .tup [.int n, .int m]]]) (.lst [])) ρ θ) Q = Q (.bl true) θ := rfl
theorem nested_zero {recm : Mir} {P : Tl} {θ : Pot} {Q : Ret → Pot → Prop} (w : WF 0 P) (q : Q (.d (N 0 P)) θ) : Gv (Pd.mFn 8 (r_nested_from recm) [.dat (.lst (P.map dTm)), .dat (.int 0)] θ) Q := by
  unfold r_nested_from
  rcases wf0 w with e | ⟨r, e⟩
  · subst e
    simp! [List.map_nil, nl0]
    exact q
  · subst e
    have e2 : [(([], r) : Tm)].map dTm = [.tup [.tup [], .tup [.int r.num, .int (r.den : Nat)]]] := rfl
    rw [e2]
    simp! [nl1]
    exact q
theorem nested_succ {recm : Mir} {l : Nat} {L : Int} {P : Tl} {θ : Pot} {Q : Ret → Pot → Prop} (eL : L = (l : Nat) + 1) (hl : l ≤ 3) (w : WF (l + 1) P) (hn : P.length ≤ 60) (hm : mxP P ≤ 60)
    (H : ∀ (i : Nat) (θ : Pot) (Q : Ret → Pot → Prop), Q (.d (N l (slice (i : Nat) P))) θ → Gv (recm [.dat (.lst ((slice (i : Nat) P).map dTm)), .dat (.int (L - 1))] θ) Q)
    (q : Q (.d (N (l + 1) P)) θ) : Gv (Pd.mFn 8 (r_nested_from recm) [.dat (.lst (P.map dTm)), .dat (.int L)] θ) Q := by
  unfold r_nested_from
  have g0 : ¬ L = 0 := by omega
  have lb := lst_big dTm (show P.length ≤ 200 by omega)
  simp! [g0, lb]
  refine cmap (f := fun p => .int (hd1 p.1)) P (fun p hp => ?_) ?_
  · have e5 : bindT (.t [4, 5]) (dTm p) (wipeD (hide [some (.dat (.lst (P.map dTm))), some (.dat (.int L)), none, none, none, none, none, none]) [4, 5]) = some [some (.dat (.lst (P.map dTm))), some (.dat (.int L)), none, none, some (.dat (keyD p.1)), some (.dat (dq p.2)), none, none] := rfl
    rw [e5]
    simp! [head_ix (w.ok p hp)]
  · have e6 : (Dt.int 0 :: P.map fun p => Dt.int (hd1 p.1)) = (0 :: P.map fun p => hd1 p.1).map Dt.int := by
      rw [List.map_cons, List.map_map]
      rfl
    have e7 : maxI (0 :: P.map fun p => hd1 p.1) = (mxP P : Nat) := max_heads w fun x => by
      rw [List.mem_cons, List.mem_map]
      constructor
      · rintro (e | ⟨p, hp, e⟩)
        · exact Or.inl e
        · exact Or.inr ⟨p, hp, e.symm⟩
      · rintro (e | ⟨p, hp, e⟩)
        · exact Or.inl e
        · exact Or.inr ⟨p, hp, e.symm⟩
    have lc : 1 + (P.map fun p => Dt.int (hd1 p.1)).length < bigL := by
      rw [List.length_map]
      unfold bigL
      omega
    obtain ⟨M, eM⟩ : ∃ M : Int, M = (mxP P : Nat) := ⟨_, rfl⟩
    have b1 : bnd62 (M + 1) = true := bnd_of (by omega) (by omega)
    rw [← eM] at e7
    have gM : ∀ (ρ : DEnv) (θ : Pot) (Q : Dt → Pot → Prop), Gv (opt (gMax [.lst (Dt.int 0 :: P.map fun p => Dt.int (hd1 p.1))]) ρ θ) Q = Q (.int M) θ := fun ρ θ Q => by rw [e6, max_ints (List.cons_ne_nil _ _), e7]
    simp! [lc, gM, b1]
    rw [show (M + 1).toNat = mxP P + 1 by omega, rng0]
    refine for_rangeM (fun i : Nat => Dt.int (0 + i)) (mxP P + 1) (fun i ρ θ' => ∃ a b : Option Dt, ρ = [some (.dat (.lst (P.map dTm))), some (.dat (.int L)), some (.dat (.int M)), some (.own ((List.range i).map fun j => N l (slice (j : Nat) P))), none, none, oD a, oD b] ∧ θ' = θ) ?_ ?_ _ _ ⟨none, none, rfl, rfl⟩
    · rintro ρ θ1 ⟨a, b, rfl, rfl⟩
      simp! [true_and]
      exact q
    · rintro i ρ θ1 hi ⟨a, b, rfl, rfl⟩
      refine ⟨_, rfl, ?_⟩
      simp! [hide_oD, lb]
      refine cfil (f := fun p => dTm (p.1.tail, p.2)) (c := fun p => decide (hd1 p.1 = (i : Nat))) P (fun p hp => ?_) ?_
      · simp! [hide_oD, bT2, head_ix (w.ok p hp), Int.zero_add]
        intro _
        simp! [keyD, tail_cut, dTm]
      · simp! [slice_map, dct_P]
        refine H i _ _ ?_
        have lr : ((List.range i).map fun j => N l (slice (j : Nat) P)).length < bigL := by
          rw [List.length_map, List.length_range]
          unfold bigL
          omega
        simp! [lr]
        refine ⟨_, rfl, some (.int (0 + (i : Nat))), some (.lst ((slice (i : Nat) P).map dTm)), ?_⟩
        rw [List.range_succ, List.map_append]
        rfl
end Tc


namespace Tc
open PySem PySem.Spec Pd
/-! ### the law's walk to a nested form -/
theorem first_get {P : Tl} (w : WF 0 P) : getP P [] = first P := by
  rcases wf0 w with e | ⟨r, e⟩
  · subst e
    rfl
  · subst e
    rfl
theorem ks_keys (P : Tl) : (ksP P).map keyD = P.map fun p => keyD p.1 := by
  unfold ksP
  rw [List.map_map]
  rfl
theorem lnested_zero {recm : Mir} {P : Tl} {θ : Pot} {Q : Ret → Pot → Prop} (w : WF 0 P) (q : Q (.d (N 0 P)) θ) : Gv (Pd.mFn 7 (r__law_nested recm) [.dat (dD P), .dat (.int 0)] θ) Q := by
  unfold r__law_nested dD
  have e : (dGet (ksP P) (vsP P) []).getD (.tup [.int 0, .int 1]) = dq (first P) := by rw [look0, first_get w]
  have g : ∀ (z : Dt) (θ : Pot) (Q : Dt → Pot → Prop), getQ3 (ksP P) (vsP P) (.tup []) Q z θ = Q ((dGet (ksP P) (vsP P) []).getD z) θ := fun z θ Q => getQ3_k _ _ [] z
  simp! [g, e]
  exact q
theorem lnested_succ {recm : Mir} {l : Nat} {L : Int} {P : Tl} {θ : Pot} {Q : Ret → Pot → Prop} (eL : L = (l : Nat) + 1) (hl : l ≤ 3) (w : WF (l + 1) P) (hn : P.length ≤ 60) (hm : mxP P ≤ 60)
    (H : ∀ (i : Nat) (θ : Pot) (Q : Ret → Pot → Prop), Q (.d (N l (slice (i : Nat) P))) θ → Gv (recm [.dat (dD (slice (i : Nat) P)), .dat (.int (L - 1))] θ) Q)
    (q : Q (.d (N (l + 1) P)) θ) : Gv (Pd.mFn 7 (r__law_nested recm) [.dat (dD P), .dat (.int L)] θ) Q := by
  unfold r__law_nested dD
  have g0 : ¬ L = 0 := by omega
  have lb := lst_big (fun p : Tm => keyD p.1) (show P.length ≤ 200 by omega)
  simp! [g0, ks_keys, lb]
  refine cmap (f := fun p => .int (hd1 p.1)) P (fun p hp => ?_) ?_
  · simp! [head_ix (w.ok p hp)]
  · have e6 : (P.map fun p : Tm => Dt.int (hd1 p.1)) ++ [Dt.int 0] = ((P.map fun p : Tm => hd1 p.1) ++ [0]).map Dt.int := by
      rw [List.map_append, List.map_map]
      rfl
    have e7 : maxI ((P.map fun p : Tm => hd1 p.1) ++ [0]) = (mxP P : Nat) := max_heads w fun x => by
      rw [List.mem_append, List.mem_map, List.mem_singleton]
      constructor
      · rintro (⟨p, hp, e⟩ | e)
        · exact Or.inr ⟨p, hp, e.symm⟩
        · exact Or.inl e
      · rintro (e | ⟨p, hp, e⟩)
        · exact Or.inr e
        · exact Or.inl ⟨p, hp, e.symm⟩
    have lc : (P.map fun p => Dt.int (hd1 p.1)).length + 1 < bigL := by
      rw [List.length_map]
      unfold bigL
      omega
    obtain ⟨M, eM⟩ : ∃ M : Int, M = (mxP P : Nat) := ⟨_, rfl⟩
    have b1 : bnd62 (M + 1) = true := bnd_of (by omega) (by omega)
    rw [← eM] at e7
    have gM : ∀ (ρ : DEnv) (θ : Pot) (Q : Dt → Pot → Prop), Gv (opt (gMax [.lst ((P.map fun p : Tm => Dt.int (hd1 p.1)) ++ [Dt.int 0])]) ρ θ) Q = Q (.int M) θ := fun ρ θ Q => by
      rw [e6, max_ints (fun e => by have := (List.append_eq_nil_iff.mp e).2; cases this), e7]
    simp! [lc, gM, b1]
    rw [show (M + 1).toNat = mxP P + 1 by omega, rng0]
    refine for_rangeM (fun i : Nat => Dt.int (0 + i)) (mxP P + 1) (fun i ρ θ' => ∃ a b : Option Dt, ρ = [some (.dat (dD P)), some (.dat (.int L)), some (.dat (.int M)), some (.own ((List.range i).map fun j => N l (slice (j : Nat) P))), none, oD a, oD b] ∧ θ' = θ) ?_ ?_ _ _ ⟨none, none, rfl, rfl⟩
    · rintro ρ θ1 ⟨a, b, rfl, rfl⟩
      simp! [true_and]
      exact q
    · rintro i ρ θ1 hi ⟨a, b, rfl, rfl⟩
      refine ⟨_, rfl, ?_⟩
      unfold dD
      simp! [hide_oD, ks_keys, lb]
      refine cfil (f := fun p => dTm (p.1.tail, p.2)) (c := fun p => decide (hd1 p.1 = (i : Nat))) P (fun p hp => ?_) ?_
      · have g : ∀ (ρ : DEnv) (θ : Pot) (Q : Dt → Pot → Prop), Gv (opt (gIxQ (.dct (ksP P) (vsP P)) (keyD p.1)) ρ θ) Q = Q (dq p.2) θ := fun ρ θ Q => gv_ixQd _ _ _ _ (get_P w.nd hp)
        simp! [hide_oD, head_ix (w.ok p hp), Int.zero_add]
        intro _
        have e8 : ∀ (ρ : DEnv) (θ : Pot) (Q : Dt → Pot → Prop), Gv (opt (gSl (keyD p.1) (some 1) none) ρ θ) Q = Q (keyD p.1.tail) θ := fun ρ θ Q => by
          unfold keyD
          rw [gSl_t, tail_cut]
        simp! [g, e8, dTm]
      · have e2 := dict_T (slice (i : Nat) P) (w.slice (i : Nat)).nd
        simp! [slice_map, e2, dct_P]
        refine H i _ _ ?_
        have lr : ((List.range i).map fun j => N l (slice (j : Nat) P)).length < bigL := by
          rw [List.length_map, List.length_range]
          unfold bigL
          omega
        simp! [lr]
        refine ⟨_, rfl, some (.int (0 + (i : Nat))), some (dD (slice (i : Nat) P)), ?_⟩
        rw [List.range_succ, List.map_append]
        rfl
/-! ### both -/
theorem slice_len (i : Int) (P : Tl) : (slice i P).length ≤ P.length := by
  unfold Tc.slice
  rw [List.length_map]
  exact List.length_filter_le _ _
theorem nested_ok : ∀ (l : Nat) (f : Nat) (L : Int) (P : Tl) (θ : Pot) (Q : Ret → Pot → Prop), l < f → L = (l : Nat) → l ≤ 3 → WF l P → Sm 60 P → P.length ≤ 60 → Q (.d (N l P)) θ → Gv (m_nested_from f [.dat (.lst (P.map dTm)), .dat (.int L)] θ) Q
  | 0, f + 1, L, P, θ, Q, _, eL, _, w, _, _, q => by
    subst eL
    exact nested_zero w q
  | l + 1, f + 1, L, P, θ, Q, hf, eL, hl, w, s, hn, q => by
    refine nested_succ (recm := m_nested_from f) (l := l) (by omega) (by omega) w hn (s.mx w) (fun i θ Q q => ?_) q
    exact nested_ok l f (L - 1) _ θ Q (by omega) (by omega) (by omega) (w.slice _) s.slice (Nat.le_trans (slice_len _ _) hn) q
theorem lnested_ok : ∀ (l : Nat) (f : Nat) (L : Int) (P : Tl) (θ : Pot) (Q : Ret → Pot → Prop), l < f → L = (l : Nat) → l ≤ 3 → WF l P → Sm 60 P → P.length ≤ 60 → Q (.d (N l P)) θ → Gv (m__law_nested f [.dat (dD P), .dat (.int L)] θ) Q
  | 0, f + 1, L, P, θ, Q, _, eL, _, w, _, _, q => by
    subst eL
    exact lnested_zero w q
  | l + 1, f + 1, L, P, θ, Q, hf, eL, hl, w, s, hn, q => by
    refine lnested_succ (recm := m__law_nested f) (l := l) (by omega) (by omega) w hn (s.mx w) (fun i θ Q q => ?_) q
    exact lnested_ok l f (L - 1) _ θ Q (by omega) (by omega) (by omega) (w.slice _) s.slice (Nat.le_trans (slice_len _ _) hn) q
end Tc


namespace Tc
open PySem PySem.Spec Pd
/-! ### any plain value -/
mutual
def Pl : Dt → Prop
  | .int i => bi 64 i
  | .str s => PyData.strOk s = true ∧ (reprText s).length ≤ 100
  | .lst l => Pls l
  | .tup l => Pls l
  | .raw _ => False
  | .cls _ _ => False
  | .dct _ _ => False
  | _ => True
def Pls : List Dt → Prop
  | [] => True
  | d :: ds => Pl d ∧ Pls ds
end
mutual
def siz : Dt → Nat
  | .lst l => sizs l + 1
  | .tup l => sizs l + 1
  | _ => 1
def sizs : List Dt → Nat
  | [] => 0
  | d :: ds => siz d + sizs ds
end
theorem siz_pos (d : Dt) : 1 ≤ siz d := by
  cases d <;> simp only [siz] <;> omega
theorem len_siz : ∀ l : List Dt, l.length ≤ sizs l
  | [] => Nat.zero_le _
  | d :: ds => by
    have := len_siz ds
    have := siz_pos d
    simp only [sizs, List.length_cons]
    omega
theorem Pls_mem : ∀ {l : List Dt}, Pls l → ∀ d ∈ l, Pl d
  | d :: ds, h, x, hx => by
    simp only [Pls] at h
    rcases List.mem_cons.mp hx with e | e
    · rw [e]; exact h.1
    · exact Pls_mem h.2 x e
theorem Pls_of : ∀ {l : List Dt}, (∀ d ∈ l, Pl d) → Pls l
  | [], _ => by simp only [Pls]
  | d :: ds, h => by
    simp only [Pls]
    exact ⟨h d List.mem_cons_self, Pls_of fun x hx => h x (List.mem_cons_of_mem _ hx)⟩
theorem siz_mem : ∀ {l : List Dt} {d : Dt}, d ∈ l → siz d ≤ sizs l
  | d :: ds, x, hx => by
    simp only [sizs]
    rcases List.mem_cons.mp hx with e | e
    · rw [e]; omega
    · have := siz_mem e; omega
theorem dep_mem : ∀ {l : List Dt} {d : Dt}, d ∈ l → depD d ≤ deps l
  | d :: ds, x, hx => by
    simp only [deps]
    rcases List.mem_cons.mp hx with e | e
    · rw [e]; omega
    · have := dep_mem e; omega
theorem dep_le : ∀ {l : List Dt} {n : Nat}, (∀ d ∈ l, depD d ≤ n) → deps l ≤ n
  | [], _, _ => by simp only [deps]; omega
  | d :: ds, n, h => by
    simp only [deps]
    have := h d List.mem_cons_self
    have := dep_le (l := ds) (n := n) fun x hx => h x (List.mem_cons_of_mem _ hx)
    omega
theorem sizs_app : ∀ (a b : List Dt), sizs (a ++ b) = sizs a + sizs b
  | [], b => by simp only [List.nil_append, sizs]; omega
  | d :: a, b => by
    simp only [List.cons_append, sizs, sizs_app a b]
    omega
theorem sizs_td (l : List Dt) (n : Nat) : sizs (l.take n) + sizs (l.drop n) = sizs l := by
  rw [← sizs_app, List.take_append_drop]
theorem bi_log {k : Nat} {i : Int} (h : bi k i) (l : k < 1920) : i.natAbs.log2 < 1920 := by
  by_cases z : i.natAbs = 0
  · rw [z]
    decide
  · have h : i.natAbs ≤ 2 ^ k := h
    have : i.natAbs < 2 ^ (k + 1) := Nat.lt_of_le_of_lt h (Nat.pow_lt_pow_right (by decide) (by omega))
    have := (Nat.log2_lt z).mpr this
    omega
mutual
theorem Pl_ok : ∀ {d : Dt}, Pl d → okD d
  | .non, _ => by simp only [okD]
  | .bl _, _ => by simp only [okD]
  | .int i, h => by
    simp only [Pl] at h
    simp only [okD]
    exact bi_log h (by omega)
  | .str s, h => by
    simp only [Pl] at h
    simp only [okD]
    exact h.1
  | .lst l, h => by
    simp only [Pl] at h
    simp only [okD]
    exact Pls_ok h
  | .tup l, h => by
    simp only [Pl] at h
    simp only [okD]
    exact Pls_ok h
  | .raw _, h => by simp only [Pl] at h
theorem Pls_ok : ∀ {l : List Dt}, Pls l → oks l
  | [], _ => by simp only [oks]
  | d :: ds, h => by
    simp only [Pls] at h
    simp only [oks]
    exact ⟨Pl_ok h.1, Pls_ok h.2⟩
end
def okI : Dt → Bool
  | .int _ => true
  | _ => false
def okT : Dt → Bool
  | .tup _ => true
  | _ => false
theorem gv_isiT {d : Dt} (h : Pl d) (ρ : DEnv) (θ : Pot) (Q : Dt → Pot → Prop) : Gv (opt ((isiF "tuple") d) ρ θ) Q = Q (.bl (okT d)) θ := by
  cases d with
  | raw v => simp only [Pl] at h
  | cls k ds => simp only [Pl] at h
  | dct ks vs => simp only [Pl] at h
  | _ => rfl
def ratB : Dt → Bool
  | .tup [.int n, .int u] => decide (1 ≤ u) && decide (Int.gcd n u = 1)
  | _ => false
theorem ratB_len (l : List Dt) (h : l.length ≠ 2) : ratB (.tup l) = false := by
  match l, h with
  | [], _ => rfl
  | [a], _ => cases a <;> rfl
  | [a, b], h => exact absurd rfl h
  | a :: b :: c :: l, _ => cases a <;> cases b <;> rfl
theorem len2_ne {n : Nat} (h : n ≠ 2) : ¬ ((n : Nat) : Int) = 2 := by omega
theorem is_ratio_any {θ : Pot} {d : Dt} {Q : Ret → Pot → Prop} (h : Pl d) (q : Q (.d (.bl (ratB d))) θ) : Gv (m_is_ratio [.dat d] θ) Q := by
  unfold m_is_ratio r_is_ratio
  have nt : okT d = false → ratB d = false := fun e => by
    cases d <;> first | rfl | cases e
  cases d with
  | tup l =>
    by_cases hl : l.length = 2
    · match l, hl, h with
      | [a, b], _, h =>
        simp only [Pl, Pls] at h
        cases a with
        | int n =>
          cases b with
          | int u =>
            have e : ratB (.tup [.int n, .int u]) = (decide (1 ≤ u) && decide (Int.gcd n u = 1)) := rfl
            rw [e] at q
            have ge : decide (((Int.gcd n u : Nat) : Int) = 1) = decide (Int.gcd n u = 1) := by
              by_cases c : Int.gcd n u = 1
              · simp [c]
              · have : ¬ ((Int.gcd n u : Nat) : Int) = 1 := by omega
                rw [decide_eq_false this, decide_eq_false c]
            simp! [is_integer_eq, gv_gcd2]
            refine ⟨fun c => ?_, fun c => ?_⟩
            · rw [ge]
              simpa [c] using q
            · simpa [c] using q
          | raw v => simp only [Pl] at h; exact h.2.1.elim
          | cls k ds => simp only [Pl] at h; exact h.2.1.elim
          | dct ks vs => simp only [Pl] at h; exact h.2.1.elim
          | _ => exact q
        | raw v => simp only [Pl] at h; exact h.1.elim
        | cls k ds => simp only [Pl] at h; exact h.1.elim
        | dct ks vs => simp only [Pl] at h; exact h.1.elim
        | _ => exact q
    · have hz := len2_ne hl
      have gt := gv_isiT h
      rw [ratB_len l hl] at q
      simp! [gt, okT, gv_lenT, hz]
      exact q
  | raw v => simp only [Pl] at h
  | cls k ds => simp only [Pl] at h
  | dct ks vs => simp only [Pl] at h
  | _ => exact q
/-! ### == of plain values -/
theorem Pl_p {d : Dt} (h : Pl d) (hd : depD d ≤ 60) : ∃ p, toP d = some p ∧ SeqAt.shaped p = true ∧ p.canLay0 = true := by
  obtain ⟨p, e, k1, k2, k3, k4, k5⟩ := okD_p (Pl_ok h)
  refine ⟨p, e, ?_, k3⟩
  show (p.canLay0 && decide (p.depth ≤ 64)) = true
  rw [k3, decide_eq_true (by omega)]
  rfl
theorem deq_pl {a b : Dt} (ha : Pl a) (hb : Pl b) (da : depD a ≤ 60) (db : depD b ≤ 60) : ∃ v, deq a b = some v := by
  obtain ⟨p, e1, s1, _⟩ := Pl_p ha da
  obtain ⟨q, e2, s2, _⟩ := Pl_p hb db
  unfold deq
  rw [e1, e2]
  refine ⟨p.eqv q, ?_⟩
  show (if (SeqAt.shaped p && SeqAt.shaped q) = true then some (PyData.eqv p q) else none) = _
  rw [s1, s2]
  rfl
theorem deq_refl {a : Dt} (ha : Pl a) (da : depD a ≤ 60) : deq a a = some true := by
  obtain ⟨p, e1, s1, c⟩ := Pl_p ha da
  unfold deq
  rw [e1]
  show (if (SeqAt.shaped p && SeqAt.shaped p) = true then some (PyData.eqv p p) else none) = some true
  rw [s1, SeqAt.eqv_refl _ c]
  rfl
theorem eqT {l : List Dt} {b : Dt} {v : Bool} (h : deq (.tup l) b = some v) (ρ : DEnv) (θ : Pot) (Q : Dt → Pot → Prop) : Gv (opt (gEq (.tup l) b) ρ θ) Q = Q (.bl v) θ := by
  have e : gEq (.tup l) b = some (.bl v) := by
    unfold gEq
    rw [h]
    rfl
  rw [e]
  rfl
theorem neT {l : List Dt} {b : Dt} {v : Bool} (h : deq (.tup l) b = some v) (ρ : DEnv) (θ : Pot) (Q : Dt → Pot → Prop) : Gv (opt (gNe (.tup l) b) ρ θ) Q = Q (.bl (!v)) θ := by
  have e : gNe (.tup l) b = some (.bl (!v)) := by
    unfold gNe
    rw [h]
    rfl
  rw [e]
  rfl
theorem deq_nil {l : List Dt} (h : Pl (.tup l)) (hd : depD (.tup l) ≤ 60) : deq (.tup l) (.tup []) = some (decide (l = [])) := by
  match l, h, hd with
  | [], _, _ => rfl
  | x :: xs, h, hd =>
    obtain ⟨p, e, s, _⟩ := Pl_p h hd
    have e' : (toPs (x :: xs)).map PyData.tuple = some p := e
    obtain ⟨ps, e1, rfl⟩ := Option.map_eq_some_iff.mp e'
    obtain ⟨a, b, rfl⟩ : ∃ a b, ps = a :: b := by
      unfold toPs at e1
      split at e1
      · cases e1
        exact ⟨_, _, rfl⟩
      · cases e1
    unfold deq
    rw [e]
    show (if (SeqAt.shaped (.tuple (a :: b)) && SeqAt.shaped (.tuple [])) = true then some (PyData.eqv (.tuple (a :: b)) (.tuple [])) else none) = _
    rw [s, decide_eq_false (List.cons_ne_nil x xs)]
    rfl
theorem Pl_dq {q : Rat} (h : bz 64 q) : Pl (dq q) := by
  unfold dq
  simp only [Pl, Pls, and_true]
  exact ⟨h.1, h.2⟩
theorem dep_dq (q : Rat) : depD (dq q) ≤ 1 := by
  unfold dq
  simp only [depD, deps]
  omega
theorem Pl_map {α : Type} {f : α → Dt} {l : List α} (h : ∀ a ∈ l, Pl (f a)) : Pls (l.map f) := Pls_of fun d hd => by
  obtain ⟨a, ha, rfl⟩ := List.mem_map.mp hd
  exact h a ha
theorem dep_map {α : Type} {f : α → Dt} {l : List α} {n : Nat} (h : ∀ a ∈ l, depD (f a) ≤ n) : deps (l.map f) ≤ n := dep_le fun d hd => by
  obtain ⟨a, ha, rfl⟩ := List.mem_map.mp hd
  exact h a ha
theorem Pl_N : ∀ (l : Nat) {P : Tl}, Bz 64 P → Pl (N l P)
  | 0, P, h => Pl_dq (bz_first h)
  | l + 1, P, h => by
    show Pl (.tup _)
    simp only [Pl]
    exact Pl_map fun i _ => Pl_N l (h.slice _)
theorem dep_N : ∀ (l : Nat) (P : Tl), depD (N l P) ≤ l + 1
  | 0, P => dep_dq _
  | l + 1, P => by
    show depD (.tup _) ≤ _
    simp only [depD]
    have := dep_map (f := fun i : Nat => N l (slice (i : Nat) P)) (l := List.range (mxP P + 1)) fun i _ => dep_N l _
    omega
end Tc


namespace Tc
open PySem PySem.Spec Pd
/-! ### has_form, terms_from -/
theorem fm_ratB (d : Dt) : fm 0 d = ratB d := by
  match d with
  | .tup [.int n, .int u] => rfl
  | .tup [] => rfl
  | .tup [a] => cases a <;> rfl
  | .tup (a :: b :: c :: l) => cases a <;> cases b <;> rfl
  | .tup [.non, b] => cases b <;> rfl
  | .tup [.bl _, b] => cases b <;> rfl
  | .tup [.str _, b] => cases b <;> rfl
  | .tup [.lst _, b] => cases b <;> rfl
  | .tup [.tup _, b] => cases b <;> rfl
  | .tup [.raw _, b] => cases b <;> rfl
  | .tup [.cls _ _, b] => cases b <;> rfl
  | .tup [.dct _ _, b] => cases b <;> rfl
  | .tup [.int n, .non] => rfl
  | .tup [.int n, .bl _] => rfl
  | .tup [.int n, .str _] => rfl
  | .tup [.int n, .lst _] => rfl
  | .tup [.int n, .tup _] => rfl
  | .tup [.int n, .raw _] => rfl
  | .tup [.int n, .cls _ _] => rfl
  | .tup [.int n, .dct _ _] => rfl
  | .non => rfl
  | .bl _ => rfl
  | .int _ => rfl
  | .str _ => rfl
  | .lst _ => rfl
  | .raw _ => rfl
  | .cls _ _ => rfl
  | .dct _ _ => rfl
theorem fm_not {l : Nat} {d : Dt} (h : okT d = false) : fm l d = false := by
  cases l with
  | zero =>
    rw [fm_ratB]
    cases d <;> first | rfl | cases h
  | succ l => cases d <;> first | rfl | cases h
theorem dec_1 (n : Nat) : decide ((1 : Int) ≤ (n : Nat)) = decide (1 ≤ n) := decide_eq_decide.mpr (by omega)
theorem dec_9 (n : Nat) : decide (((n : Nat) : Int) ≤ 9) = decide (n ≤ 9) := decide_eq_decide.mpr (by omega)
theorem form_ok : ∀ (l f : Nat) (L : Int) (b : Dt) (θ : Pot) (Q : Ret → Pot → Prop), l < f → L = (l : Nat) → Pl b → siz b ≤ 8000 → Q (.d (.bl (fm l b))) θ → Gv (m_has_form f [.dat b, .dat (.int L)] θ) Q
  | 0, f + 1, L, b, θ, Q, _, eL, pb, _, q => by
    obtain rfl : L = 0 := eL
    show Gv (Pd.mFn 3 (r_has_form (m_has_form f)) _ θ) Q
    unfold r_has_form
    rw [fm_ratB] at q
    simp! [true_and]
    refine is_ratio_any pb ?_
    simp! [true_and]
    exact q
  | l + 1, f + 1, L, b, θ, Q, hf, eL, pb, hs, q => by
    show Gv (Pd.mFn 3 (r_has_form (m_has_form f)) _ θ) Q
    have ih := form_ok l f (L - 1)
    generalize m_has_form f = recm at ih ⊢
    unfold r_has_form
    have g0 : ¬ L = 0 := by omega
    have gt := gv_isiT pb
    cases ob : okT b with
    | false =>
      rw [fm_not ob] at q
      simp! [g0, gt, ob]
      exact q
    | true =>
      cases b with
      | tup ds =>
        have gl : ∀ (ρ : DEnv) (θ : Pot) (Q : Dt → Pot → Prop), Gv (opt (gLen [.tup ds]) ρ θ) Q = Q (.int (ds.length : Nat)) θ := fun ρ θ Q => gv_lenT ds
        have lb : ds.length < bigL := by
          have := len_siz ds
          simp only [siz] at hs
          unfold bigL
          omega
        have pd : ∀ d ∈ ds, Pl d := by
          simp only [Pl] at pb
          exact Pls_mem pb
        have sd : ∀ d ∈ ds, siz d ≤ 8000 := fun d hd => by
          have := siz_mem hd
          simp only [siz] at hs
          omega
        have ef : fm (l + 1) (.tup ds) = (!ds.isEmpty && (decide (ds.length ≤ 9) && ds.all (fm l))) := rfl
        rw [ef] at q
        simp! [g0, gt, ob, gl, dec_1, dec_9, lb]
        refine ⟨fun h1 => ⟨fun h9 => ?_, fun h9 => ?_⟩, fun h1 => ?_⟩
        · refine cmapD (f := fun d => .bl (fm l d)) ds (fun d hd => ?_) ?_
          · simp! [true_and]
            refine ih d _ _ (by omega) (by omega) (pd d hd) (sd d hd) ?_
            simp! [true_and]
          · have e : ∀ (ρ : DEnv) (θ : Pot) (Q : Dt → Pot → Prop), Gv (opt (gAll [.lst (ds.map fun d => Dt.bl (fm l d))]) ρ θ) Q = Q (.bl (ds.all (fm l))) θ := fun ρ θ Q => gv_allM (fm l) ds
            simp! [e]
            have z : ds.isEmpty = false := by
              cases ds with
              | nil => exact absurd h1 (by decide)
              | cons a b => rfl
            rw [z, decide_eq_true h9] at q
            exact q
        · rw [decide_eq_false h9, Bool.false_and, Bool.and_false] at q
          exact q
        · have z : ds = [] := List.eq_nil_of_length_eq_zero (by omega)
          subst z
          exact q
      | _ => cases ob
/-! the terms -/
def TZ (f : Dt → Tl) (ps : List (Dt × Nat)) : Tl := ps.flatMap fun x => (f x.1).map fun p => ((x.2 : Nat) :: p.1, p.2)
theorem TZ_snoc (f : Dt → Tl) (ps : List (Dt × Nat)) (x : Dt × Nat) : TZ f (ps ++ [x]) = TZ f ps ++ (f x.1).map fun p => (((x.2 : Nat) : Int) :: p.1, p.2) := by
  unfold TZ
  rw [List.flatMap_append, List.flatMap_singleton]
theorem TZ_r (f : Dt → Tl) : ∀ (ds : List Dt) (k : Nat), TZ f (ds.zipIdx k) = TFr f (k : Nat) ds
  | [], k => rfl
  | d :: ds, k => by
    rw [List.zipIdx_cons]
    show (f d).map _ ++ TZ f (ds.zipIdx (k + 1)) = (f d).map _ ++ TFr f _ ds
    rw [TZ_r f ds (k + 1)]
    rfl
theorem TZ_all (l : Nat) (ds : List Dt) : TZ (TF l) ds.zipIdx = TF (l + 1) (.tup ds) := TZ_r (TF l) ds 0
theorem TF_siz : ∀ (l : Nat) {b : Dt}, fm l b = true → 3 * (TF l b).length ≤ siz b
  | 0, b, h => by
    obtain ⟨q, e, _⟩ := fm_zero h
    rw [e]
    show 3 * 1 ≤ siz (dq q)
    unfold dq
    simp only [siz, sizs]
    omega
  | l + 1, b, h => by
    obtain ⟨ds, rfl, _, _, hd⟩ := fm_succ h
    show 3 * (TFr (TF l) 0 ds).length ≤ siz (.tup ds)
    have : ∀ (ds : List Dt) (i : Int), (∀ x ∈ ds, fm l x = true) → 3 * (TFr (TF l) i ds).length ≤ sizs ds := fun ds => by
      induction ds with
      | nil => exact fun i _ => Nat.zero_le _
      | cons d ds ih =>
        intro i h
        show 3 * ((TF l d).map _ ++ TFr (TF l) (i + 1) ds).length ≤ sizs (d :: ds)
        rw [List.length_append, List.length_map]
        have := ih (i + 1) fun x hx => h x (List.mem_cons_of_mem _ hx)
        have := TF_siz l (h d List.mem_cons_self)
        simp only [sizs]
        omega
    have := this ds 0 hd
    simp only [siz]
    omega
theorem cat_key {i : Int} {k : List Int} (h : k.length ≤ 3) (ρ : DEnv) (θ : Pot) (Q : Dt → Pot → Prop) : Gv (opt (gAdd3 (.tup [.int i]) (keyD k)) ρ θ) Q = Q (keyD (i :: k)) θ := by
  have e : [Dt.int i].length + (k.map Dt.int).length < bigL := by
    rw [List.length_map]
    show 1 + k.length < 1000000
    omega
  unfold keyD
  rw [add3_t]
  exact propext ⟨fun h => h.2, fun h => ⟨e, h⟩⟩
theorem bTe (i j : Nat) (x : Dt × Nat) (ρ : DEnv) : bindT (.t [i, j]) (.tup [.int (x.2 : Nat), x.1]) ρ = some ((ρ.set i (some (.dat (.int (x.2 : Nat))))).set j (some (.dat x.1))) := rfl
theorem terms_ok : ∀ (l f : Nat) (L : Int) (b : Dt) (θ : Pot) (Q : Ret → Pot → Prop), l < f → L = (l : Nat) → l ≤ 3 → fm l b = true → siz b ≤ 8000 → Q (.o ((TF l b).map dTm)) θ → Gv (m_terms_from f [.dat b, .dat (.int L)] θ) Q
  | 0, f + 1, L, b, θ, Q, _, eL, _, hf, _, q => by
    obtain rfl : L = 0 := eL
    show Gv (Pd.mFn 7 (r_terms_from (m_terms_from f)) _ θ) Q
    unfold r_terms_from
    obtain ⟨r, e, er⟩ := fm_zero hf
    have eq : (TF 0 b).map dTm = [.tup [.tup [], b]] := by
      show [dTm ([], rqD b)] = _
      rw [er]
      unfold dTm
      rw [e]
      rfl
    rw [eq] at q
    simp! [true_and]
    exact q
  | l + 1, f + 1, L, b, θ, Q, hf, eL, hl, hm, hs, q => by
    show Gv (Pd.mFn 7 (r_terms_from (m_terms_from f)) _ θ) Q
    have ih := terms_ok l f (L - 1)
    generalize m_terms_from f = recm at ih ⊢
    unfold r_terms_from
    have g0 : ¬ L = 0 := by omega
    have ts := TF_siz (l + 1) hm
    obtain ⟨ds, rfl, _, l9, hd⟩ := fm_succ hm
    simp! [g0]
    unfold Pd.numbered
    refine for_map (fun p : Dt × Nat => .tup [.int (p.2 : Nat), p.1]) (fun pre ρ θ' => ∃ a c : Option Dt, ρ = [some (.dat (.tup ds)), some (.dat (.int L)), some (.own ((TZ (TF l) pre).map dTm)), oD a, oD c, none, none] ∧ θ' = θ) ds.zipIdx ?_ ?_ _ _ ⟨none, none, rfl, rfl⟩
    · rintro ρ θ1 ⟨a, c, rfl, rfl⟩
      rw [TZ_all]
      simp! [true_and]
      exact q
    · rintro pre x post ρ θ1 e ⟨a, c, rfl, rfl⟩
      refine ⟨_, bTe 3 4 x _, ?_⟩
      have hx : x.1 ∈ ds := by
        have : x ∈ ds.zipIdx := by
          rw [e]
          simp
        obtain ⟨_, h⟩ := List.mem_zipIdx' this
        rw [h]
        exact List.getElem_mem _
      have sx : siz x.1 ≤ 8000 := by
        have := siz_mem hx
        simp only [siz] at hs
        omega
      have tx := TF_siz l (hd _ hx)
      have hp : (TZ (TF l) pre).length + (TF l x.1).length ≤ 8000 := by
        have e2 := TZ_all l ds
        rw [e] at e2
        have e3 : TZ (TF l) (pre ++ x :: post) = TZ (TF l) (pre ++ [x]) ++ TZ (TF l) post := by
          unfold TZ
          rw [← List.flatMap_append, List.append_assoc]
          rfl
        rw [e3, TZ_snoc] at e2
        have := congrArg List.length e2
        rw [List.length_append, List.length_append, List.length_map] at this
        omega
      have lb : ((TF l x.1).map dTm).length < bigL := by
        rw [List.length_map]
        unfold bigL
        omega
      simp! [hide_oD]
      refine ih x.1 _ _ (by omega) (by omega) (by omega) (hd _ hx) sx ?_
      simp! [lb]
      refine cmap (f := fun p : Tm => dTm (((x.2 : Nat) : Int) :: p.1, p.2)) (TF l x.1) (fun p hp => ?_) ?_
      · have lk := (okB_iff.mp ((TF_wf (hd _ hx)).ok p hp)).1
        simp! [hide_oD, bT2, cat_key (show p.1.length ≤ 3 by omega), dTm]
      · have lc : ((TZ (TF l) pre).map dTm).length + ((TF l x.1).map fun p : Tm => dTm (((x.2 : Nat) : Int) :: p.1, p.2)).length < bigL := by
          rw [List.length_map, List.length_map]
          unfold bigL
          omega
        simp! [lc]
        refine ⟨_, rfl, some (.int (x.2 : Nat)), some x.1, ?_⟩
        rw [TZ_snoc, List.map_append, List.map_map]
        rfl
end Tc


namespace Tc
open PySem PySem.Spec Pd
/-! ### the law's look at a nested form -/
theorem for_mapR {α : Type} {T : Tgt} {body : Pd.M Out} {Q : Out → Pot → Prop} (g : α → Dt) (I : List α → DEnv → Pot → Prop) (ts : List α) (h0 : ∀ ρ θ, I ts ρ θ → Q (.next ρ) θ)
    (h1 : ∀ pre a post ρ θ, ts = pre ++ a :: post → I pre ρ θ → ∃ ρ1, bindT T (g a) ρ = some ρ1 ∧ Gv (body ρ1 θ) fun o θ2 => (∃ ρ2, o = .next ρ2 ∧ I (pre ++ [a]) ρ2 θ2) ∨ ∃ r, o = .ret r ∧ Q (.ret r) θ2) (ρ : DEnv) (θ : Pot) (h : I [] ρ θ) : Gv (forGo T body (ts.map g) ρ θ) Q := by
  refine gv_for_inv (fun l ρ θ => ∃ pre post, ts = pre ++ post ∧ l = post.map g ∧ I pre ρ θ) ?_ ?_ _ _ _ ⟨[], ts, rfl, rfl, h⟩
  · rintro ρ θ ⟨pre, post, e, l, hi⟩
    have : post = [] := List.map_eq_nil_iff.mp l.symm
    subst this
    rw [List.append_nil] at e
    subst e
    exact h0 _ _ hi
  · rintro d ds ρ θ ⟨pre, post, e, l, hi⟩
    cases post with
    | nil => cases l
    | cons a post =>
      rw [List.map_cons] at l
      obtain ⟨rfl, rfl⟩ := List.cons.inj l
      obtain ⟨ρ1, e1, q⟩ := h1 pre a post ρ θ e hi
      refine ⟨ρ1, e1, q.imp ?_⟩
      rintro o θ2 (⟨ρ2, rfl, q2⟩ | ⟨r, rfl, q2⟩)
      · exact ⟨pre ++ [a], post, by rw [e, List.append_assoc]; rfl, rfl, q2⟩
      · exact q2
def toD (l : Nat) (b : Dt) : Dt := if fm l b = true then dD ((TF l b).filter nz) else .non
theorem toD_t {l : Nat} {b : Dt} (h : fm l b = true) : toD l b = dD ((TF l b).filter nz) := if_pos h
theorem toD_f {l : Nat} {b : Dt} (h : fm l b = false) : toD l b = .non := if_neg (by rw [h]; decide)
theorem low_red {n u : Int} (hu : 0 < u) (h : dq ((n : Rat) / (u : Rat)) = .tup [.int n, .int u]) : Int.gcd n u = 1 := by
  have h1 : ((n : Rat) / (u : Rat)).num = n := by
    have := h
    unfold dq at this
    injection this with this
    injection this with e1 _
    injection e1
  have h2 : (((n : Rat) / (u : Rat)).den : Int) = u := by
    have := h
    unfold dq at this
    injection this with this
    injection this with _ this
    injection this with e1 _
    injection e1
  have h3 : Int.gcd ((n : Rat) / (u : Rat)).num (((n : Rat) / (u : Rat)).den : Nat) = 1 := ((n : Rat) / (u : Rat)).reduced
  rw [h1, h2] at h3
  exact h3
theorem red_low {n u : Int} (hu : 0 < u) (h : Int.gcd n u = 1) : dq ((n : Rat) / (u : Rat)) = .tup [.int n, .int u] := by
  rw [made_pos hu, h]
  have e : ∀ x : Int, x.fdiv ((1 : Nat) : Int) = x := fun x => by
    rw [Int.fdiv_eq_ediv_of_nonneg _ (by omega)]
    omega
  rw [e, e]
theorem ne_ii (a b c d : Int) (ρ : DEnv) (θ : Pot) (Q : Dt → Pot → Prop) : Gv (opt (gNe (.tup [.int a, .int b]) (.tup [.int c, .int d])) ρ θ) Q = Q (.bl (!(decide (a = c) && (decide (b = d) && true)))) θ := rfl
def dsK2 (k : Dt) (Q : KD → Pot → Prop) : Dt → Pot → Prop := fun d θ => match keyOf k with
  | some j => Q ([j], [d]) θ
  | none => False
theorem gv_disp {mk mv : M Dt} {ρ : DEnv} {θ : Pot} {Q : KD → Pot → Prop} {d : Dt} (hk : mk ρ θ = .ok (.tup []) θ) (hv : mv ρ θ = .ok d θ) : Gv (mDisp1 mk mv ρ θ) Q = Q ([[]], [d]) θ := by
  unfold mDisp1
  rw [hk]
  show Gv (match mv ρ θ with
    | .ok d θ2 => _
    | _ => .bad) Q = _
  rw [hv]
  rfl
theorem lterms_zero {recm : Mir} {b : Dt} {θ : Pot} {Q : Ret → Pot → Prop} (pb : Pl b) (q : Q (.d (toD 0 b)) θ) : Gv (Pd.mFn 9 (r__law_terms_of recm) [.dat b, .dat (.int 0)] θ) Q := by
  unfold r__law_terms_of
  have gt := gv_isiT pb
  cases b with
  | tup l =>
    by_cases hl : l.length = 2
    · match l, hl, pb, q with
      | [a, c], _, pb, q =>
        simp only [Pl, Pls] at pb
        cases a with
        | int n =>
          cases c with
          | int u =>
            by_cases h1 : u < 1
            · rw [toD_f (show fm 0 (.tup [.int n, .int u]) = false by
                show (decide (1 ≤ u) && _) = false
                rw [decide_eq_false (by omega), Bool.false_and])] at q
              simp! [h1]
              exact q
            · have bn : bi 64 n := pb.1
              have bu : bi 64 u := pb.2.1
              simp! [h1]
              refine low_ok (by omega) bn bu (by omega) (by omega) ?_
              by_cases hg : Int.gcd n u = 1
              · have er := red_low (by omega) hg
                rw [er]
                rw [toD_t (show fm 0 (.tup [.int n, .int u]) = true by
                  show (decide (1 ≤ u) && decide (Int.gcd n u = 1)) = true
                  rw [decide_eq_true (by omega), decide_eq_true hg]
                  rfl)] at q
                have eT : TF 0 (.tup [.int n, .int u]) = [([], (n : Rat) / (u : Rat))] := rfl
                rw [eT] at q
                have hv : ∀ c d e f g h i : Option Ent, mVar 0 [some (.dat (.tup [.int n, .int u])), c, d, e, f, g, h, i] θ = .ok (.tup [.int n, .int u]) θ := fun c d e f g h i => rfl
                simp! [ne_ii]
                refine ⟨fun h0 => ?_, fun h0 => ?_⟩
                · have z : nz (([], (n : Rat) / (u : Rat)) : Tm) = false := decide_eq_false (not_not_intro (show (n : Rat) / (u : Rat) = 0 by
                    rw [h0]
                    show ((0 : Int) : Rat) / _ = 0
                    rw [Rat.intCast_zero]
                    rw [Rat.div_def, Rat.zero_mul]))
                  rw [List.filter_cons_of_neg (by rw [z]; decide)] at q
                  exact q
                · have z : nz (([], (n : Rat) / (u : Rat)) : Tm) = true := decide_eq_true (show ¬ (n : Rat) / (u : Rat) = 0 from fun e => by
                    rw [e] at er
                    have er : Dt.tup [.int 0, .int 1] = .tup [.int n, .int u] := er
                    injection er with er
                    injection er with e1 _
                    injection e1 with e1
                    exact h0 e1.symm)
                  rw [List.filter_cons_of_pos z] at q
                  rw [gv_disp (d := .tup [.int n, .int u]) rfl rfl]
                  have e3 : dD [([], (n : Rat) / (u : Rat))] = .dct [[]] [dq ((n : Rat) / (u : Rat))] := rfl
                  have q : Q (.d (dD [([], (n : Rat) / (u : Rat))])) θ := q
                  rw [e3, er] at q
                  exact q
              · rw [toD_f (show fm 0 (.tup [.int n, .int u]) = false by
                  show (decide (1 ≤ u) && decide (Int.gcd n u = 1)) = false
                  rw [decide_eq_false hg, Bool.and_false])] at q
                have ne : ∀ (ρ : DEnv) (θ : Pot) (Q : Dt → Pot → Prop), Gv (opt (gNe (dq ((n : Rat) / (u : Rat))) (.tup [.int n, .int u])) ρ θ) Q = Q (.bl true) θ := fun ρ θ Q => by
                  have e : (decide (((n : Rat) / (u : Rat)).num = n) && (decide ((((n : Rat) / (u : Rat)).den : Int) = u) && true)) = false := by
                    rw [Bool.and_true]
                    refine Bool.eq_false_iff.mpr fun z => hg (low_red (by omega) ?_)
                    obtain ⟨z1, z2⟩ := Bool.and_eq_true_iff.mp z
                    unfold dq
                    rw [of_decide_eq_true z1, of_decide_eq_true z2]
                  unfold dq
                  rw [ne_ii, e]
                  rfl
                simp! [ne]
                exact q
          | raw v => exact pb.2.1.elim
          | cls k ds => exact pb.2.1.elim
          | dct ks vs => exact pb.2.1.elim
          | _ => exact q
        | raw v => exact pb.1.elim
        | cls k ds => exact pb.1.elim
        | dct ks vs => exact pb.1.elim
        | _ => cases c <;> first | exact q | exact pb.2.1.elim
    · have hz := len2_ne hl
      rw [toD_f (show fm 0 (.tup l) = false by rw [fm_ratB]; exact ratB_len l hl)] at q
      simp! [gt, okT, gv_lenT, hz]
      exact q
  | raw v => simp only [Pl] at pb
  | cls k ds => simp only [Pl] at pb
  | dct ks vs => simp only [Pl] at pb
  | _ => exact q
end Tc


namespace Tc
open PySem PySem.Spec Pd
theorem cons_nz (i : Int) (A : Tl) : (A.map fun p => (i :: p.1, p.2)).filter nz = (A.filter nz).map fun p => (i :: p.1, p.2) := by
  rw [List.filter_map]
  rfl
/-- the first that has no form -/
theorem fm_all {l : Nat} {ds : List Dt} (h1 : ds ≠ []) (h9 : ds.length ≤ 9) (h : ∀ x ∈ ds, fm l x = true) : fm (l + 1) (.tup ds) = true := by
  show (!ds.isEmpty && (decide (ds.length ≤ 9) && ds.all (fm l))) = true
  rw [decide_eq_true h9, List.all_eq_true.mpr h]
  cases ds with
  | nil => exact absurd rfl h1
  | cons a b => rfl
theorem fm_bad {l : Nat} {ds : List Dt} {x : Dt} (hx : x ∈ ds) (h : fm l x = false) : fm (l + 1) (.tup ds) = false := by
  refine Bool.eq_false_iff.mpr fun z => ?_
  obtain ⟨ds', e, _, _, hd⟩ := fm_succ z
  injection e with e
  subst e
  rw [hd x hx] at h
  cases h
theorem fm_len {l : Nat} {ds : List Dt} (h : ¬ ds.length ≤ 9) : fm (l + 1) (.tup ds) = false := by
  refine Bool.eq_false_iff.mpr fun z => ?_
  obtain ⟨ds', e, _, h9, _⟩ := fm_succ z
  injection e with e
  subst e
  exact h h9
/-- what stands ahead of a place has other keys -/
theorem key_new {A C : Tl} {p : Tm} (nd : (ksP (A ++ p :: C)).Nodup) : p.1 ∉ ksP A := fun z => by
  unfold ksP at nd z
  rw [List.map_append, List.map_cons] at nd
  exact (List.nodup_append.mp nd).2.2 _ z _ List.mem_cons_self rfl
theorem put_new {P : Tl} {k : List Int} {r : Rat} (h : k ∉ ksP P) : dPut (ksP P, vsP P) k (dq r) = (ksP (P ++ [(k, r)]), vsP (P ++ [(k, r)])) := by rw [dPut_P, putP_new h]
theorem bT1 (i : Nat) (d : Dt) (ρ : DEnv) : bindT (.n i) d ρ = some (ρ.set i (some (.dat d))) := rfl
theorem TZ_siz {l : Nat} : ∀ (ps : List (Dt × Nat)), (∀ x ∈ ps, fm l x.1 = true) → 3 * (TZ (TF l) ps).length ≤ sizs (ps.map Prod.fst)
  | [], _ => Nat.zero_le _
  | x :: ps, h => by
    have e : TZ (TF l) (x :: ps) = ((TF l x.1).map fun p => (((x.2 : Nat) : Int) :: p.1, p.2)) ++ TZ (TF l) ps := rfl
    have h1 := TF_siz l (h x List.mem_cons_self)
    have h2 := TZ_siz ps fun y hy => h y (List.mem_cons_of_mem _ hy)
    rw [e, List.length_append, List.length_map, List.map_cons]
    simp only [sizs]
    omega
theorem lterms_succ {recm : Mir} {l : Nat} {L : Int} {b : Dt} {θ : Pot} {Q : Ret → Pot → Prop} (eL : L = (l : Nat) + 1) (hl : l ≤ 2) (pb : Pl b) (hd : depD b ≤ 60) (hs : siz b ≤ 8000)
    (H : ∀ (d : Dt) (θ : Pot) (Q : Ret → Pot → Prop), Pl d → depD d ≤ 60 → siz d ≤ 8000 → Q (.d (toD l d)) θ → Gv (recm [.dat d, .dat (.int (L - 1))] θ) Q)
    (q : Q (.d (toD (l + 1) b)) θ) : Gv (Pd.mFn 9 (r__law_terms_of recm) [.dat b, .dat (.int L)] θ) Q := by
  unfold r__law_terms_of
  have g0 : ¬ L = 0 := by omega
  have gt := gv_isiT pb
  cases ob : okT b with
  | false =>
    rw [toD_f (fm_not ob)] at q
    simp! [g0, gt, ob]
    exact q
  | true =>
    cases b with
    | tup ds =>
      have en := eqT (deq_nil pb hd)
      have gl : ∀ (ρ : DEnv) (θ : Pot) (Q : Dt → Pot → Prop), Gv (opt (gLen [.tup ds]) ρ θ) Q = Q (.int (ds.length : Nat)) θ := fun ρ θ Q => gv_lenT ds
      by_cases h0 : ds = []
      · have dn : decide (ds = []) = true := decide_eq_true h0
        rw [dn] at en
        rw [toD_f (show fm (l + 1) (.tup ds) = false by rw [h0]; rfl)] at q
        simp! [g0, gt, ob, en]
        exact q
      · have dn : decide (ds = []) = false := decide_eq_false h0
        rw [dn] at en
        by_cases h9 : ds.length ≤ 9
        · have g9 : ¬ (ds.length : Int) > 9 := by omega
          have pd : ∀ d ∈ ds, Pl d := by
            simp only [Pl] at pb
            exact Pls_mem pb
          have sd : ∀ d ∈ ds, siz d ≤ 8000 := fun d hd => by
            have := siz_mem hd
            simp only [siz] at hs
            omega
          have dd : ∀ d ∈ ds, depD d ≤ 60 := fun d h => by
            have := dep_mem h
            simp only [depD] at hd
            omega
          simp! [g0, gt, ob, en, gl, g9]
          unfold Pd.numbered
          refine for_mapR (fun p : Dt × Nat => .tup [.int (p.2 : Nat), p.1]) (fun pre ρ θ' => (∀ x ∈ pre, fm l x.1 = true) ∧ ∃ a b c d : Option Ent, ρ = [some (.dat (.tup ds)), some (.dat (.int L)), none, none, some (.dic false (ksP ((TZ (TF l) pre).filter nz)) (vsP ((TZ (TF l) pre).filter nz))), a, b, c, d] ∧ θ' = θ) ds.zipIdx ?_ ?_ _ _ ⟨fun x hx => (List.not_mem_nil hx).elim, none, none, none, none, rfl, rfl⟩
          · rintro ρ θ1 ⟨hf, a, b, c, d, rfl, rfl⟩
            have hall : fm (l + 1) (.tup ds) = true := fm_all h0 h9 fun x hx => by
              obtain ⟨i, hi, e⟩ := List.getElem_of_mem hx
              have : (ds[i], i) ∈ ds.zipIdx := List.mk_mem_zipIdx_iff_getElem?.mpr (List.getElem?_eq_getElem hi)
              have := hf _ this
              rw [← e]
              exact this
            rw [toD_t hall, ← TZ_all] at q
            simp! [true_and]
            exact q
          · rintro pre x post ρ θ1 e ⟨hf, a, b, c, d, rfl, rfl⟩
            have hx : x.1 ∈ ds := by
              have : x ∈ ds.zipIdx := by
                rw [e]
                simp
              obtain ⟨_, h⟩ := List.mem_zipIdx' this
              rw [h]
              exact List.getElem_mem _
            refine ⟨_, bTe 5 6 x _, ?_⟩
            simp! [true_and]
            refine H x.1 _ _ (pd _ hx) (dd _ hx) (sd _ hx) ?_
            cases hm : fm l x.1 with
            | false =>
              rw [toD_f (fm_bad hx hm)] at q
              rw [toD_f hm]
              simp! [true_and]
              exact Or.inr ⟨_, rfl, q⟩
            | true =>
              rw [toD_t hm]
              have wA := (TF_wf hm).filter nz
              have sA := TF_siz l hm
              have gi : ∀ (ks : List (List Int)) (vs : List Dt) (ρ : DEnv) (θ : Pot) (Q : Dt → Pot → Prop), Gv (opt (gIs2 (.dct ks vs) .non) ρ θ) Q = Q (.bl false) θ := fun ks vs ρ θ Q => rfl
              unfold dD
              simp! [gi, ks_keys]
              refine for_map (fun p : Tm => keyD p.1) (fun pr ρ θ' => ∃ d : Option Ent, ρ = [some (.dat (.tup ds)), some (.dat (.int L)), none, none, some (.dic false (ksP ((TZ (TF l) pre).filter nz ++ pr.map fun p => (((x.2 : Nat) : Int) :: p.1, p.2))) (vsP ((TZ (TF l) pre).filter nz ++ pr.map fun p => (((x.2 : Nat) : Int) :: p.1, p.2)))), some (.dat (.int (x.2 : Nat))), some (.dat x.1), some (.dat (.dct (ksP ((TF l x.1).filter nz)) (vsP ((TF l x.1).filter nz)))), d] ∧ θ' = θ1) ((TF l x.1).filter nz) ?_ ?_ _ _ ⟨d, by rw [List.map_nil, List.append_nil], rfl⟩
              · rintro ρ θ2 ⟨d, rfl, rfl⟩
                refine Or.inl ⟨_, rfl, fun y hy => ?_, some (.dat (.int (x.2 : Nat))), some (.dat x.1), some (.dat (.dct (ksP ((TF l x.1).filter nz)) (vsP ((TF l x.1).filter nz)))), d, ?_, rfl⟩
                · rcases List.mem_append.mp hy with z | z
                  · exact hf y z
                  · rw [List.mem_singleton.mp z]
                    exact hm
                · rw [TZ_snoc, List.filter_append, cons_nz]
              · rintro pr p po ρ θ2 e2 ⟨d, rfl, rfl⟩
                refine ⟨_, bT1 8 _ _, ?_⟩
                have hp : p ∈ (TF l x.1).filter nz := by
                  rw [e2]
                  simp
                have lk := (okB_iff.mp (wA.ok p hp)).1
                have g : ∀ (ρ : DEnv) (θ : Pot) (Q : Dt → Pot → Prop), Gv (opt (gIxQ (.dct (ksP ((TF l x.1).filter nz)) (vsP ((TF l x.1).filter nz))) (keyD p.1)) ρ θ) Q = Q (dq p.2) θ := fun ρ θ Q => gv_ixQd _ _ _ _ (get_P wA.nd hp)
                have hk : ((((x.2 : Nat) : Int) :: p.1)) ∉ ksP ((TZ (TF l) pre).filter nz ++ pr.map fun p => (((x.2 : Nat) : Int) :: p.1, p.2)) := fun z => by
                  unfold ksP at z
                  rw [List.map_append] at z
                  rcases List.mem_append.mp z with z | z
                  · obtain ⟨r, hr, er⟩ := List.mem_map.mp z
                    obtain ⟨y, hy, hr2⟩ := List.mem_flatMap.mp (List.mem_filter.mp hr).1
                    obtain ⟨t, ht, rfl⟩ := List.mem_map.mp hr2
                    have e3 : y.2 = x.2 := by
                      injection er with e4 _
                      omega
                    have nd : (ds.zipIdx.map Prod.snd).Nodup := by
                      rw [List.zipIdx_map_snd]
                      exact List.nodup_range'
                    rw [e, List.map_append, List.map_cons] at nd
                    exact (List.nodup_append.mp nd).2.2 y.2 (List.mem_map.mpr ⟨y, hy, rfl⟩) x.2 List.mem_cons_self e3
                  · obtain ⟨r, hr, er⟩ := List.mem_map.mp z
                    obtain ⟨t, ht, rfl⟩ := List.mem_map.mp hr
                    injection er with _ e4
                    have nd := wA.nd
                    rw [e2] at nd
                    refine key_new (C := po) nd ?_
                    rw [← e4]
                    exact List.mem_map.mpr ⟨t, ht, rfl⟩
                simp! [g, cat_key (show p.1.length ≤ 3 by omega), put_new hk]
                have tz := TZ_siz (l := l) pre hf
                have sz : sizs (pre.map Prod.fst) + siz x.1 ≤ sizs ds := by
                  have e5 := congrArg (List.map Prod.fst) e
                  rw [List.zipIdx_map_fst, List.map_append, List.map_cons] at e5
                  rw [e5, sizs_app]
                  simp only [sizs]
                  omega
                have lb : (ksP ((TZ (TF l) pre).filter nz ++ pr.map fun p => (((x.2 : Nat) : Int) :: p.1, p.2))).length < bigL := by
                  have h1 : pr.length ≤ (TF l x.1).length := by
                    have := congrArg List.length e2
                    rw [List.length_append] at this
                    have := List.length_filter_le nz (TF l x.1)
                    omega
                  have h2 := List.length_filter_le nz (TZ (TF l) pre)
                  unfold ksP bigL
                  rw [List.length_map, List.length_append, List.length_map]
                  simp only [siz] at hs
                  omega
                simp! [lb]
                refine ⟨_, rfl, some (.dat (keyD p.1)), ?_⟩
                rw [List.map_append]
                simp only [← List.append_assoc]
                rfl
        · rw [toD_f (fm_len h9)] at q
          have g9 : (ds.length : Int) > 9 := by omega
          simp! [g0, gt, ob, en, gl, g9]
          exact q
    | _ => cases ob
end Tc


namespace Tc
open PySem PySem.Spec Pd
theorem lterms_ok : ∀ (l f : Nat) (L : Int) (b : Dt) (θ : Pot) (Q : Ret → Pot → Prop), l < f → L = (l : Nat) → l ≤ 3 → Pl b → depD b ≤ 60 → siz b ≤ 8000 → Q (.d (toD l b)) θ → Gv (m__law_terms_of f [.dat b, .dat (.int L)] θ) Q
  | 0, f + 1, L, b, θ, Q, _, eL, _, pb, _, _, q => by
    obtain rfl : L = 0 := eL
    exact lterms_zero (recm := m__law_terms_of f) pb q
  | l + 1, f + 1, L, b, θ, Q, hf, eL, hl, pb, hd, hs, q =>
    lterms_succ (recm := m__law_terms_of f) (l := l) (by omega) (by omega) pb hd hs (fun d θ Q pd dd sd q => lterms_ok l f (L - 1) d θ Q (by omega) (by omega) (by omega) pd dd sd q) q
/-! ### the polynomial of a form -/
def PB (l : Nat) (b : Dt) : Tl := (sortP (TF l b)).filter nz
theorem TF_sm : ∀ {l : Nat} {b : Dt}, fm l b = true → Sm 60 (TF l b)
  | 0, b, _, p, hp, x, hx => by
    rw [List.mem_singleton.mp (show p ∈ [(([], rqD b) : Tm)] from hp)] at hx
    exact (List.not_mem_nil hx).elim
  | l + 1, b, h, p, hp, x, hx => by
    obtain ⟨ds, rfl, _, h9, h3⟩ := fm_succ h
    obtain ⟨j, d, q, e1, e2, rfl⟩ := TFr_mem (show p ∈ TFr (TF l) 0 ds from hp)
    have hj := (List.getElem?_eq_some_iff.mp e1).1
    rcases List.mem_cons.mp hx with z | z
    · rw [z]
      omega
    · exact TF_sm (h3 d (List.mem_of_getElem? e1)) q e2 x z
theorem TF_bz : ∀ {l : Nat} {b : Dt}, fm l b = true → Pl b → Bz 64 (TF l b)
  | 0, b, h, pb, p, hp => by
    obtain ⟨q, e, er⟩ := fm_zero h
    rw [List.mem_singleton.mp (show p ∈ [(([], rqD b) : Tm)] from hp)]
    show bz 64 (rqD b)
    rw [er]
    rw [e] at pb
    unfold dq at pb
    simp only [Pl, Pls] at pb
    exact ⟨pb.1, pb.2.1⟩
  | l + 1, b, h, pb, p, hp => by
    obtain ⟨ds, rfl, _, h9, h3⟩ := fm_succ h
    obtain ⟨j, d, q, e1, e2, rfl⟩ := TFr_mem (show p ∈ TFr (TF l) 0 ds from hp)
    simp only [Pl] at pb
    exact TF_bz (h3 d (List.mem_of_getElem? e1)) (Pls_mem pb d (List.mem_of_getElem? e1)) q e2
theorem Sm.perm {n : Int} {A B : Tl} (p : A.Perm B) (h : Sm n B) : Sm n A := fun q hq => h q (p.mem_iff.mp hq)
theorem Sm.filter {n : Int} {A : Tl} (h : Sm n A) (f : Tm → Bool) : Sm n (A.filter f) := fun q hq => h q (List.mem_filter.mp hq).1
theorem Bz.filter {k : Nat} {A : Tl} (h : Bz k A) (f : Tm → Bool) : Bz k (A.filter f) := fun q hq => h q (List.mem_filter.mp hq).1
theorem PB_nice {l : Nat} {b : Dt} (h : fm l b = true) (hn : (TF l b).length ≤ 60) : Nice l (PB l b) := nice_told (TF_wf h) hn
theorem PB_sm {l : Nat} {b : Dt} (h : fm l b = true) : Sm 60 (PB l b) := ((TF_sm h).perm (sortP_perm (TF_wf h).nd)).filter nz
theorem PB_bz {l : Nat} {b : Dt} (h : fm l b = true) (pb : Pl b) : Bz 64 (PB l b) := ((TF_bz h pb).perm (sortP_perm (TF_wf h).nd)).filter nz
theorem PB_perm {l : Nat} {b : Dt} (h : fm l b = true) : (PB l b).Perm ((TF l b).filter nz) := (sortP_perm (TF_wf h).nd).filter nz
theorem PB_N {l : Nat} {b : Dt} (h : fm l b = true) : N l ((TF l b).filter nz) = N l (PB l b) := by
  exact (N_perm (PB_perm h) ((TF_wf h).filter nz)).symm
theorem N_tup : ∀ (l : Nat) (P : Tl), ∃ ds, N l P = .tup ds
  | 0, P => ⟨_, rfl⟩
  | l + 1, P => ⟨_, rfl⟩
theorem poly_from_ok {l : Nat} {L : Int} {b : Dt} {θ : Pot} {Q : Ret → Pot → Prop} (eL : L = (l : Nat)) (h1 : 1 ≤ l) (hl : l ≤ 3) (h : fm l b = true) (hs : siz b ≤ 180) (q : Q (.d (tp (PB l b))) θ) : Gv (m_poly_from [.dat b, .dat (.int L)] θ) Q := by
  have ts := TF_siz l h
  have e2 := dict_T (TF l b) (TF_wf h).nd
  unfold m_poly_from r_poly_from
  simp! [true_and]
  refine terms_ok l 12 L b _ _ (by omega) eL hl h (by omega) ?_
  simp! [e2, dct_P]
  refine told_ok (TF_wf h) h1 (by omega) ?_
  simp! [true_and]
  exact q
def vv (l : Nat) (b : Dt) : Bool := (deq (N l (PB l b)) b).getD false
/-- is it a nested form? -/
def inB (l : Nat) (b : Dt) : Bool := fm l b && ((PB l b).all sm8 && vv l b)
theorem vv_eq {l : Nat} {b : Dt} (hl : l ≤ 3) (h : fm l b = true) (pb : Pl b) (hd : depD b ≤ 60) (ρ : DEnv) (θ : Pot) (Q : Dt → Pot → Prop) : Gv (opt (gEq (N l (PB l b)) b) ρ θ) Q = Q (.bl (vv l b)) θ := by
  have d1 : depD (N l (PB l b)) ≤ 60 := Nat.le_trans (dep_N l _) (by omega)
  obtain ⟨v, e⟩ := deq_pl (Pl_N l (PB_bz h pb)) pb d1 hd
  have ev : vv l b = v := by
    unfold vv
    rw [e]
    rfl
  rw [ev]
  obtain ⟨ds, en⟩ := N_tup l (PB l b)
  rw [en] at e ⊢
  exact eqT e ρ θ Q
theorem nested_of_ok {l : Nat} {L : Int} {b : Dt} {θ : Pot} {Q : Ret → Pot → Prop} (eL : L = (l : Nat)) (h1 : 1 ≤ l) (hl : l ≤ 3) (pb : Pl b) (hd : depD b ≤ 60) (hs : siz b ≤ 180) (q : Q (.d (.bl (inB l b))) θ) : Gv (m_is_nested_of [.dat (.int L), .dat b] θ) Q := by
  unfold m_is_nested_of r_is_nested_of
  simp! [true_and]
  refine form_ok l 12 L b _ _ (by omega) eL pb (by omega) ?_
  unfold inB at q
  cases h : fm l b with
  | false =>
    rw [h] at q
    simp! [true_and]
    exact q
  | true =>
    rw [h] at q
    have ts := TF_siz l h
    have ni := PB_nice h (by omega)
    simp! [true_and]
    refine poly_from_ok eL h1 hl h hs ?_
    simp! [is_poly_in_eq eL hl ni.wf.ok ni.hz ni.srt ni.len]
    cases h8 : (PB l b).all sm8 with
    | false =>
      rw [h8] at q
      simp! [true_and]
      exact q
    | true =>
      rw [h8] at q
      simp! [tp]
      refine nested_ok l 12 L _ _ _ (by omega) eL hl ni.wf (PB_sm h) ni.len ?_
      simp! [vv_eq hl h pb hd]
      exact q
theorem is_nested_ok {l : Nat} {L : Int} {b : Dt} {θ : Pot} {Q : Ret → Pot → Prop} (eL : L = (l : Nat)) (h1 : 1 ≤ l) (hl : l ≤ 3) (pb : Pl b) (hd : depD b ≤ 60) (hs : siz b ≤ 180) (q : Q (.d (.bl (inB l b))) θ) : Gv (m_is_nested [.dat (.int L), .dat b] θ) Q := by
  unfold m_is_nested r_is_nested
  simp! [letters_eq (show 1 ≤ L by omega) (show L ≤ 3 by omega)]
  refine nested_of_ok eL h1 hl pb hd hs ?_
  simp! [true_and]
  exact q
theorem want_nested_eq {l : Nat} {L : Int} {b : Dt} (eL : L = (l : Nat)) (h1 : 1 ≤ l) (hl : l ≤ 3) (pb : Pl b) (hd : depD b ≤ 60) (hs : siz b ≤ 180) (hi : inB l b = true) (θ : Pot) (Q : Ret → Pot → Prop) : Gv (m_want_nested [.dat (.int L), .dat b] θ) Q = Q (.d .non) θ := by
  refine gvE (fun Q q => ?_) Q
  unfold m_want_nested r_want_nested
  simp! [true_and]
  refine nested_of_ok eL h1 hl pb hd hs ?_
  rw [hi]
  simp! [true_and]
  exact q
theorem poly_of_nested_ok {l : Nat} {L : Int} {b : Dt} {θ : Pot} {Q : Ret → Pot → Prop} (eL : L = (l : Nat)) (h1 : 1 ≤ l) (hl : l ≤ 3) (pb : Pl b) (hd : depD b ≤ 60) (hs : siz b ≤ 180) (hi : inB l b = true) (q : Q (.d (tp (PB l b))) θ) : Gv (m_poly_of_nested [.dat (.int L), .dat b] θ) Q := by
  unfold m_poly_of_nested r_poly_of_nested
  simp! [letters_eq (show 1 ≤ L by omega) (show L ≤ 3 by omega), want_nested_eq eL h1 hl pb hd hs hi]
  refine poly_from_ok eL h1 hl (Bool.and_eq_true_iff.mp hi).1 hs ?_
  simp! [true_and]
  exact q
/-! the law's look -/
theorem all_filter {l : Nat} {b : Dt} (h : fm l b = true) : ((TF l b).filter nz).all sm8 = (PB l b).all sm8 := by
  rw [Bool.eq_iff_iff, List.all_eq_true, List.all_eq_true]
  exact ⟨fun g p hp => g p ((PB_perm h).mem_iff.mp hp), fun g p hp => g p ((PB_perm h).mem_iff.mpr hp)⟩
theorem lis_nested_ok {l : Nat} {L : Int} {b : Dt} {θ : Pot} {Q : Ret → Pot → Prop} (eL : L = (l : Nat)) (h1 : 1 ≤ l) (hl : l ≤ 3) (pb : Pl b) (hd : depD b ≤ 60) (hs : siz b ≤ 180) (q : Q (.d (.bl (inB l b))) θ) : Gv (m__law_is_nested [.dat b, .dat (.int L)] θ) Q := by
  unfold m__law_is_nested r__law_is_nested
  simp! [true_and]
  refine lterms_ok l 12 L b _ _ (by omega) eL hl pb hd (by omega) ?_
  unfold inB at q
  cases h : fm l b with
  | false =>
    rw [h] at q
    rw [toD_f h]
    simp! [true_and]
    exact q
  | true =>
    rw [h] at q
    rw [toD_t h]
    have ts := TF_siz l h
    have lf := List.length_filter_le nz (TF l b)
    have ni := PB_nice h (by omega)
    have gi : ∀ (ks : List (List Int)) (vs : List Dt) (ρ : DEnv) (θ : Pot) (Q : Dt → Pot → Prop), Gv (opt (gIs2 (.dct ks vs) .non) ρ θ) Q = Q (.bl false) θ := fun ks vs ρ θ Q => rfl
    have gl : ((ksP ((TF l b).filter nz)).length : Int) = (((TF l b).filter nz).length : Nat) := by
      unfold ksP
      rw [List.length_map]
    have g60 : ¬ (((TF l b).filter nz).length : Int) > 60 := by omega
    have lb := lst_big (fun p : Tm => keyD p.1) (show ((TF l b).filter nz).length ≤ 200 by omega)
    unfold dD
    simp! [gi, gl, g60, ks_keys, lb]
    refine cmap (f := fun p => .int p.1.sum) ((TF l b).filter nz) (fun p hp => ?_) ?_
    · simp! [keyD, sum_eq]
    · have e6 := degs_dt ((TF l b).filter nz)
      have lc : (((TF l b).filter nz).map fun p => Dt.int p.1.sum).length + 1 < bigL := by
        rw [List.length_map]
        unfold bigL
        omega
      simp! [e6, max_ints (degs_ne _), lc]
      have d8 := degs_le ((TF l b).filter nz)
      rw [all_filter h] at d8
      cases h8 : (PB l b).all sm8 with
      | false =>
        rw [h8] at q d8
        have g8 : maxI (degs ((TF l b).filter nz)) > 8 := by
          by_cases z : maxI (degs ((TF l b).filter nz)) ≤ 8
          · exact absurd (d8.mp z) (by decide)
          · omega
        simp! [g8]
        exact q
      | true =>
        rw [h8] at q d8
        have g8 : ¬ maxI (degs ((TF l b).filter nz)) > 8 := by
          have := d8.mpr rfl
          omega
        simp! [g8, dct_P]
        refine lnested_ok l 12 L _ _ _ (by omega) eL hl ((TF_wf h).filter nz) ((TF_sm h).filter nz) (by omega) ?_
        rw [PB_N h]
        simp! [vv_eq hl h pb hd]
        exact q
end Tc


namespace Tc
open PySem PySem.Spec Pd
/-! ### points, and what is asked of polys -/
def dpt (pt : List Rat) : Dt := .tup (pt.map dq)
theorem want_poly_in_eq {L : Int} {l : Nat} {P : Tl} (eL : L = (l : Nat)) (hl : l ≤ 3) (n : Nice l P) (h8 : P.all sm8 = true) (θ : Pot) (Q : Ret → Pot → Prop) : Gv (m_want_poly_in [.dat (.int L), .dat (tp P)] θ) Q = Q (.d .non) θ := by
  unfold m_want_poly_in r_want_poly_in
  simp! [is_poly_in_eq eL hl n.wf.ok n.hz n.srt n.len, h8]
theorem nested_of_p {L : Int} {l : Nat} {P : Tl} {θ : Pot} {Q : Ret → Pot → Prop} (eL : L = (l : Nat)) (h1 : 1 ≤ l) (hl : l ≤ 3) (n : Nice l P) (h8 : P.all sm8 = true) (hs : Sm 60 P) (q : Q (.d (N l P)) θ) : Gv (m_nested_of [.dat (.int L), .dat (tp P)] θ) Q := by
  unfold m_nested_of r_nested_of
  simp! [letters_eq (show 1 ≤ L by omega) (show L ≤ 3 by omega), want_poly_in_eq eL hl n h8]
  unfold tp
  simp! [true_and]
  refine nested_ok l 12 L P θ _ (by omega) eL hl n.wf hs n.len ?_
  simp! [true_and]
  exact q
theorem is_point_eq {pt : List Rat} (h1 : 1 ≤ pt.length) (h3 : pt.length ≤ 3) (θ : Pot) (Q : Ret → Pot → Prop) : Gv (m_is_point [.dat (dpt pt)] θ) Q = Q (.d (.bl true)) θ := by
  refine gvE (fun Q q => ?_) Q
  unfold m_is_point r_is_point dpt
  have gl : ∀ (ρ : DEnv) (θ : Pot) (Q : Dt → Pot → Prop), Gv (opt (gLen [.tup (pt.map dq)]) ρ θ) Q = Q (.int (pt.length : Nat)) θ := fun ρ θ Q => by rw [gv_lenT, List.length_map]
  have g1 : (1 : Int) ≤ (pt.length : Nat) := by omega
  have g8 : ((pt.length : Nat) : Int) ≤ 8 := by omega
  have lb := lst_big dq (show pt.length ≤ 200 by omega)
  simp! [gl, g1, g8, lb]
  refine cmap (f := fun _ => .bl true) pt (fun x hx => ?_) ?_
  · simp! [is_ratio_eq]
  · have e : ∀ (ρ : DEnv) (θ : Pot) (Q : Dt → Pot → Prop), Gv (opt (gAll [.lst (pt.map fun _ => Dt.bl true)]) ρ θ) Q = Q (.bl true) θ := fun ρ θ Q => by
      rw [gv_allM (fun _ : Rat => true) pt, all_true]
    simp! [e]
    exact q
theorem want_point_eq {L : Int} {pt : List Rat} (h1 : 1 ≤ pt.length) (h3 : pt.length ≤ 3) (eL : L = (pt.length : Nat)) (θ : Pot) (Q : Ret → Pot → Prop) : Gv (m_want_point_for [.dat (.int L), .dat (dpt pt)] θ) Q = Q (.d .non) θ := by
  unfold m_want_point_for r_want_point_for
  have gl : ∀ (ρ : DEnv) (θ : Pot) (Q : Dt → Pot → Prop), Gv (opt (gLen [dpt pt]) ρ θ) Q = Q (.int L) θ := fun ρ θ Q => by
    unfold dpt
    rw [gv_lenT, List.length_map, eL]
  simp! [is_point_eq h1 h3, gl]
theorem ne_nilT {α : Type} (f : α → Dt) (a : α) (l : List α) (pb : Pls (f a :: l.map f)) (hd : deps (f a :: l.map f) ≤ 50) (ρ : DEnv) (θ : Pot) (Q : Dt → Pot → Prop) : Gv (opt (gEq (.tup (f a :: l.map f)) (.tup [])) ρ θ) Q = Q (.bl false) θ := by
  have h : Pl (.tup (f a :: l.map f)) := by
    simp only [Pl]
    exact pb
  have d : depD (.tup (f a :: l.map f)) ≤ 60 := by
    simp only [depD]
    omega
  have e := deq_nil h d
  rw [decide_eq_false (List.cons_ne_nil _ _)] at e
  exact eqT e ρ θ Q
theorem dep_key (k : List Int) : depD (keyD k) ≤ 1 := by
  unfold keyD
  simp only [depD]
  have := dep_map (f := Dt.int) (l := k) (n := 0) fun i _ => Nat.le_refl 0
  omega
theorem okB_bi {l : Nat} {k : List Int} (h : okB l k = true) : ∀ x ∈ k, bi 64 x := fun x hx => by
  have := (okB_iff.mp h).2 x hx
  exact bi_of (by have : (2 : Nat) ^ 64 = 18446744073709551616 := by decide
                  omega) (by have : (2 : Nat) ^ 64 = 18446744073709551616 := by decide
                             omega)
theorem Pl_key {l : Nat} {k : List Int} (h : okB l k = true) : Pl (keyD k) := by
  unfold keyD
  simp only [Pl]
  refine Pl_map fun i hi => ?_
  simp only [Pl]
  exact okB_bi h i hi
theorem Pl_tm {l : Nat} {p : Tm} (h : okB l p.1 = true) (hb : bz 64 p.2) : Pl (dTm p) := by
  unfold dTm
  simp only [Pl, Pls, and_true]
  exact ⟨Pl_key h, Pl_dq hb⟩
theorem dep_tm (p : Tm) : depD (dTm p) ≤ 2 := by
  unfold dTm
  simp only [depD, deps]
  have := dep_key p.1
  have := dep_dq p.2
  omega
theorem Pl_tp {l : Nat} {P : Tl} (h : Kok l P) (hb : Bz 64 P) : Pl (tp P) := by
  unfold tp
  simp only [Pl]
  exact Pl_map fun p hp => Pl_tm (h p hp) (hb p hp)
theorem dep_tp (P : Tl) : depD (tp P) ≤ 3 := by
  unfold tp
  simp only [depD]
  have := dep_map (f := dTm) (l := P) (n := 2) fun p _ => dep_tm p
  omega
theorem tp_nil {l : Nat} {P : Tl} (h : Kok l P) (hb : Bz 64 P) : deq (tp P) (.tup []) = some (decide (P = [])) := by
  have e := deq_nil (l := P.map dTm) (Pl_tp h hb) (Nat.le_trans (dep_tp P) (by decide))
  have : tp P = .tup (P.map dTm) := rfl
  rw [this, e]
  congr 1
  exact decide_eq_decide.mpr List.map_eq_nil_iff
theorem tp_self {l : Nat} {P : Tl} (h : Kok l P) (hb : Bz 64 P) : deq (tp P) (tp P) = some true := deq_refl (Pl_tp h hb) (Nat.le_trans (dep_tp P) (by decide))
theorem N_self (l : Nat) {P : Tl} (hl : l ≤ 3) (hb : Bz 64 P) : deq (N l P) (N l P) = some true := deq_refl (Pl_N l hb) (Nat.le_trans (dep_N l P) (by omega))
theorem want_poly_eq {l : Nat} {p : Tm} {P : Tl} (h1 : 1 ≤ l) (hl : l ≤ 3) (n : Nice l (p :: P)) (hb : Bz 64 (p :: P)) (h8 : (p :: P).all sm8 = true) (θ : Pot) (Q : Ret → Pot → Prop) : Gv (m_want_poly [.dat (tp (p :: P))] θ) Q = Q (.d .non) θ := by
  have e : ∀ (θ : Pot) (Q : Ret → Pot → Prop), Gv (m_is_any_poly [.dat (tp (p :: P))] θ) Q = Q (.d (.bl true)) θ := fun θ Q => by
    unfold m_is_any_poly r_is_any_poly
    have en := tp_nil n.wf.ok hb
    rw [decide_eq_false (List.cons_ne_nil _ _)] at en
    have en2 := eqT (l := (p :: P).map dTm) en
    have lk := (okB_iff.mp (n.wf.ok p List.mem_cons_self)).1
    have gl : ∀ (ρ : DEnv) (θ : Pot) (Q : Dt → Pot → Prop), Gv (opt (gLen [keyD p.1]) ρ θ) Q = Q (.int (l : Nat)) θ := fun ρ θ Q => by
      unfold keyD
      rw [gv_lenT, List.length_map, lk]
    have gt : ∀ (ρ : DEnv) (θ : Pot) (Q : Dt → Pot → Prop), Gv (opt ((isiF "tuple") (keyD p.1)) ρ θ) Q = Q (.bl true) θ := fun ρ θ Q => rfl
    have gf : ∀ (ρ : DEnv) (θ : Pot) (Q : Dt → Pot → Prop), Gv (opt (gIx (.tup ((p :: P).map dTm)) (.int 0)) ρ θ) Q = Q (.tup [keyD p.1, dq p.2]) θ := fun ρ θ Q => by
      rw [show gIx (.tup ((p :: P).map dTm)) (.int 0) = some (dTm p) from L2.atI_nat (j := 0) rfl]
      rfl
    have g1 : (1 : Int) ≤ (l : Nat) := by omega
    have g8 : ((l : Nat) : Int) ≤ 8 := by omega
    have ip := is_poly_in_eq (L := (l : Nat)) rfl hl n.wf.ok n.hz n.srt n.len
    rw [h8] at ip
    unfold tp at ip ⊢
    generalize (p :: P).map dTm = X at *
    simp! [en2, gf, gt, gl, g1, g8, ip]
  unfold m_want_poly r_want_poly
  simp! [e]
theorem letters_of_eq {l : Nat} {p : Tm} {P : Tl} (n : Nice l (p :: P)) (hb : Bz 64 (p :: P)) (θ : Pot) (Q : Ret → Pot → Prop) : Gv (m_letters_of [.dat (tp (p :: P))] θ) Q = Q (.d (.int (l : Nat))) θ := by
  unfold m_letters_of r_letters_of
  have en := tp_nil n.wf.ok hb
  rw [decide_eq_false (List.cons_ne_nil _ _)] at en
  have en2 := neT (l := (p :: P).map dTm) en
  have lk := (okB_iff.mp (n.wf.ok p List.mem_cons_self)).1
  have gl : ∀ (ρ : DEnv) (θ : Pot) (Q : Dt → Pot → Prop), Gv (opt (gLen [keyD p.1]) ρ θ) Q = Q (.int (l : Nat)) θ := fun ρ θ Q => by
    unfold keyD
    rw [gv_lenT, List.length_map, lk]
  have gf : ∀ (ρ : DEnv) (θ : Pot) (Q : Dt → Pot → Prop), Gv (opt (gIx (.tup ((p :: P).map dTm)) (.int 0)) ρ θ) Q = Q (.tup [keyD p.1, dq p.2]) θ := fun ρ θ Q => by
    rw [show gIx (.tup ((p :: P).map dTm)) (.int 0) = some (dTm p) from L2.atI_nat (j := 0) rfl]
    rfl
  unfold tp
  generalize (p :: P).map dTm = X at *
  simp! [en2, gf, gl]
end Tc


namespace Tc
open PySem PySem.Spec Pd
/-! ### values of nested forms -/
theorem dpt_cons (x : Rat) (pt : List Rat) : dpt (x :: pt) = .tup (dq x :: pt.map dq) := rfl
theorem Pl_pts {x : Rat} {pt : List Rat} (h : ∀ y ∈ x :: pt, bz 64 y) : Pls (dq x :: pt.map dq) := Pl_map (f := dq) (l := x :: pt) fun y hy => Pl_dq (h y hy)
theorem dep_pts (x : Rat) (pt : List Rat) : deps (dq x :: pt.map dq) ≤ 50 := Nat.le_trans (dep_map (f := dq) (l := x :: pt) (n := 1) fun y _ => dep_dq y) (by decide)
theorem bz_ev_hor {x : Rat} {v : Nat → Rat} {b : Nat} (hx : bz 3 x) (hv : ∀ i, bz b (v i)) : ∀ (n k : Nat) (a : Rat), bz k a → bz (k + n * (b + 4)) (hor x v n a)
  | 0, k, a, h => by
    rw [Nat.zero_mul, Nat.add_zero]
    exact h
  | n + 1, k, a, h => by
    have h1 : bz (k + 3 + b + 1) (a * x + v n) := (h.mul hx).add (hv n)
    have := bz_ev_hor hx hv n _ _ h1
    rw [Nat.add_mul]
    exact this.mono (by omega)
theorem bz_N : ∀ {l : Nat} {P : Tl} {pt : List Rat}, WF l P → Sm 4 P → Bz 30 P → pt.length = l → (∀ y ∈ pt, bz 3 y) → bz (vb l) (ev pt P)
  | 0, P, [], w, _, hb, _, _ => by
    rw [ev_zero w]
    exact bz_first hb
  | l + 1, P, x :: pt, w, s, hb, hl, hp => by
    rw [ev_hor w]
    have ih : ∀ i : Nat, bz (vb l) (ev pt (Tc.slice (i : Nat) P)) := fun i => bz_N (w.slice _) s.slice (hb.slice _) (by simpa using hl) fun y hy => hp y (List.mem_cons_of_mem _ hy)
    have h := bz_ev_hor (hp x List.mem_cons_self) ih (mxP P + 1) 0 0 bz0
    refine h.mono ?_
    have hm : mxP P ≤ 4 := s.mx (n := 4) w
    have : (mxP P + 1) * (vb l + 4) ≤ 5 * (vb l + 4) := Nat.mul_le_mul_right _ (by omega)
    show _ ≤ 5 * (vb l + 4) + 1
    omega
theorem vb_le : ∀ l, l ≤ 3 → vb l ≤ 4401
  | 0, _ => by decide
  | 1, _ => by decide
  | 2, _ => by decide
  | 3, _ => by decide
theorem rev_at {n i : Nat} {pre post : List Nat} (e : (List.range n).reverse = pre ++ i :: post) : pre.length < n ∧ i = n - pre.length - 1 := by
  have hl := congrArg List.length e
  rw [List.length_reverse, List.length_range, List.length_append, List.length_cons] at hl
  have h1 : pre.length < n := by omega
  refine ⟨h1, ?_⟩
  have h2 : ((List.range n).reverse)[pre.length]? = some i := by
    rw [e, List.getElem?_append_right (Nat.le_refl _), Nat.sub_self]
    rfl
  rw [List.getElem?_reverse (by rw [List.length_range]; exact h1), List.length_range, List.getElem?_range (by omega)] at h2
  have := Option.some.inj h2
  omega
theorem value_ok : ∀ (l f : Nat) (P : Tl) (pt : List Rat) (θ : Pot) (Q : Ret → Pot → Prop), l < f → l ≤ 3 → WF l P → Sm 4 P → Bz 30 P → pt.length = l → (∀ y ∈ pt, bz 3 y) → Q (.d (dq (ev pt P))) θ → Gv (m_value_from f [.dat (N l P), .dat (dpt pt)] θ) Q
  | 0, f + 1, P, [], θ, Q, _, _, w, _, hb, _, _, q => by
    show Gv (Pd.mFn 4 (r_value_from (m_value_from f)) [.dat (dq (first P)), .dat (.tup [])] θ) Q
    unfold r_value_from
    rw [ev_zero w] at q
    have e : ∀ (ρ : DEnv) (θ : Pot) (Q : Dt → Pot → Prop), Gv (opt (gEq (.tup []) (.tup [])) ρ θ) Q = Q (.bl true) θ := fun ρ θ Q => rfl
    simp! [e]
    exact q
  | l + 1, f + 1, P, x :: pt, θ, Q, hf, hl, w, s, hb, hp, hx, q => by
    show Gv (Pd.mFn 4 (r_value_from (m_value_from f)) _ θ) Q
    have ih := value_ok l f
    generalize m_value_from f = recm at ih ⊢
    unfold r_value_from
    have en := ne_nilT dq x pt (Pl_pts fun y hy => (hx y hy).mono (by decide)) (dep_pts x pt)
    have eN : N (l + 1) P = .tup ((List.range (mxP P + 1)).map fun i => N l (slice (i : Nat) P)) := rfl
    rw [dpt_cons, eN]
    simp! [en, gv_revT, revT_t]
    rw [← List.map_reverse]
    refine for_map (fun i : Nat => N l (slice (i : Nat) P)) (fun pre ρ θ' => ∃ (a : Rat) (c : Option Ent), ρ = [some (.dat (.tup ((List.range (mxP P + 1)).map fun i => N l (slice (i : Nat) P)))), some (.dat (.tup (dq x :: pt.map dq))), some (.dat (dq a)), c] ∧ hor x (fun i => ev pt (Tc.slice (i : Nat) P)) (mxP P + 1 - pre.length) a = ev (x :: pt) P ∧ bz (pre.length * (vb l + 4)) a ∧ θ' = θ) (List.range (mxP P + 1)).reverse ?_ ?_ _ _ ⟨0, none, rfl, (ev_hor w x pt).symm, by rw [List.length_nil, Nat.zero_mul]; exact bz0, rfl⟩
    · rintro ρ θ1 ⟨a, c, rfl, e, _, rfl⟩
      rw [List.length_reverse, List.length_range, Nat.sub_self] at e
      have e : a = ev (x :: pt) P := e
      rw [e]
      simp! [true_and]
      exact q
    · rintro pre i post ρ θ1 e1 ⟨a, c, rfl, e, ba, rfl⟩
      obtain ⟨h1, h2⟩ := rev_at e1
      refine ⟨_, bT1 3 _ _, ?_⟩
      have bx := hx x List.mem_cons_self
      have m4 : mxP P ≤ 4 := s.mx (n := 4) w
      have bv := vb_le l (by omega)
      have hp' : ∀ y ∈ pt, bz 3 y := fun y hy => hx y (List.mem_cons_of_mem _ hy)
      have lp : pt.length = l := by simpa using hp
      have v1 := bz_N (w.slice (i : Nat)) s.slice (hb.slice (i : Nat)) lp hp'
      have g0 : ∀ (ρ : DEnv) (θ : Pot) (Q : Dt → Pot → Prop), Gv (opt (gIx (.tup (dq x :: pt.map dq)) (.int 0)) ρ θ) Q = Q (dq x) θ := fun ρ θ Q => by
        rw [show gIx (.tup (dq x :: pt.map dq)) (.int 0) = some (dq x) from L2.atI_nat (j := 0) rfl]
        rfl
      have gs : ∀ (ρ : DEnv) (θ : Pot) (Q : Dt → Pot → Prop), Gv (opt (gSl (.tup (dq x :: pt.map dq)) (some 1) none) ρ θ) Q = Q (dpt pt) θ := fun ρ θ Q => by
        rw [gSl_t, cut1]
        rfl
      have hm : pre.length * (vb l + 4) ≤ 4 * (vb l + 4) := Nat.mul_le_mul_right _ (by omega)
      have k4 : 4 * (vb l + 4) + vb l + 4 < 8980 := by
        have : l ≤ 2 := by omega
        have h : ∀ l, l ≤ 2 → 4 * (vb l + 4) + vb l + 4 < 8980 := by decide
        exact h l this
      simp! [g0]
      refine mul_ok ba bx (by omega) ?_
      simp! [gs]
      refine ih (slice (i : Nat) P) pt _ _ (by omega) (by omega) (w.slice _) s.slice (hb.slice _) lp hp' ?_
      simp! [true_and]
      refine add_ok (ba.mul bx) v1 (by omega) ?_
      simp! [true_and]
      refine ⟨_, rfl, a * x + ev pt (Tc.slice (i : Nat) P), some (.dat (N l (slice (i : Nat) P))), rfl, ?_, ?_⟩
      · rw [← e, List.length_append, List.length_singleton]
        rw [show mxP P + 1 - pre.length = (mxP P + 1 - (pre.length + 1)) + 1 by omega]
        show _ = hor x _ (mxP P + 1 - (pre.length + 1)) (a * x + ev pt (Tc.slice ((mxP P + 1 - (pre.length + 1) : Nat) : Int) P))
        rw [show i = mxP P + 1 - (pre.length + 1) by omega]
      · rw [List.length_append, List.length_singleton, Nat.add_mul, Nat.one_mul]
        exact ((ba.mul bx).add v1).mono (by omega)
end Tc


namespace Tc
open PySem PySem.Spec Pd
/-! ### values of sums of terms -/
def mz : List (Int × Rat) → Rat
  | [] => 1
  | y :: l => rp y.2 y.1.toNat * mz l
theorem mono_zip : ∀ (pt : List Rat) (k : List Int), mono pt k = mz (k.zip pt)
  | [], [] => rfl
  | [], _ :: _ => rfl
  | _ :: _, [] => rfl
  | x :: pt, n :: k => by
    show rp x n.toNat * mono pt k = rp x n.toNat * mz (k.zip pt)
    rw [mono_zip pt k]
theorem mz_snoc : ∀ (l : List (Int × Rat)) (y : Int × Rat), mz (l ++ [y]) = mz l * rp y.2 y.1.toNat
  | [], y => by
    show rp y.2 y.1.toNat * 1 = 1 * rp y.2 y.1.toNat
    grind
  | z :: l, y => by
    show rp z.2 z.1.toNat * mz (l ++ [y]) = rp z.2 z.1.toNat * mz l * rp y.2 y.1.toNat
    rw [mz_snoc l y]
    grind
theorem bz1 : bz 0 1 := by decide +kernel
theorem bz_rp {x : Rat} (hx : bz 3 x) : ∀ m, bz (3 * m) (rp x m)
  | 0 => bz1
  | m + 1 => ((bz_rp hx m).mul hx).mono (by omega)
def okY (y : Int × Rat) : Prop := 0 ≤ y.1 ∧ y.1 ≤ 4 ∧ bz 3 y.2
theorem bz_mz : ∀ {l : List (Int × Rat)}, (∀ y ∈ l, okY y) → bz (12 * l.length) (mz l)
  | [], _ => bz1
  | y :: l, h => by
    have h1 := bz_mz fun z hz => h z (List.mem_cons_of_mem y hz)
    obtain ⟨h2, h3, h4⟩ := h y List.mem_cons_self
    exact ((bz_rp h4 y.1.toNat).mul h1).mono (by rw [List.length_cons]; omega)
theorem ev_snoc (pt : List Rat) (A : Tl) (p : Tm) : ev pt (A ++ [p]) = ev pt A + p.2 * mono pt p.1 := by
  rw [ev_append]
  show _ + (p.2 * mono pt p.1 + 0) = _
  grind
theorem zip_ok {l : Nat} {k : List Int} {pt : List Rat} (ok : okB l k = true) (h4 : ∀ x ∈ k, x ≤ 4) (hp : ∀ y ∈ pt, bz 3 y) : ∀ y ∈ k.zip pt, okY y := fun y hy => by
  have h1 := (List.of_mem_zip hy).1
  have := (okB_iff.mp ok).2 _ h1
  exact ⟨this.1, h4 _ h1, hp _ (List.of_mem_zip hy).2⟩
theorem pairs_zip : ∀ (k : List Int) (pt : List Rat), pairs (k.map Dt.int) (pt.map dq) = (k.zip pt).map fun y => .tup [.int y.1, dq y.2]
  | [], [] => rfl
  | [], _ :: _ => rfl
  | _ :: _, [] => rfl
  | x :: k, y :: pt => by
    show Dt.tup [.int x, dq y] :: pairs (k.map Dt.int) (pt.map dq) = _
    rw [pairs_zip k pt]
    rfl
theorem bTy (i j : Nat) (y : Int × Rat) (ρ : DEnv) : bindT (.t [i, j]) (.tup [.int y.1, dq y.2]) ρ = some ((ρ.set i (some (.dat (.int y.1)))).set j (some (.dat (dq y.2)))) := rfl
theorem power_ok {θ : Pot} {x : Rat} {n : Int} {Q : Ret → Pot → Prop} (h0 : 0 ≤ n) (h4 : n ≤ 4) (hx : bz 3 x) (q : Q (.d (dq (rp x n.toNat))) θ) : Gv (m_power_ratio [.dat (dq x), .dat (.int n)] θ) Q := by
  unfold m_power_ratio r_power_ratio
  have b1 : bnd62 n = true := bnd_of (by omega) (by omega)
  have e1 : Dt.tup [.int 1, .int 1] = dq (rp x 0) := rfl
  simp! [b1, rng0]
  refine for_rangeM (fun i : Nat => Dt.int (0 + i)) n.toNat (fun i ρ θ' => ∃ c : Option Ent, ρ = [some (.dat (dq x)), some (.dat (.int n)), some (.dat (dq (rp x i))), c] ∧ θ' = θ) ?_ ?_ _ _ ⟨none, rfl, rfl⟩
  · rintro ρ θ1 ⟨c, rfl, rfl⟩
    simp! [true_and]
    exact q
  · rintro i ρ θ1 hi ⟨c, rfl, rfl⟩
    refine ⟨_, rfl, ?_⟩
    simp! [true_and]
    refine mul_ok (bz_rp hx i) hx (by omega) ?_
    simp! [true_and]
    exact ⟨_, rfl, _, rfl⟩
/-- the package's value -/
theorem value_of_ok {l : Nat} {P : Tl} {pt : List Rat} {θ : Pot} {Q : Ret → Pot → Prop} (hl : l ≤ 3) (ok : Kok l P) (s : Sm 4 P) (hb : Bz 30 P) (hn : P.length ≤ 6) (hp : ∀ y ∈ pt, bz 3 y) (lp : pt.length = l) (q : Q (.d (dq (ev pt P))) θ) : Gv (m_value_of [.dat (tp P), .dat (dpt pt)] θ) Q := by
  unfold m_value_of r_value_of tp
  simp! [true_and]
  refine for_map dTm (fun pre ρ θ' => ∃ (c d e f g : Option Ent), ρ = [some (.dat (.tup (P.map dTm))), some (.dat (dpt pt)), some (.dat (dq (ev pt pre))), c, d, e, f, g] ∧ bz (67 * pre.length) (ev pt pre) ∧ θ' = θ) P ?_ ?_ _ _ ⟨none, none, none, none, none, rfl, bz0, rfl⟩
  · rintro ρ θ1 ⟨c, d, e, f, g, rfl, _, rfl⟩
    simp! [true_and]
    exact q
  · rintro pre p post ρ θ1 e1 ⟨c, d, e, f, g, rfl, bp, rfl⟩
    refine ⟨_, bT2 3 4 p _, ?_⟩
    have hpP : p ∈ P := by
      rw [e1]
      simp
    have yo := zip_ok (ok p hpP) (fun x hx => s p hpP x hx) hp
    have lz : (p.1.zip pt).length ≤ 3 := by
      rw [List.length_zip]
      omega
    have lpre : pre.length < 6 := by
      have := congrArg List.length e1
      rw [List.length_append, List.length_cons] at this
      omega
    have eP := pairs_zip p.1 pt
    simp! [dpt, keyD, eP]
    refine for_map (fun y : Int × Rat => .tup [.int y.1, dq y.2]) (fun pr ρ θ' => ∃ (f g : Option Ent), ρ = [some (.dat (.tup (P.map dTm))), some (.dat (dpt pt)), some (.dat (dq (ev pt pre))), some (.dat (keyD p.1)), some (.dat (dq p.2)), some (.dat (dq (p.2 * mz pr))), f, g] ∧ θ' = θ1) (p.1.zip pt) ?_ ?_ _ _ ⟨f, g, by
        rw [show p.2 * mz [] = p.2 from Rat.mul_one _]
        rfl, rfl⟩
    · rintro ρ θ2 ⟨f, g, rfl, rfl⟩
      have bm := (hb p hpP).mul (bz_mz yo)
      rw [← mono_zip] at bm ⊢
      simp! [true_and]
      refine add_ok bp bm (by omega) ?_
      rw [← ev_snoc]
      simp! [true_and]
      refine ⟨_, rfl, some (.dat (keyD p.1)), some (.dat (dq p.2)), some (.dat (dq (p.2 * mono pt p.1))), f, g, rfl, ?_⟩
      rw [ev_snoc, List.length_append, List.length_singleton]
      exact (bp.add bm).mono (by omega)
    · rintro pr y po ρ θ2 e2 ⟨f, g, rfl, rfl⟩
      refine ⟨_, bTy 6 7 y _, ?_⟩
      have hy : y ∈ p.1.zip pt := by
        rw [e2]
        simp
      obtain ⟨y0, y4, yb⟩ := yo y hy
      have bpr : bz (12 * pr.length) (mz pr) := bz_mz fun z hz => yo z (by
        rw [e2]
        exact List.mem_append_left _ hz)
      have lpr : pr.length ≤ 3 := by
        have := congrArg List.length e2
        rw [List.length_append, List.length_cons] at this
        omega
      by_cases h0 : y.1 > 0
      · simp! [h0]
        refine power_ok y0 y4 yb ?_
        simp! [true_and]
        refine mul_ok ((hb p hpP).mul bpr) (bz_rp yb y.1.toNat) (by omega) ?_
        simp! [true_and]
        refine ⟨_, rfl, some (.dat (.int y.1)), some (.dat (dq y.2)), ?_⟩
        rw [mz_snoc, Rat.mul_assoc]
      · simp! [h0]
        refine ⟨_, rfl, some (.dat (.int y.1)), some (.dat (dq y.2)), ?_⟩
        rw [mz_snoc, show y.1.toNat = 0 by omega]
        rw [show mz pr * rp y.2 0 = mz pr from Rat.mul_one _]
end Tc


namespace Tc
open PySem PySem.Spec Pd
/-- the law's value -/
theorem law_value_ok {l : Nat} {P : Tl} {pt : List Rat} {θ : Pot} {Q : Ret → Pot → Prop} (hl : l ≤ 3) (w : WF l P) (s : Sm 4 P) (hb : Bz 30 P) (hn : P.length ≤ 6) (hp : ∀ y ∈ pt, bz 3 y) (lp : pt.length = l) (q : Q (.d (dq (ev pt P))) θ) : Gv (m__law_value [.dat (dD P), .dat (dpt pt)] θ) Q := by
  unfold m__law_value r__law_value dD
  simp! [ks_keys]
  refine for_map (fun p : Tm => keyD p.1) (fun pre ρ θ' => ∃ (c d e f g : Option Ent), ρ = [some (.dat (.dct (ksP P) (vsP P))), some (.dat (dpt pt)), some (.dat (dq (ev pt pre))), c, d, e, f, g] ∧ bz (67 * pre.length) (ev pt pre) ∧ θ' = θ) P ?_ ?_ _ _ ⟨none, none, none, none, none, rfl, bz0, rfl⟩
  · rintro ρ θ1 ⟨c, d, e, f, g, rfl, _, rfl⟩
    simp! [true_and]
    exact q
  · rintro pre p post ρ θ1 e1 ⟨c, d, e, f, g, rfl, bp, rfl⟩
    refine ⟨_, bT1 3 _ _, ?_⟩
    have hpP : p ∈ P := by
      rw [e1]
      simp
    have yo := zip_ok (w.ok p hpP) (fun x hx => s p hpP x hx) hp
    have lz : (p.1.zip pt).length ≤ 3 := by
      rw [List.length_zip]
      omega
    have lpre : pre.length < 6 := by
      have := congrArg List.length e1
      rw [List.length_append, List.length_cons] at this
      omega
    have eP := pairs_zip p.1 pt
    have gx : ∀ (ρ : DEnv) (θ : Pot) (Q : Dt → Pot → Prop), Gv (opt (gIxQ (.dct (ksP P) (vsP P)) (keyD p.1)) ρ θ) Q = Q (dq p.2) θ := fun ρ θ Q => gv_ixQd _ _ _ _ (get_P w.nd hpP)
    simp! [gx]
    simp! [dpt, keyD, eP]
    refine for_map (fun y : Int × Rat => .tup [.int y.1, dq y.2]) (fun pr ρ θ' => ∃ (f g h : Option Ent), ρ = [some (.dat (.dct (ksP P) (vsP P))), some (.dat (dpt pt)), some (.dat (dq (ev pt pre))), some (.dat (keyD p.1)), some (.dat (dq (p.2 * mz pr))), f, g, h] ∧ θ' = θ1) (p.1.zip pt) ?_ ?_ _ _ ⟨e, f, g, by
        rw [show p.2 * mz [] = p.2 from Rat.mul_one _]
        rfl, rfl⟩
    · rintro ρ θ2 ⟨f, g, h, rfl, rfl⟩
      have bm := (hb p hpP).mul (bz_mz yo)
      rw [← mono_zip] at bm ⊢
      simp! [true_and]
      refine ladd_ok bp bm (by omega) ?_
      rw [← ev_snoc]
      simp! [true_and]
      refine ⟨_, rfl, some (.dat (keyD p.1)), some (.dat (dq (p.2 * mono pt p.1))), f, g, h, rfl, ?_⟩
      rw [ev_snoc, List.length_append, List.length_singleton]
      exact (bp.add bm).mono (by omega)
    · rintro pr y po ρ θ2 e2 ⟨f, g, h, rfl, rfl⟩
      refine ⟨_, bTy 5 6 y _, ?_⟩
      have hy : y ∈ p.1.zip pt := by
        rw [e2]
        simp
      obtain ⟨y0, y4, yb⟩ := yo y hy
      have bpr : bz (12 * pr.length) (mz pr) := bz_mz fun z hz => yo z (by
        rw [e2]
        exact List.mem_append_left _ hz)
      have lpr : pr.length ≤ 3 := by
        have := congrArg List.length e2
        rw [List.length_append, List.length_cons] at this
        omega
      have b1 : bnd62 y.1 = true := bnd_of (by omega) (by omega)
      simp! [b1, rng0]
      refine for_rangeM (fun i : Nat => Dt.int (0 + i)) y.1.toNat (fun i ρ θ' => ∃ h : Option Ent, ρ = [some (.dat (.dct (ksP P) (vsP P))), some (.dat (dpt pt)), some (.dat (dq (ev pt pre))), some (.dat (keyD p.1)), some (.dat (dq (p.2 * mz pr * rp y.2 i))), some (.dat (.int y.1)), some (.dat (dq y.2)), h] ∧ θ' = θ2) ?_ ?_ _ _ ⟨h, by
          rw [show p.2 * mz pr * rp y.2 0 = p.2 * mz pr from Rat.mul_one _], rfl⟩
      · rintro ρ θ3 ⟨h, rfl, rfl⟩
        refine ⟨_, rfl, some (.dat (.int y.1)), some (.dat (dq y.2)), h, ?_, rfl⟩
        rw [mz_snoc, Rat.mul_assoc]
      · rintro i ρ θ3 hi ⟨h, rfl, rfl⟩
        refine ⟨_, bT1 7 _ _, ?_⟩
        simp! [true_and]
        refine lmul_ok (((hb p hpP).mul bpr).mul (bz_rp yb i)) yb (by omega) ?_
        simp! [true_and]
        refine ⟨_, rfl, some (.dat (.int (0 + (i : Nat)))), ?_⟩
        rw [Rat.mul_assoc (p.2 * mz pr)]
        rfl
end Tc


namespace Tc
open PySem PySem.Spec Pd
/-! ### what is drawn, as a whole -/
theorem accs_facts {l : Nat} {n : Int} : ∀ (ts P : Tl) (m : Nat), (∀ p ∈ ts, PKey l n p.1 ∧ bz 3 p.2) → (∀ p ∈ P, PKey l n p.1) → Bz (4 * m) P → P.length ≤ m →
    (∀ p ∈ ts.foldl accP P, PKey l n p.1) ∧ Bz (4 * (m + ts.length)) (ts.foldl accP P) ∧ (ts.foldl accP P).length ≤ m + ts.length
  | [], P, m, _, h1, h2, h3 => ⟨h1, h2, h3⟩
  | t :: ts, P, m, h, h1, h2, h3 => by
    have ht := h t List.mem_cons_self
    have r := accs_facts ts (accP P t) (m + 1) (fun p hp => h p (List.mem_cons_of_mem _ hp)) (fun p hp => by
      rcases putP_mem hp with z | z
      · exact h1 p z
      · rw [z]
        exact ht.1) (h2.acc ht.2) (Nat.le_trans (putP_len _ _ _) (by omega))
    rw [List.length_cons, show m + (ts.length + 1) = m + 1 + ts.length by omega]
    exact r
/-- the polys that the law draws -/
structure Good (l : Nat) (P : Tl) : Prop where
  l1 : 1 ≤ l
  l3 : l ≤ 3
  n : Nice l P
  len : P.length ≤ 6
  sm : Sm 4 P
  bz : Bz 30 P
  s8 : P.all sm8 = true
  sz : siz (N l P) ≤ 31
theorem Sm.mono {a b : Int} {P : Tl} (h : Sm a P) (hab : a ≤ b) : Sm b P := fun p hp x hx => Int.le_trans (h p hp x hx) hab
theorem sum_le {n : Int} : ∀ {k : List Int}, (∀ x ∈ k, x ≤ n) → k.sum ≤ (k.length : Nat) * n
  | [], _ => by simp
  | x :: k, h => by
    have h1 := h x List.mem_cons_self
    have h2 := sum_le fun y hy => h y (List.mem_cons_of_mem x hy)
    rw [List.sum_cons, List.length_cons]
    have : ((k.length + 1 : Nat) : Int) * n = (k.length : Nat) * n + n := by
      rw [Int.natCast_add, Int.add_mul]
      simp
    omega
def szB (n : Nat) : Nat → Nat
  | 0 => 3
  | l + 1 => 1 + (n + 1) * szB n l
theorem sizs_map {α : Type} {f : α → Dt} {m : Nat} : ∀ {l : List α}, (∀ a ∈ l, siz (f a) ≤ m) → sizs (l.map f) ≤ l.length * m
  | [], _ => Nat.zero_le _
  | a :: l, h => by
    have h1 := h a List.mem_cons_self
    have h2 := sizs_map fun b hb => h b (List.mem_cons_of_mem a hb)
    rw [List.map_cons, List.length_cons, Nat.add_mul]
    simp only [sizs]
    omega
theorem siz_dq (q : Rat) : siz (dq q) = 3 := by
  unfold dq
  simp only [siz, sizs]
theorem siz_N {n : Nat} : ∀ {l : Nat} {P : Tl}, WF l P → Sm n P → siz (N l P) ≤ szB n l
  | 0, P, _, _ => Nat.le_of_eq (siz_dq _)
  | l + 1, P, w, s => by
    show siz (.tup _) ≤ _
    have h := sizs_map (f := fun i : Nat => N l (slice (i : Nat) P)) (l := List.range (mxP P + 1)) (m := szB n l) fun i _ => siz_N (w.slice _) s.slice
    have hm : mxP P ≤ n := s.mx w
    rw [List.length_range] at h
    have h2 : (mxP P + 1) * szB n l ≤ (n + 1) * szB n l := Nat.mul_le_mul_right _ (by omega)
    simp only [siz]
    show _ ≤ 1 + (n + 1) * szB n l
    omega
theorem good_of {l : Nat} {n : Nat} {A : Tl} (h1 : 1 ≤ l) (hl : l ≤ 3) (hn : l * n ≤ 8 ∧ n ≤ 4 ∧ szB n l ≤ 31) (nd : (ksP A).Nodup) (hk : ∀ p ∈ A, PKey l n p.1) (hb : Bz 30 A) (len : A.length ≤ 6) : Good l ((sortP A).filter nz) := by
  have w : WF l A := ⟨nd, fun p hp => (hk p hp).ok (by omega)⟩
  have sub : ∀ p ∈ (sortP A).filter nz, p ∈ A := fun p hp => (sortP_perm nd).mem_iff.mp (List.mem_filter.mp hp).1
  have sn : Sm n ((sortP A).filter nz) := fun p hp x hx => ((hk p (sub p hp)).2 x hx).2
  have nn := nice_told w (by omega)
  refine ⟨h1, hl, nn, ?_, sn.mono (by omega), fun p hp => hb p (sub p hp), ?_, Nat.le_trans (siz_N nn.wf sn) hn.2.2⟩
  · refine Nat.le_trans (List.length_filter_le _ _) ?_
    rw [(sortP_perm nd).length_eq]
    exact len
  · refine List.all_eq_true.mpr fun p hp => decide_eq_true ?_
    have k := hk p (sub p hp)
    have h2 := sum_le fun x hx => (k.2 x hx).2
    rw [k.1] at h2
    have h3 : ((l : Nat) : Int) * (n : Nat) = ((l * n : Nat) : Int) := (Int.natCast_mul l n).symm
    have h2' : p.1.sum ≤ ((l * n : Nat) : Int) := by
      rw [← h3]
      exact h2
    omega
section
variable {l : Nat} {P : Tl} (g : Good l P)
include g
theorem Good.fm : fm l (N l P) = true := fm_N g.n.wf (g.sm.mono (by decide))
theorem Good.pl : Pl (N l P) := Pl_N l fun p hp => (g.bz p hp).mono (by decide)
theorem Good.dep : depD (N l P) ≤ 4 := Nat.le_trans (dep_N l P) (by have := g.l3; omega)
theorem Good.pb : PB l (N l P) = P := by
  have w := TF_wf g.fm
  show (sortP (TF l (N l P))).filter nz = P
  rw [sortP_filter w.nd w.ok nz]
  refine (sortP_one (l := l) (TF_N g.n.wf g.n.hz).symm g.n.wf.nd g.n.wf.ok ?_).symm
  have := sortP_sorted P
  rwa [g.n.so] at this
theorem Good.inB : inB l (N l P) = true := by
  unfold Tc.inB vv
  rw [g.fm, g.pb, g.s8, N_self l g.l3 fun p hp => (g.bz p hp).mono (by decide)]
  rfl
end
end Tc


namespace Tc
open PySem PySem.Spec Pd
section
variable {l : Nat} {P : Tl} (g : Good l P) {L : Int} (eL : L = (l : Nat)) {θ : Pot} {Q : Ret → Pot → Prop}
include g eL
theorem Good.nested_of (q : Q (.d (N l P)) θ) : Gv (m_nested_of [.dat (.int L), .dat (tp P)] θ) Q := nested_of_p eL g.l1 g.l3 g.n g.s8 (g.sm.mono (by decide)) q
theorem Good.poly_of (q : Q (.d (tp P)) θ) : Gv (m_poly_of [.dat (.int L), .dat (.lst (P.map dTm))] θ) Q := poly_of_ok eL g.l1 g.l3 g.n g.s8 g.bz (by decide) q
theorem Good.is_nested (q : Q (.d (.bl true)) θ) : Gv (m_is_nested [.dat (.int L), .dat (N l P)] θ) Q := by
  refine is_nested_ok eL g.l1 g.l3 g.pl (Nat.le_trans g.dep (by decide)) (Nat.le_trans g.sz (by decide)) ?_
  rw [g.inB]
  exact q
theorem Good.back (q : Q (.d (tp P)) θ) : Gv (m_poly_of_nested [.dat (.int L), .dat (N l P)] θ) Q := by
  refine poly_of_nested_ok eL g.l1 g.l3 g.pl (Nat.le_trans g.dep (by decide)) (Nat.le_trans g.sz (by decide)) g.inB ?_
  rw [g.pb]
  exact q
theorem Good.value {pt : List Rat} (lp : pt.length = l) (hp : ∀ y ∈ pt, Tc.bz 3 y) (q : Q (.d (dq (ev pt P))) θ) : Gv (m_value_of_nested [.dat (.int L), .dat (N l P), .dat (dpt pt)] θ) Q := by
  unfold m_value_of_nested r_value_of_nested
  have a1 := g.l1
  have a3 := g.l3
  have hw := want_nested_eq (b := N l P) eL g.l1 g.l3 g.pl (Nat.le_trans g.dep (by decide)) (Nat.le_trans g.sz (by decide)) g.inB
  simp! [letters_eq (show 1 ≤ L by omega) (show L ≤ 3 by omega), hw, want_point_eq (L := L) (pt := pt) (by omega) (by omega) (by omega)]
  refine value_ok l 12 P pt _ _ (by omega) g.l3 g.n.wf g.sm g.bz lp hp ?_
  simp! [true_and]
  exact q
end
theorem Good.value_at {l : Nat} {P : Tl} (g : Good l P) {θ : Pot} {Q : Ret → Pot → Prop} (ne : P ≠ []) {pt : List Rat} (lp : pt.length = l) (hp : ∀ y ∈ pt, Tc.bz 3 y) (q : Q (.d (dq (ev pt P))) θ) : Gv (m_value_at [.dat (tp P), .dat (dpt pt)] θ) Q := by
  unfold m_value_at r_value_at
  have a1 := g.l1
  have a3 := g.l3
  have hb : Bz 64 P := fun p hp => (g.bz p hp).mono (by decide)
  obtain ⟨p, P', rfl⟩ : ∃ p P', P = p :: P' := by
    cases P with
    | nil => exact absurd rfl ne
    | cons p P' => exact ⟨p, P', rfl⟩
  simp! [want_poly_eq g.l1 g.l3 g.n hb g.s8, letters_of_eq g.n hb, want_point_eq (L := (l : Nat)) (pt := pt) (by omega) (by omega) (by omega)]
  refine value_of_ok g.l3 g.n.wf.ok g.sm g.bz g.len hp lp ?_
  simp! [true_and]
  exact q
/-- sums drawn -/
structure Drawn (l : Nat) (A : Tl) : Prop where
  nd : (ksP A).Nodup
  ok : Kok l A
  hz : ∀ p ∈ A, nz p = true
  sm : Sm 4 A
  bz : Bz 30 A
  len : A.length ≤ 6
  good : Good l ((sortP A).filter nz)
theorem Drawn.wf {l : Nat} {A : Tl} (d : Drawn l A) : WF l A := ⟨d.nd, d.ok⟩
theorem Drawn.perm {l : Nat} {A : Tl} (d : Drawn l A) : ((sortP A).filter nz).Perm A := by
  have := (sortP_perm d.nd).filter nz
  rwa [filter_all d.hz] at this
theorem poly_spec {θ : Pot} {L : Int} {l : Nat} {n : Int} (eL : L = (l : Nat)) (h : PotOk θ) (h1 : 1 ≤ l) (hl : l ≤ 3) (hn : 0 ≤ n ∧ n ≤ 4) (hs : l * n.toNat ≤ 8 ∧ szB n.toNat l ≤ 31) : Gv (m__law_poly [.pot, .dat (.int L), .dat (.int 6), .dat (.int n)] θ) fun r θ' => ∃ A : Tl, r = .d (dD A) ∧ Drawn l A ∧ PotOk θ' := by
  unfold m__law_poly r__law_poly
  simp! [true_and]
  refine (terms_spec eL h hl hn).imp ?_
  rintro _ θ1 ⟨ts, rfl, hlen, ht, h1'⟩
  simp! [true_and]
  refine sums_ok hlen (fun p hp => (ht p hp).2) ?_
  simp! [true_and]
  refine ⟨(accs ts).filter nz, rfl, ?_, h1'⟩
  obtain ⟨f1, f2, f3⟩ := accs_facts (l := l) (n := n) ts [] 0 ht (fun p hp => (List.not_mem_nil hp).elim) (fun p hp => (List.not_mem_nil hp).elim) (Nat.le_refl _)
  have f1 : ∀ p ∈ accs ts, PKey l n p.1 := f1
  have f2 : Bz (4 * (0 + ts.length)) (accs ts) := f2
  have f3 : (accs ts).length ≤ 0 + ts.length := f3
  have nd : (ksP (accs ts)).Nodup := accs_nodup ts [] List.nodup_nil
  have sub : ∀ p ∈ (accs ts).filter nz, p ∈ accs ts := fun p hp => (List.mem_filter.mp hp).1
  have b30 : Bz 30 ((accs ts).filter nz) := fun p hp => (f2 p (sub p hp)).mono (by omega)
  have len : ((accs ts).filter nz).length ≤ 6 := Nat.le_trans (List.length_filter_le _ _) (by omega)
  have nt : ((n.toNat : Nat) : Int) = n := by omega
  refine ⟨nodup_filter nd nz, fun p hp => (f1 p (sub p hp)).ok hn.2, fun p hp => (List.mem_filter.mp hp).2, fun p hp x hx => ?_, b30, len, ?_⟩
  · have := (f1 p (sub p hp)).2 x hx
    omega
  · refine good_of (n := n.toNat) h1 hl ⟨hs.1, by omega, hs.2⟩ (nodup_filter nd nz) (fun p hp => ?_) b30 len
    rw [nt]
    exact f1 p (sub p hp)
theorem point_spec {θ : Pot} {L : Int} {l : Nat} (eL : L = (l : Nat)) (hl : l ≤ 3) (h : PotOk θ) : Gv (m__law_point [.pot, .dat (.int L)] θ) fun r θ' => ∃ pt : List Rat, r = .d (dpt pt) ∧ pt.length = l ∧ (∀ y ∈ pt, bz 3 y) ∧ PotOk θ' := by
  unfold m__law_point r__law_point
  have b2 : bnd62 L = true := bnd_of (by omega) (by omega)
  simp! [b2]
  rw [show L.toNat = l by omega, rng0]
  refine for_rangeM (fun i : Nat => Dt.int (0 + i)) l (fun i ρ θ' => ∃ (pt : List Rat) (c : Option Ent), ρ = [some .pot, some (.dat (.int L)), some (.own (pt.map dq)), c] ∧ pt.length = i ∧ (∀ y ∈ pt, bz 3 y) ∧ PotOk θ') ?_ ?_ _ _ ⟨[], none, rfl, rfl, fun p hp => (List.not_mem_nil hp).elim, h⟩
  · rintro ρ θ2 ⟨pt, c, rfl, lt, hp, h2⟩
    simp! [true_and]
    exact ⟨pt, rfl, lt, hp, h2⟩
  · rintro i ρ θ2 hi ⟨pt, c, rfl, lt, hp, h2⟩
    refine ⟨_, bT1 3 _ _, ?_⟩
    simp! [true_and]
    refine (ratio_spec h2).imp ?_
    rintro _ θ4 ⟨q, rfl, bq, h4⟩
    have lb := lst_big dq (show pt.length ≤ 200 by omega)
    simp! [lb]
    refine ⟨_, rfl, pt ++ [q], some (.dat (.int (0 + (i : Nat)))), ?_, by rw [List.length_append, lt]; rfl, fun y hy => ?_, h4⟩
    · rw [List.map_append]
      rfl
    · rcases List.mem_append.mp hy with z | z
      · exact hp y z
      · rw [List.mem_singleton.mp z]
        exact bq
end Tc


namespace Tc
open PySem PySem.Spec Pd
/-! ### bent values -/
structure BentOk (v d : Dt) : Prop where
  p : Pl d
  dp : depD d ≤ depD v + 3
  s : siz d ≤ 2 * siz v + 12
theorem odd_pick : ∀ d ∈ ([.non, .int 0, .bl true, .tup [.int 0, .int 1], .tup [.int 1, .int 1], .tup [.int 2, .int 4], .tup [], .tup [.tup [.int 0, .int 1]], .tup [.tup [.int 1, .int 1]], .tup [.int 0, .bl true]] : List Dt), Pl d ∧ depD d ≤ 2 ∧ siz d ≤ 12 := by
  intro d hd
  simp only [List.mem_cons, List.not_mem_nil, or_false] at hd
  rcases hd with rfl | rfl | rfl | rfl | rfl | rfl | rfl | rfl | rfl | rfl <;> (refine ⟨?_, ?_, ?_⟩ <;> simp only [Pl, Pls, depD, deps, siz, sizs] <;> decide +kernel)
theorem sizs_cons (d : Dt) (l : List Dt) : sizs (d :: l) = siz d + sizs l := by simp only [sizs]
theorem sizs_nil : sizs [] = 0 := by simp only [sizs]
/-- a tuple put together of so many parts -/
theorem bent_of {ds l : List Dt} (h : ∀ d ∈ l, Pl d ∧ depD d ≤ depD (.tup ds) + 2) (hs : sizs l + 1 ≤ 2 * siz (.tup ds) + 12) (t : Bool) : BentOk (.tup ds) (if t = true then .tup l else .lst l) := by
  have h1 : Pls l := Pls_of fun d hd => (h d hd).1
  have h2 : deps l ≤ depD (.tup ds) + 2 := dep_le fun d hd => (h d hd).2
  cases t with
  | true =>
    refine ⟨?_, ?_, ?_⟩
    · show Pl (.tup l)
      simp only [Pl]
      exact h1
    · show depD (.tup l) ≤ _
      rw [show depD (.tup l) = deps l + 1 by simp only [depD]]
      omega
    · show siz (.tup l) ≤ _
      rw [show siz (.tup l) = sizs l + 1 by simp only [siz]]
      exact hs
  | false =>
    refine ⟨?_, ?_, ?_⟩
    · show Pl (.lst l)
      simp only [Pl]
      exact h1
    · show depD (.lst l) ≤ _
      rw [show depD (.lst l) = deps l + 1 by simp only [depD]]
      omega
    · show siz (.lst l) ≤ _
      rw [show siz (.lst l) = sizs l + 1 by simp only [siz]]
      exact hs
theorem cut_last (l : List Dt) (h : l ≠ []) : cutD l (some (-1)) none = l.drop (l.length - 1) := by
  have h1 : 1 ≤ l.length := by
    cases l with
    | nil => exact absurd rfl h
    | cons a b => exact Nat.succ_le_succ (Nat.zero_le _)
  unfold cutD
  have e : HT.sIx l.length 0 (some (-1)) = l.length - 1 := by
    show (if (-1 : Int) < 0 then ((-1 : Int) + (l.length : Int)).toNat else min (-1 : Int).toNat l.length) = _
    rw [if_pos (by decide)]
    omega
  rw [e, HT.sIx_none, List.take_of_length_le (by rw [List.length_drop]; omega)]
theorem bent_step {recm : Mir} {ds : List Dt} {θ : Pot} (h0 : ds ≠ []) (pd : Pl (.tup ds)) (hs : siz (.tup ds) ≤ 8000) (hd : depD (.tup ds) ≤ 50) (hp : PotOk θ)
    (H : ∀ es θ, .tup es ∈ ds → es ≠ [] → PotOk θ → Gv (recm [.pot, .dat (.tup es)] θ) fun r θ' => ∃ d, r = .d d ∧ BentOk (.tup es) d ∧ PotOk θ') :
    Gv (Pd.mFn 6 (r__law_bent recm) [.pot, .dat (.tup ds)] θ) fun r θ' => ∃ d, r = .d d ∧ BentOk (.tup ds) d ∧ PotOk θ' := by
  unfold r__law_bent
  simp! [true_and]
  refine pick_mem hp (by decide) (by decide) fun odd hodd θ1 hp1 => ?_
  obtain ⟨o1, o2, o3⟩ := odd_pick odd hodd
  have gl : ∀ (ρ : DEnv) (θ : Pot) (Q : Dt → Pot → Prop), Gv (opt (gLen [.tup ds]) ρ θ) Q = Q (.int (ds.length : Nat)) θ := fun ρ θ Q => gv_lenT ds
  have l0 : 0 < ds.length := by
    cases ds with
    | nil => exact absurd rfl h0
    | cons a b => exact Nat.succ_pos _
  have ll : ds.length ≤ 8000 := by
    have := len_siz ds
    simp only [siz] at hs
    omega
  simp! [true_and]
  refine (draw_spec hp1 (by decide) (by decide)).imp ?_
  rintro _ θ2 ⟨way, rfl, w0, w1, hp2⟩
  simp! [gl]
  refine (draw_spec hp2 (by omega) (by omega)).imp ?_
  rintro _ θ3 ⟨at_, rfl, a0, a1, hp3⟩
  obtain ⟨k, rfl⟩ : ∃ k : Nat, at_ = (k : Nat) := ⟨at_.toNat, by omega⟩
  have lk : k < ds.length := by omega
  have gi : ∀ (ρ : DEnv) (θ : Pot) (Q : Dt → Pot → Prop), Gv (opt (gIx (.tup ds) (.int (k : Nat))) ρ θ) Q = Q ds[k] θ := fun ρ θ Q => by
    rw [show gIx (.tup ds) (.int (k : Nat)) = some ds[k] from L2.atI_nat (j := k) (List.getElem?_eq_getElem lk)]
    rfl
  have cu : cutD ds none (some (k : Nat)) = ds.take k := cut_upto ds k (by omega)
  have cf : cutD ds (some ((k : Nat) + 1)) none = ds.drop (k + 1) := cut_from ds (k + 1) (by omega)
  have cl := cut_last ds h0
  have pall : ∀ d ∈ ds, Pl d ∧ depD d ≤ depD (.tup ds) + 2 := fun d hd => by
    have := dep_mem hd
    simp only [Pl] at pd
    refine ⟨Pls_mem pd d hd, ?_⟩
    simp only [depD]
    omega
  have podd : Pl odd ∧ depD odd ≤ depD (.tup ds) + 2 := ⟨o1, by omega⟩
  have s1 := sizs_td ds k
  have s2 := sizs_td ds (k + 1)
  have s3 := sizs_td ds (ds.length - 1)
  have sT : siz (.tup ds) = sizs ds + 1 := by simp only [siz]
  have s4 : sizs (ds.drop (k + 1)) + siz ds[k] = sizs (ds.drop k) := by
    rw [List.drop_eq_getElem_cons lk]
    simp only [sizs]
    omega
  have tk : ∀ n, ∀ d ∈ ds.take n, Pl d ∧ depD d ≤ depD (.tup ds) + 2 := fun n d hd => pall d (List.mem_of_mem_take hd)
  have dk : ∀ n, ∀ d ∈ ds.drop n, Pl d ∧ depD d ≤ depD (.tup ds) + 2 := fun n d hd => pall d (List.mem_of_mem_drop hd)
  have app : ∀ (a b : List Dt), (∀ d ∈ a, Pl d ∧ depD d ≤ depD (.tup ds) + 2) → (∀ d ∈ b, Pl d ∧ depD d ≤ depD (.tup ds) + 2) → ∀ d ∈ a ++ b, Pl d ∧ depD d ≤ depD (.tup ds) + 2 := fun a b ha hb d hd => by
    rcases List.mem_append.mp hd with z | z
    · exact ha d z
    · exact hb d z
  have one : ∀ x : Dt, Pl x ∧ depD x ≤ depD (.tup ds) + 2 → ∀ d ∈ [x], Pl d ∧ depD d ≤ depD (.tup ds) + 2 := fun x hx d hd => by
    rw [List.mem_singleton.mp hd]
    exact hx
  have five : ∀ d ∈ ([.tup (ds ++ [odd]), .tup (ds.take k ++ ds.drop (k + 1)), .tup (ds.take k ++ [odd] ++ ds.drop (k + 1)), .lst ds, .tup (ds ++ ds.drop (ds.length - 1))] : List Dt), BentOk (.tup ds) d := by
    intro d hd
    simp only [List.mem_cons, List.not_mem_nil, or_false] at hd
    rcases hd with rfl | rfl | rfl | rfl | rfl
    · refine bent_of (l := ds ++ [odd]) (app _ _ pall (one _ podd)) ?_ true
      rw [sizs_app, sizs_cons, sizs_nil]
      omega
    · refine bent_of (l := ds.take k ++ ds.drop (k + 1)) (app _ _ (tk _) (dk _)) ?_ true
      rw [sizs_app]
      omega
    · refine bent_of (l := ds.take k ++ [odd] ++ ds.drop (k + 1)) (app _ _ (app _ _ (tk _) (one _ podd)) (dk _)) ?_ true
      rw [sizs_app, sizs_app, sizs_cons, sizs_nil]
      omega
    · refine bent_of (l := ds) pall ?_ false
      omega
    · refine bent_of (l := ds ++ ds.drop (ds.length - 1)) (app _ _ pall (dk _)) ?_ true
      rw [sizs_app]
      omega
  have hmem : ds[k] ∈ ds := List.getElem_mem lk
  have pk := pall _ hmem
  have gt := gv_isiT pk.1
  by_cases hw : way = 0
  · cases ho : okT ds[k] with
    | false =>
        simp! [gi, hw, gt, ho, cu, cf, cl]
        refine ⟨by unfold bigL; omega, by rw [List.length_take, List.length_drop]; unfold bigL; omega, by rw [List.length_take]; unfold bigL; omega, by rw [List.length_append, List.length_take, List.length_singleton, List.length_drop]; unfold bigL; omega, by rw [List.length_drop]; unfold bigL; omega, ?_⟩
        refine pick_mem hp3 (Nat.succ_pos _) (show 5 ≤ 100 by decide) fun d hd θ4 hp4 => ?_
        simp! [true_and]
        exact ⟨d, rfl, five d hd, hp4⟩
    | true =>
      obtain ⟨es, ee⟩ : ∃ es, ds[k] = .tup es := by
        cases hdk : ds[k] with
        | tup es => exact ⟨es, rfl⟩
        | _ =>
          rw [hdk] at ho
          cases ho
      have gi : ∀ (ρ : DEnv) (θ : Pot) (Q : Dt → Pot → Prop), Gv (opt (gIx (.tup ds) (.int (k : Nat))) ρ θ) Q = Q (.tup es) θ := fun ρ θ Q => by rw [gi, ee]
      rw [ee] at gt ho hmem pk s4
      have dn := deq_nil pk.1 (by omega)
      have gn := neT dn
      by_cases hes : es = []
      · rw [decide_eq_true hes] at gn
        simp! [gi, hw, gt, ho, gn, cu, cf, cl]
        refine ⟨by unfold bigL; omega, by rw [List.length_take, List.length_drop]; unfold bigL; omega, by rw [List.length_take]; unfold bigL; omega, by rw [List.length_append, List.length_take, List.length_singleton, List.length_drop]; unfold bigL; omega, by rw [List.length_drop]; unfold bigL; omega, ?_⟩
        refine pick_mem hp3 (Nat.succ_pos _) (show 5 ≤ 100 by decide) fun d hd θ4 hp4 => ?_
        simp! [true_and]
        exact ⟨d, rfl, five d hd, hp4⟩
      · rw [decide_eq_false hes] at gn
        simp! [gi, hw, gt, ho, gn, cu, cf, cl]
        have dep1 : depD (.tup es) + 1 ≤ depD (.tup ds) := by
          have := dep_mem hmem
          rw [show depD (.tup ds) = deps ds + 1 by simp only [depD]]
          omega
        refine (H es _ hmem hes hp3).imp ?_
        rintro _ θ4 ⟨d, rfl, bd, hp4⟩
        simp! [cf]
        refine ⟨by rw [List.length_take]; unfold bigL; omega, by rw [List.length_append, List.length_take, List.length_singleton, List.length_drop]; unfold bigL; omega, ?_⟩
        have b3 := bd.s
        have b2 := bd.dp
        refine ⟨_, rfl, bent_of (l := ds.take k ++ [d] ++ ds.drop (k + 1)) (app _ _ (app _ _ (tk _) (one _ ⟨bd.p, by omega⟩)) (dk _)) ?_ true, hp4⟩
        rw [sizs_app, sizs_app, sizs_cons, sizs_nil]
        omega
  · simp! [gi, hw, cu, cf, cl]
    refine ⟨by unfold bigL; omega, by rw [List.length_take, List.length_drop]; unfold bigL; omega, by rw [List.length_take]; unfold bigL; omega, by rw [List.length_append, List.length_take, List.length_singleton, List.length_drop]; unfold bigL; omega, by rw [List.length_drop]; unfold bigL; omega, ?_⟩
    refine pick_mem hp3 (Nat.succ_pos _) (show 5 ≤ 100 by decide) fun d hd θ4 hp4 => ?_
    simp! [true_and]
    exact ⟨d, rfl, five d hd, hp4⟩
theorem bent_ok : ∀ (m f : Nat) (ds : List Dt) (θ : Pot), m < f → ds ≠ [] → Pl (.tup ds) → siz (.tup ds) ≤ 8000 → depD (.tup ds) ≤ m + 1 → m ≤ 40 → PotOk θ → Gv (m__law_bent f [.pot, .dat (.tup ds)] θ) fun r θ' => ∃ d, r = .d d ∧ BentOk (.tup ds) d ∧ PotOk θ'
  | m, f + 1, ds, θ, hf, h0, pd, hs, hd, hm, hp => by
    refine bent_step (recm := m__law_bent f) h0 pd hs (by omega) hp fun es θ hes ne hp' => ?_
    have h1 := dep_mem hes
    have h2 : depD (.tup ds) = deps ds + 1 := by simp only [depD]
    have h3 : depD (.tup es) = deps es + 1 := by simp only [depD]
    have h4 := siz_mem hes
    have h5 : siz (.tup ds) = sizs ds + 1 := by simp only [siz]
    have h6 : Pl (.tup es) := by
      simp only [Pl] at pd
      exact Pls_mem pd _ hes
    match m, hf, hd, hm with
    | 0, _, hd, _ => omega
    | m + 1, hf, hd, hm => exact bent_ok m f es θ (by omega) ne h6 (by omega) (by omega) (by omega) hp'
end Tc


namespace Tc
open PySem PySem.Spec Pd
/-! ### the law -/
theorem repr2_ok {d : Dt} (h : okD d) (h1 : depD d ≤ 60) (h2 : costD d ≤ 16777216) : ∃ s, ∀ (ρ : DEnv) (θ : Pot) (Q : Dt → Pot → Prop), Gv (opt (gRepr2 [d]) ρ θ) Q = Q (.str s) θ := by
  obtain ⟨s, e⟩ := repr_ok h h1 h2
  refine ⟨s, fun ρ θ Q => ?_⟩
  have e1 := e [] (0, 0) fun x _ => x = .str s
  have eg : gRepr [d] = some (.str s) := by
    cases hg : gRepr [d] with
    | none =>
      rw [hg] at e1
      have e1 : False = (Dt.str s = .str s) := e1
      exact (cast e1.symm rfl : False).elim
    | some x =>
      rw [hg] at e1
      have e1 : (x = .str s) = (Dt.str s = .str s) := e1
      rw [cast e1.symm rfl]
  have e2 : gRepr2 [d] = some (.str s) := by
    unfold gRepr2
    rw [eg]
    rfl
  rw [e2]
  rfl
theorem bls_repr (l : List Bool) (h : l.length ≤ 8) : ∃ s, ∀ (ρ : DEnv) (θ : Pot) (Q : Dt → Pot → Prop), Gv (opt (gRepr2 [.lst (l.map Dt.bl)]) ρ θ) Q = Q (.str s) θ := by
  have ok : ∀ l : List Bool, oks (l.map Dt.bl) := fun l => by
    induction l with
    | nil => simp only [List.map_nil, oks]
    | cons b l ih => simp only [List.map_cons, oks, okD, ih, and_self]
  have dp : ∀ l : List Bool, deps (l.map Dt.bl) = 0 := fun l => by
    induction l with
    | nil => simp only [List.map_nil, deps]
    | cons b l ih => simp only [List.map_cons, deps, depD, ih]; rfl
  have co : ∀ l : List Bool, costs (l.map Dt.bl) ≤ 20 * l.length := fun l => by
    induction l with
    | nil => simp only [List.map_nil, costs]; exact Nat.zero_le _
    | cons b l ih =>
      simp only [List.map_cons, costs, costD, List.length_cons]
      omega
  refine repr2_ok ?_ ?_ ?_
  · simp only [okD]
    exact ok l
  · simp only [depD, dp]
    decide
  · have := co l
    simp only [costD]
    omega
theorem str_eq (s : Str) (ρ : DEnv) (θ : Pot) (Q : Dt → Pot → Prop) : Gv (opt (gEq (.str s) (.str s)) ρ θ) Q = Q (.bl true) θ := by
  have e : gEq (.str s) (.str s) = some (.bl (decide (s = s))) := rfl
  rw [e, decide_eq_true rfl]
  rfl
theorem str_ne (s : Str) (ρ : DEnv) (θ : Pot) (Q : Dt → Pot → Prop) : Gv (opt (gNe (.str s) (.str s)) ρ θ) Q = Q (.bl false) θ := by
  have e : gNe (.str s) (.str s) = some (.bl (!decide (s = s))) := rfl
  rw [e, decide_eq_true rfl]
  rfl
/-- letters, and how deep -/
def LN (L n : Int) (l : Nat) : Prop := L = (l : Nat) ∧ ((L = 1 ∧ n = 4) ∨ (L = 2 ∧ n = 2) ∨ (L = 3 ∧ n = 1))
theorem deep_eq {L n : Int} {l : Nat} (h : LN L n l) (a : Option Ent) (ρ : DEnv) (θ : Pot) (Q : Dt → Pot → Prop) : Gv (Pd.mIte (Pd.mBool (Pd.mOp Pd.gGt (Pd.mVar 1) (Pd.ret (.int 1)))) (Pd.mOp Pd.gDiv (Pd.ret (.int 4)) (Pd.mVar 1)) (Pd.ret (.int 4)) (a :: some (.dat (.int L)) :: ρ) θ) Q = Q (.int n) θ := by
  rcases h.2 with ⟨rfl, rfl⟩ | ⟨rfl, rfl⟩ | ⟨rfl, rfl⟩ <;> rfl
theorem LN.one {L n : Int} {l : Nat} (h : LN L n l) : 1 ≤ l := by
  obtain ⟨h1, h2⟩ := h
  omega
theorem LN.three {L n : Int} {l : Nat} (h : LN L n l) : l ≤ 3 := by
  obtain ⟨h1, h2⟩ := h
  omega
theorem LN.n4 {L n : Int} {l : Nat} (h : LN L n l) : 0 ≤ n ∧ n ≤ 4 := by
  obtain ⟨h1, h2⟩ := h
  omega
theorem LN.sz {L n : Int} {l : Nat} (h : LN L n l) : l * n.toNat ≤ 8 ∧ szB n.toNat l ≤ 31 := by
  obtain ⟨h1, h2⟩ := h
  rcases h2 with ⟨rfl, rfl⟩ | ⟨rfl, rfl⟩ | ⟨rfl, rfl⟩
  · obtain rfl : l = 1 := by omega
    decide
  · obtain rfl : l = 2 := by omega
    decide
  · obtain rfl : l = 3 := by omega
    decide
theorem dq_ne (q : Rat) (ρ : DEnv) (θ : Pot) (Q : Dt → Pot → Prop) : Gv (opt (gNe (dq q) (dq q)) ρ θ) Q = Q (.bl false) θ := by
  unfold dq
  rw [ne_ii, decide_eq_true rfl, decide_eq_true rfl]
  rfl
theorem N_cons {l : Nat} (h : 1 ≤ l) (P : Tl) : ∃ ds, N l P = .tup ds ∧ ds ≠ [] := by
  cases l with
  | zero => omega
  | succ l =>
    refine ⟨_, rfl, fun e => ?_⟩
    have := congrArg List.length e
    rw [List.length_map, List.length_range] at this
    exact absurd this (Nat.succ_ne_zero _)
theorem filter_idem (A : Tl) : (A.filter nz).filter nz = A.filter nz := filter_all fun p hp => (List.mem_filter.mp hp).2
theorem told_PB {l : Nat} {b : Dt} (h : fm l b = true) : (sortP ((TF l b).filter nz)).filter nz = PB l b := by
  have w := TF_wf h
  rw [← sortP_filter w.nd w.ok nz]
  exact filter_idem _
/-- the odd values at the law's end -/
def odds : List Dt := [.non, .int 0, .str (Str.ofString ""), .lst [], .tup [], .tup [.int 0, .int 1], .tup [.tup [.int 1, .int 1], .tup [.int 0, .int 1]], .tup [.tup [.tup [.int 0, .int 1]]]]
theorem odds_ok : ∀ d ∈ odds, Pl d ∧ depD d ≤ 60 ∧ siz d ≤ 180 := by
  intro d hd
  simp only [odds, List.mem_cons, List.not_mem_nil, or_false] at hd
  rcases hd with rfl | rfl | rfl | rfl | rfl | rfl | rfl | rfl <;> (refine ⟨?_, ?_, ?_⟩ <;> simp only [Pl, Pls, depD, deps, siz, sizs] <;> decide +kernel)
theorem right_ok {θ : Pot} (h : PotOk θ) : Gv (m__law_right [.pot] θ) fun r _ => r = .d (.bl true) := by
  unfold m__law_right r__law_right
  simp! [true_and]
  refine pick_mem h (by decide) (by decide) fun d hd θ1 h1 => ?_
  obtain ⟨L, n, l, rfl, ln⟩ : ∃ (L n : Int) (l : Nat), d = .int L ∧ LN L n l := by
    simp only [List.mem_cons, List.not_mem_nil, or_false] at hd
    rcases hd with rfl | rfl | rfl | rfl
    · exact ⟨1, 4, 1, rfl, rfl, Or.inl ⟨rfl, rfl⟩⟩
    · exact ⟨2, 2, 2, rfl, rfl, Or.inr (Or.inl ⟨rfl, rfl⟩)⟩
    · exact ⟨2, 2, 2, rfl, rfl, Or.inr (Or.inl ⟨rfl, rfl⟩)⟩
    · exact ⟨3, 1, 3, rfl, rfl, Or.inr (Or.inr ⟨rfl, rfl⟩)⟩
  have eL := ln.1
  have l1 := ln.one
  have l3 := ln.three
  simp! [-gv_ite, deep_eq ln]
  refine (poly_spec eL h1 l1 l3 ln.n4 ln.sz).imp ?_
  rintro _ θ2 ⟨A, rfl, dr, h2⟩
  simp! [true_and]
  refine law_told_ok dr.wf l1 (by have := dr.len; omega) ?_
  have g := dr.good
  have pA := dr.perm
  have eN : N l ((sortP A).filter nz) = N l A := N_perm pA dr.wf
  have ev1 : ∀ pt, ev pt ((sortP A).filter nz) = ev pt A := fun pt => ev_perm pA
  generalize (sortP A).filter nz = P at g pA eN ev1 ⊢
  simp! [true_and]
  refine lnested_ok l 12 L A _ _ (by omega) eL l3 dr.wf (dr.sm.mono (by decide)) (by have := dr.len; omega) ?_
  rw [← eN]
  simp! [true_and]
  refine g.nested_of eL ?_
  have lo : ∀ (ρ : DEnv) (θ : Pot) (Q : List Dt → Pot → Prop), Gv (opt (listOf [tp P]) ρ θ) Q = Q (P.map dTm) θ := fun ρ θ Q => rfl
  have hb : Bz 64 P := fun p hp => (g.bz p hp).mono (by decide)
  have gn1 : ∀ (ρ : DEnv) (θ : Pot) (Q : Dt → Pot → Prop), Gv (opt (gNe (tp P) (tp P)) ρ θ) Q = Q (.bl false) θ := neT (tp_self g.n.wf.ok hb)
  have gn2 : ∀ (ρ : DEnv) (θ : Pot) (Q : Dt → Pot → Prop), Gv (opt (gNe (N l P) (N l P)) ρ θ) Q = Q (.bl false) θ := by
    have e := N_self l l3 hb
    obtain ⟨ds, en⟩ := N_tup l P
    rw [en] at e ⊢
    exact neT e
  simp! [lo]
  refine g.poly_of eL ?_
  simp! [gn1, gn2]
  refine g.nested_of eL ?_
  simp! [gn1, gn2]
  refine g.is_nested eL ?_
  simp! [isn2_b]
  refine g.back eL ?_
  simp! [gn1]
  rw [rng0]
  refine for_rangeM (fun i : Nat => Dt.int (0 + i)) 3 (fun i ρ θ' => ∃ a b c : Option Dt, ρ = [some .pot, some (.dat (.int L)), some (.dat (dD A)), some (.dat (tp P)), some (.dat (N l P)), some (.dat (N l P)), oD a, oD b, oD c, none, none, none] ∧ PotOk θ') ?_ ?_ _ _ ⟨none, none, none, rfl, h2⟩
  · rintro ρ θ3 ⟨a, b, c, rfl, h3⟩
    simp! [true_and]
    rw [rng0]
    have bo : ∀ θ, PotOk θ → Gv (m__law_bent 12 [.pot, .dat (N l P)] θ) fun r θ' => ∃ d, r = .d d ∧ (Pl d ∧ depD d ≤ 60 ∧ siz d ≤ 180) ∧ PotOk θ' := fun θ hp => by
      obtain ⟨ds, en, ne⟩ := N_cons l1 P
      have p1 := g.pl
      have p2 := g.dep
      have p3 := g.sz
      rw [en] at p1 p2 p3 ⊢
      refine (bent_ok 4 12 ds θ (by decide) ne p1 (by omega) (by omega) (by decide) hp).imp ?_
      rintro r θ' ⟨d, rfl, bd, hp'⟩
      have b2 := bd.dp
      have b3 := bd.s
      exact ⟨d, rfl, ⟨bd.p, by omega, by omega⟩, hp'⟩
    have iq : ∀ d, (Pl d ∧ depD d ≤ 60 ∧ siz d ≤ 180) → ∀ (θ : Pot) (Q : Ret → Pot → Prop), Gv (m_is_nested [.dat (.int L), .dat d] θ) Q = Q (.d (.bl (inB l d))) θ := fun d hd θ Q => gvE (fun Q q => is_nested_ok eL l1 l3 hd.1 hd.2.1 hd.2.2 q) Q
    have lq : ∀ d, (Pl d ∧ depD d ≤ 60 ∧ siz d ≤ 180) → ∀ (θ : Pot) (Q : Ret → Pot → Prop), Gv (m__law_is_nested [.dat d, .dat (.int L)] θ) Q = Q (.d (.bl (inB l d))) θ := fun d hd θ Q => gvE (fun Q q => lis_nested_ok eL l1 l3 hd.1 hd.2.1 hd.2.2 q) Q
    refine for_rangeM (fun i : Nat => Dt.int (0 + i)) 4 (fun i ρ θ' => ∃ a b c d e : Option Dt, ρ = [some .pot, some (.dat (.int L)), some (.dat (dD A)), some (.dat (tp P)), some (.dat (N l P)), some (.dat (N l P)), oD a, oD b, oD c, oD d, oD e, none] ∧ PotOk θ') ?_ ?_ _ _ ⟨a, b, c, none, none, rfl, h3⟩
    · rintro ρ θ4 ⟨a, b, c, d, e, rfl, h4⟩
      have q := fun d (hd : d ∈ odds) => iq d (odds_ok d hd)
      have r := fun d (hd : d ∈ odds) => lq d (odds_ok d hd)
      have q0 := q .non (by simp [odds])
      have q1 := q (.int 0) (by simp [odds])
      have q2 := q (.str (Str.ofString "")) (by simp [odds])
      have q3 := q (.lst []) (by simp [odds])
      have q4 := q (.tup []) (by simp [odds])
      have q5 := q (.tup [.int 0, .int 1]) (by simp [odds])
      have q6 := q (.tup [.tup [.int 1, .int 1], .tup [.int 0, .int 1]]) (by simp [odds])
      have q7 := q (.tup [.tup [.tup [.int 0, .int 1]]]) (by simp [odds])
      have r0 := r .non (by simp [odds])
      have r1 := r (.int 0) (by simp [odds])
      have r2 := r (.str (Str.ofString "")) (by simp [odds])
      have r3 := r (.lst []) (by simp [odds])
      have r4 := r (.tup []) (by simp [odds])
      have r5 := r (.tup [.int 0, .int 1]) (by simp [odds])
      have r6 := r (.tup [.tup [.int 1, .int 1], .tup [.int 0, .int 1]]) (by simp [odds])
      have r7 := r (.tup [.tup [.tup [.int 0, .int 1]]]) (by simp [odds])
      obtain ⟨s, rs⟩ := bls_repr [inB l .non, inB l (.int 0), inB l (.str (Str.ofString "")), inB l (.lst []), inB l (.tup []), inB l (.tup [.int 0, .int 1]), inB l (.tup [.tup [.int 1, .int 1], .tup [.int 0, .int 1]]), inB l (.tup [.tup [.tup [.int 0, .int 1]]])] (show 8 ≤ 8 by decide)
      have rs : ∀ (ρ : DEnv) (θ : Pot) (Q : Dt → Pot → Prop), Gv (opt (gRepr2 [.lst [.bl (inB l .non), .bl (inB l (.int 0)), .bl (inB l (.str (Str.ofString ""))), .bl (inB l (.lst [])), .bl (inB l (.tup [])), .bl (inB l (.tup [.int 0, .int 1])), .bl (inB l (.tup [.tup [.int 1, .int 1], .tup [.int 0, .int 1]])), .bl (inB l (.tup [.tup [.tup [.int 0, .int 1]]]))]]) ρ θ) Q = Q (.str s) θ := rs
      simp! [hide_oD, q0, q1, q2, q3, q4, q5, q6, q7, r0, r1, r2, r3, r4, r5, r6, r7, rs, str_eq]
    · rintro i ρ θ4 hi ⟨a, b, c, d, e, rfl, h4⟩
      refine ⟨_, bT1 6 _ _, ?_⟩
      simp! [true_and]
      refine (bo _ h4).imp ?_
      rintro _ θ5 ⟨d, rfl, hd, h5⟩
      have iqd := iq d hd
      have lqd := lq d hd
      obtain ⟨s, rs⟩ := bls_repr [inB l d, inB l d] (show 2 ≤ 8 by decide)
      have rs : ∀ (ρ : DEnv) (θ : Pot) (Q : Dt → Pot → Prop), Gv (opt (gRepr2 [.lst [.bl (inB l d), .bl (inB l d)]]) ρ θ) Q = Q (.str s) θ := rs
      simp! [iqd, lqd, rs, str_ne]
      cases hi : inB l d with
      | false =>
        simp! [true_and]
        exact ⟨_, rfl, some (.int (0 + (i : Nat))), b, c, some d, some (.bl false), rfl, h5⟩
      | true =>
        have hf : fm l d = true := (Bool.and_eq_true_iff.mp hi).1
        have ts := TF_siz l hf
        have lf := List.length_filter_le nz (TF l d)
        have pn := PB_nice hf (by have := hd.2.2; omega)
        have gn3 : ∀ (ρ : DEnv) (θ : Pot) (Q : Dt → Pot → Prop), Gv (opt (gNe (tp (PB l d)) (tp (PB l d))) ρ θ) Q = Q (.bl false) θ := neT (tp_self pn.wf.ok (PB_bz hf hd.1))
        simp! [true_and]
        refine poly_of_nested_ok eL l1 l3 hd.1 hd.2.1 hd.2.2 hi ?_
        simp! [true_and]
        refine lterms_ok l 12 L d _ _ (by omega) eL l3 hd.1 hd.2.1 (by have := hd.2.2; omega) ?_
        rw [toD_t hf]
        simp! [true_and]
        refine law_told_ok ((TF_wf hf).filter nz) l1 (by have := hd.2.2; omega) ?_
        rw [told_PB hf]
        simp! [gn3]
        exact ⟨_, rfl, some (.int (0 + (i : Nat))), b, c, some d, some (.bl true), rfl, h5⟩
  · rintro i ρ θ3 hi ⟨a, b, c, rfl, h3⟩
    refine ⟨_, bT1 6 _ _, ?_⟩
    simp! [true_and]
    refine (point_spec eL l3 h3).imp ?_
    rintro _ θ4 ⟨pt, rfl, lp, hp, h4⟩
    simp! [true_and]
    refine law_value_ok l3 dr.wf dr.sm dr.bz dr.len hp lp ?_
    simp! [true_and]
    refine g.value eL lp hp ?_
    rw [ev1]
    simp! [dq_ne]
    refine g.value eL lp hp ?_
    rw [ev1]
    have gnil := neT (tp_nil g.n.wf.ok hb)
    have gnil : ∀ (ρ : DEnv) (θ : Pot) (Q : Dt → Pot → Prop), Gv (opt (gNe (tp P) (.tup [])) ρ θ) Q = Q (.bl (!decide (P = []))) θ := gnil
    by_cases hP : P = []
    · rw [decide_eq_true hP] at gnil
      simp! [dq_ne, gnil]
      exact ⟨_, rfl, some (.int (0 + (i : Nat))), some (dpt pt), some (dq (ev pt A)), rfl, h4⟩
    · rw [decide_eq_false hP] at gnil
      simp! [dq_ne, gnil]
      refine g.value_at hP lp hp ?_
      rw [ev1]
      simp! [dq_ne]
      exact ⟨_, rfl, some (.int (0 + (i : Nat))), some (dpt pt), some (dq (ev pt A)), rfl, h4⟩
end Tc


namespace Tc
open PySem PySem.Spec Pd
theorem pot_spec (ns : List Int) (θ : Pot) : Gv (m__law_pot [.dat (.lst (ns.map Dt.int)), .dat (.int 0)] θ) fun r _ => ∃ a b, r = .o [.int a, .int b] ∧ PotOk (a, b) := by
  unfold m__law_pot r__law_pot
  have e1 : ∀ i : Int, i.fmod 2147483549 = i % 2147483549 := fun i => fm_pos (by decide)
  have e2 : ∀ i : Int, i.fmod 2147483563 = i % 2147483563 := fun i => fm_pos (by decide)
  have fin : ∀ c : Int, PotOk (if c - 1000000000000000000 > 0 then c - 1000000000000000000 else 0, (c % 2147483549 * 48271 + 0 + 1061) % 2147483563 + 1) := fun c => by
    refine ⟨?_, ?_, ?_⟩
    · show 0 ≤ (if c - 1000000000000000000 > 0 then c - 1000000000000000000 else 0)
      split <;> omega
    · show 0 ≤ (c % 2147483549 * 48271 + 0 + 1061) % 2147483563 + 1
      omega
    · show (c % 2147483549 * 48271 + 0 + 1061) % 2147483563 + 1 < 4294967296
      omega
  cases ns with
  | nil =>
    simp! [e1, e2]
    exact ⟨_, _, rfl, fin 1031⟩
  | cons x xs =>
    have ix : ∀ (ρ : DEnv) (θ : Pot) (Q : Dt → Pot → Prop), Gv (opt (gIx (.lst (.int x :: xs.map Dt.int)) (.int 0)) ρ θ) Q = Q (.int x) θ := fun ρ θ Q => by
      have e : gIx (.lst (.int x :: xs.map Dt.int)) (.int 0) = some (.int x) := L2.atI_nat (j := 0) rfl
      rw [e, gv_opt]
    have ln : ∀ (ρ : DEnv) (θ : Pot) (Q : Dt → Pot → Prop), Gv (opt (gLen [.lst (.int x :: xs.map Dt.int)]) ρ θ) Q = Q (.int ((xs.map Dt.int).length + 1 : Nat)) θ := fun ρ θ Q => rfl
    have c0 : (0 : Int) < (((xs.map Dt.int).length + 1 : Nat) : Int) := by omega
    have sm : small ((if x < 0 then -x else x) % 2147483549) = true := small_of (by omega) (by omega)
    simp! [e1, e2, ix, ln, c0, sm]
    exact ⟨_, _, rfl, fin _⟩
theorem law_true (ns : List Int) (hl : ns.length ≤ 63) (θ : Pot) : ∃ θ', m_law [.dat (.lst (ns.map Dt.int))] θ = .ok (.d (.bl true)) θ' := by
  have z : Gv (m_law [.dat (.lst (ns.map Dt.int))] θ) fun r _ => r = .d (.bl true) := by
    unfold m_law r_law
    simp! [gv_lawR]
    refine (pot_spec ns θ).imp ?_
    rintro _ θ1 ⟨a, b, rfl, h⟩
    simp! [true_and]
    refine (right_ok h).imp ?_
    rintro _ θ2 rfl
    simp! [true_and]
  obtain ⟨r, θ', e, rfl⟩ := z.ok
  exact ⟨θ', e⟩
end Tc


namespace Tc
open PySem PySem.Spec PyProof.Rows L2 Pd
theorem tx {K : PySem.W.Frag} {h : Heap} {mg : Str → Option Value} (X : K.In h) (N : h.Ns mainGlobals mg) {w : World} (c : He.SaysX fa fn [] tf ex w h K) : ∃ T : Tx K mg, mg ("law" : Str) = some (.ref T.a_law) := by
  obtain ⟨d__law_pot, D__law_pot⟩ := c.t.d.def_ 0 (d := dd__law_pot) rfl
  obtain ⟨d_is_list, D_is_list⟩ := c.t.d.def_ 1 (d := dd_is_list) rfl
  obtain ⟨d_is_integer, D_is_integer⟩ := c.t.d.def_ 2 (d := dd_is_integer) rfl
  obtain ⟨d_is_count, D_is_count⟩ := c.t.d.def_ 3 (d := dd_is_count) rfl
  obtain ⟨d_is_ratio, D_is_ratio⟩ := c.t.d.def_ 4 (d := dd_is_ratio) rfl
  obtain ⟨d_is_term, D_is_term⟩ := c.t.d.def_ 5 (d := dd_is_term) rfl
  obtain ⟨d_want_many, D_want_many⟩ := c.t.d.def_ 6 (d := dd_want_many) rfl
  obtain ⟨d_want_letters_many, D_want_letters_many⟩ := c.t.d.def_ 7 (d := dd_want_letters_many) rfl
  obtain ⟨d_told_poly, D_told_poly⟩ := c.t.d.def_ 8 (d := dd_told_poly) rfl
  obtain ⟨d_made_ratio, D_made_ratio⟩ := c.t.d.def_ 9 (d := dd_made_ratio) rfl
  obtain ⟨d_add_ratios, D_add_ratios⟩ := c.t.d.def_ 10 (d := dd_add_ratios) rfl
  obtain ⟨d_put_more, D_put_more⟩ := c.t.d.def_ 11 (d := dd_put_more) rfl
  obtain ⟨d_want_at_most, D_want_at_most⟩ := c.t.d.def_ 12 (d := dd_want_at_most) rfl
  obtain ⟨d_degree_of, D_degree_of⟩ := c.t.d.def_ 13 (d := dd_degree_of) rfl
  obtain ⟨d_want_few, D_want_few⟩ := c.t.d.def_ 14 (d := dd_want_few) rfl
  obtain ⟨d_poly_of, D_poly_of⟩ := c.t.d.def_ 15 (d := dd_poly_of) rfl
  obtain ⟨d_letters_of, D_letters_of⟩ := c.t.d.def_ 16 (d := dd_letters_of) rfl
  obtain ⟨d_is_poly_in, D_is_poly_in⟩ := c.t.d.def_ 17 (d := dd_is_poly_in) rfl
  obtain ⟨d_is_any_poly, D_is_any_poly⟩ := c.t.d.def_ 18 (d := dd_is_any_poly) rfl
  obtain ⟨d_want_poly, D_want_poly⟩ := c.t.d.def_ 19 (d := dd_want_poly) rfl
  obtain ⟨d_is_point, D_is_point⟩ := c.t.d.def_ 20 (d := dd_is_point) rfl
  obtain ⟨d_want_point_for, D_want_point_for⟩ := c.t.d.def_ 21 (d := dd_want_point_for) rfl
  obtain ⟨d_mul_ratios, D_mul_ratios⟩ := c.t.d.def_ 22 (d := dd_mul_ratios) rfl
  obtain ⟨d_power_ratio, D_power_ratio⟩ := c.t.d.def_ 23 (d := dd_power_ratio) rfl
  obtain ⟨d_value_of, D_value_of⟩ := c.t.d.def_ 24 (d := dd_value_of) rfl
  obtain ⟨d_value_at, D_value_at⟩ := c.t.d.def_ 25 (d := dd_value_at) rfl
  obtain ⟨d_nested_from, D_nested_from⟩ := c.t.d.def_ 26 (d := dd_nested_from) rfl
  obtain ⟨d_terms_from, D_terms_from⟩ := c.t.d.def_ 27 (d := dd_terms_from) rfl
  obtain ⟨d_poly_from, D_poly_from⟩ := c.t.d.def_ 28 (d := dd_poly_from) rfl
  obtain ⟨d_has_form, D_has_form⟩ := c.t.d.def_ 29 (d := dd_has_form) rfl
  obtain ⟨d_is_nested_of, D_is_nested_of⟩ := c.t.d.def_ 30 (d := dd_is_nested_of) rfl
  obtain ⟨d_is_nested, D_is_nested⟩ := c.t.d.def_ 31 (d := dd_is_nested) rfl
  obtain ⟨d_want_poly_in, D_want_poly_in⟩ := c.t.d.def_ 32 (d := dd_want_poly_in) rfl
  obtain ⟨d_nested_of, D_nested_of⟩ := c.t.d.def_ 33 (d := dd_nested_of) rfl
  obtain ⟨d_want_nested, D_want_nested⟩ := c.t.d.def_ 34 (d := dd_want_nested) rfl
  obtain ⟨d_poly_of_nested, D_poly_of_nested⟩ := c.t.d.def_ 35 (d := dd_poly_of_nested) rfl
  obtain ⟨d_value_from, D_value_from⟩ := c.t.d.def_ 36 (d := dd_value_from) rfl
  obtain ⟨d_value_of_nested, D_value_of_nested⟩ := c.t.d.def_ 37 (d := dd_value_of_nested) rfl
  obtain ⟨d__law_draw, D__law_draw⟩ := c.t.d.def_ 38 (d := dd__law_draw) rfl
  obtain ⟨d__law_pick, D__law_pick⟩ := c.t.d.def_ 39 (d := dd__law_pick) rfl
  obtain ⟨d__law_told, D__law_told⟩ := c.t.d.def_ 40 (d := dd__law_told) rfl
  obtain ⟨d__law_low, D__law_low⟩ := c.t.d.def_ 41 (d := dd__law_low) rfl
  obtain ⟨d__law_add, D__law_add⟩ := c.t.d.def_ 42 (d := dd__law_add) rfl
  obtain ⟨d__law_mul, D__law_mul⟩ := c.t.d.def_ 43 (d := dd__law_mul) rfl
  obtain ⟨d__law_value, D__law_value⟩ := c.t.d.def_ 44 (d := dd__law_value) rfl
  obtain ⟨d__law_ratio, D__law_ratio⟩ := c.t.d.def_ 45 (d := dd__law_ratio) rfl
  obtain ⟨d__law_terms, D__law_terms⟩ := c.t.d.def_ 46 (d := dd__law_terms) rfl
  obtain ⟨d__law_sums, D__law_sums⟩ := c.t.d.def_ 47 (d := dd__law_sums) rfl
  obtain ⟨d__law_poly, D__law_poly⟩ := c.t.d.def_ 48 (d := dd__law_poly) rfl
  obtain ⟨d__law_point, D__law_point⟩ := c.t.d.def_ 49 (d := dd__law_point) rfl
  obtain ⟨d__law_nested, D__law_nested⟩ := c.t.d.def_ 50 (d := dd__law_nested) rfl
  obtain ⟨d__law_terms_of, D__law_terms_of⟩ := c.t.d.def_ 51 (d := dd__law_terms_of) rfl
  obtain ⟨d__law_is_nested, D__law_is_nested⟩ := c.t.d.def_ 52 (d := dd__law_is_nested) rfl
  obtain ⟨d__law_bent, D__law_bent⟩ := c.t.d.def_ 53 (d := dd__law_bent) rfl
  obtain ⟨d__law_right, D__law_right⟩ := c.t.d.def_ 54 (d := dd__law_right) rfl
  obtain ⟨d_law, D_law⟩ := c.t.d.def_ 55 (d := dd_law) rfl
  have e0 := c.more
  obtain ⟨e_gcd, e0⟩ := Bool.and_eq_true_iff.mp e0
  obtain ⟨u_NOUGHT, e0⟩ := Bool.and_eq_true_iff.mp e0
  obtain ⟨u_WHOLE, e0⟩ := Bool.and_eq_true_iff.mp e0
  exact ⟨{
    a__law_pot := _, d__law_pot := d__law_pot, D__law_pot := D__law_pot, g__law_pot := He.glo_ok X N (c.t.d.fact 0 (f := .glo "_law_pot") rfl),
    a_is_list := _, d_is_list := d_is_list, D_is_list := D_is_list, g_is_list := He.glo_ok X N (c.t.d.fact 1 (f := .glo "is_list") rfl),
    a_is_integer := _, d_is_integer := d_is_integer, D_is_integer := D_is_integer, g_is_integer := He.glo_ok X N (c.t.d.fact 2 (f := .glo "is_integer") rfl),
    a_is_count := _, d_is_count := d_is_count, D_is_count := D_is_count, g_is_count := He.glo_ok X N (c.t.d.fact 3 (f := .glo "is_count") rfl),
    a_is_ratio := _, d_is_ratio := d_is_ratio, D_is_ratio := D_is_ratio, g_is_ratio := He.glo_ok X N (c.t.d.fact 4 (f := .glo "is_ratio") rfl),
    a_is_term := _, d_is_term := d_is_term, D_is_term := D_is_term, g_is_term := He.glo_ok X N (c.t.d.fact 5 (f := .glo "is_term") rfl),
    a_want_many := _, d_want_many := d_want_many, D_want_many := D_want_many, g_want_many := He.glo_ok X N (c.t.d.fact 6 (f := .glo "want_many") rfl),
    a_want_letters_many := _, d_want_letters_many := d_want_letters_many, D_want_letters_many := D_want_letters_many, g_want_letters_many := He.glo_ok X N (c.t.d.fact 7 (f := .glo "want_letters_many") rfl),
    a_told_poly := _, d_told_poly := d_told_poly, D_told_poly := D_told_poly, g_told_poly := He.glo_ok X N (c.t.d.fact 8 (f := .glo "told_poly") rfl),
    a_made_ratio := _, d_made_ratio := d_made_ratio, D_made_ratio := D_made_ratio, g_made_ratio := He.glo_ok X N (c.t.d.fact 9 (f := .glo "made_ratio") rfl),
    a_add_ratios := _, d_add_ratios := d_add_ratios, D_add_ratios := D_add_ratios, g_add_ratios := He.glo_ok X N (c.t.d.fact 10 (f := .glo "add_ratios") rfl),
    a_put_more := _, d_put_more := d_put_more, D_put_more := D_put_more, g_put_more := He.glo_ok X N (c.t.d.fact 11 (f := .glo "put_more") rfl),
    a_want_at_most := _, d_want_at_most := d_want_at_most, D_want_at_most := D_want_at_most, g_want_at_most := He.glo_ok X N (c.t.d.fact 12 (f := .glo "want_at_most") rfl),
    a_degree_of := _, d_degree_of := d_degree_of, D_degree_of := D_degree_of, g_degree_of := He.glo_ok X N (c.t.d.fact 13 (f := .glo "degree_of") rfl),
    a_want_few := _, d_want_few := d_want_few, D_want_few := D_want_few, g_want_few := He.glo_ok X N (c.t.d.fact 14 (f := .glo "want_few") rfl),
    a_poly_of := _, d_poly_of := d_poly_of, D_poly_of := D_poly_of, g_poly_of := He.glo_ok X N (c.t.d.fact 15 (f := .glo "poly_of") rfl),
    a_letters_of := _, d_letters_of := d_letters_of, D_letters_of := D_letters_of, g_letters_of := He.glo_ok X N (c.t.d.fact 16 (f := .glo "letters_of") rfl),
    a_is_poly_in := _, d_is_poly_in := d_is_poly_in, D_is_poly_in := D_is_poly_in, g_is_poly_in := He.glo_ok X N (c.t.d.fact 17 (f := .glo "is_poly_in") rfl),
    a_is_any_poly := _, d_is_any_poly := d_is_any_poly, D_is_any_poly := D_is_any_poly, g_is_any_poly := He.glo_ok X N (c.t.d.fact 18 (f := .glo "is_any_poly") rfl),
    a_want_poly := _, d_want_poly := d_want_poly, D_want_poly := D_want_poly, g_want_poly := He.glo_ok X N (c.t.d.fact 19 (f := .glo "want_poly") rfl),
    a_is_point := _, d_is_point := d_is_point, D_is_point := D_is_point, g_is_point := He.glo_ok X N (c.t.d.fact 20 (f := .glo "is_point") rfl),
    a_want_point_for := _, d_want_point_for := d_want_point_for, D_want_point_for := D_want_point_for, g_want_point_for := He.glo_ok X N (c.t.d.fact 21 (f := .glo "want_point_for") rfl),
    a_mul_ratios := _, d_mul_ratios := d_mul_ratios, D_mul_ratios := D_mul_ratios, g_mul_ratios := He.glo_ok X N (c.t.d.fact 22 (f := .glo "mul_ratios") rfl),
    a_power_ratio := _, d_power_ratio := d_power_ratio, D_power_ratio := D_power_ratio, g_power_ratio := He.glo_ok X N (c.t.d.fact 23 (f := .glo "power_ratio") rfl),
    a_value_of := _, d_value_of := d_value_of, D_value_of := D_value_of, g_value_of := He.glo_ok X N (c.t.d.fact 24 (f := .glo "value_of") rfl),
    a_value_at := _, d_value_at := d_value_at, D_value_at := D_value_at, g_value_at := He.glo_ok X N (c.t.d.fact 25 (f := .glo "value_at") rfl),
    a_nested_from := _, d_nested_from := d_nested_from, D_nested_from := D_nested_from, g_nested_from := He.glo_ok X N (c.t.d.fact 26 (f := .glo "nested_from") rfl),
    a_terms_from := _, d_terms_from := d_terms_from, D_terms_from := D_terms_from, g_terms_from := He.glo_ok X N (c.t.d.fact 27 (f := .glo "terms_from") rfl),
    a_poly_from := _, d_poly_from := d_poly_from, D_poly_from := D_poly_from, g_poly_from := He.glo_ok X N (c.t.d.fact 28 (f := .glo "poly_from") rfl),
    a_has_form := _, d_has_form := d_has_form, D_has_form := D_has_form, g_has_form := He.glo_ok X N (c.t.d.fact 29 (f := .glo "has_form") rfl),
    a_is_nested_of := _, d_is_nested_of := d_is_nested_of, D_is_nested_of := D_is_nested_of, g_is_nested_of := He.glo_ok X N (c.t.d.fact 30 (f := .glo "is_nested_of") rfl),
    a_is_nested := _, d_is_nested := d_is_nested, D_is_nested := D_is_nested, g_is_nested := He.glo_ok X N (c.t.d.fact 31 (f := .glo "is_nested") rfl),
    a_want_poly_in := _, d_want_poly_in := d_want_poly_in, D_want_poly_in := D_want_poly_in, g_want_poly_in := He.glo_ok X N (c.t.d.fact 32 (f := .glo "want_poly_in") rfl),
    a_nested_of := _, d_nested_of := d_nested_of, D_nested_of := D_nested_of, g_nested_of := He.glo_ok X N (c.t.d.fact 33 (f := .glo "nested_of") rfl),
    a_want_nested := _, d_want_nested := d_want_nested, D_want_nested := D_want_nested, g_want_nested := He.glo_ok X N (c.t.d.fact 34 (f := .glo "want_nested") rfl),
    a_poly_of_nested := _, d_poly_of_nested := d_poly_of_nested, D_poly_of_nested := D_poly_of_nested, g_poly_of_nested := He.glo_ok X N (c.t.d.fact 35 (f := .glo "poly_of_nested") rfl),
    a_value_from := _, d_value_from := d_value_from, D_value_from := D_value_from, g_value_from := He.glo_ok X N (c.t.d.fact 36 (f := .glo "value_from") rfl),
    a_value_of_nested := _, d_value_of_nested := d_value_of_nested, D_value_of_nested := D_value_of_nested, g_value_of_nested := He.glo_ok X N (c.t.d.fact 37 (f := .glo "value_of_nested") rfl),
    a__law_draw := _, d__law_draw := d__law_draw, D__law_draw := D__law_draw, g__law_draw := He.glo_ok X N (c.t.d.fact 38 (f := .glo "_law_draw") rfl),
    a__law_pick := _, d__law_pick := d__law_pick, D__law_pick := D__law_pick, g__law_pick := He.glo_ok X N (c.t.d.fact 39 (f := .glo "_law_pick") rfl),
    a__law_told := _, d__law_told := d__law_told, D__law_told := D__law_told, g__law_told := He.glo_ok X N (c.t.d.fact 40 (f := .glo "_law_told") rfl),
    a__law_low := _, d__law_low := d__law_low, D__law_low := D__law_low, g__law_low := He.glo_ok X N (c.t.d.fact 41 (f := .glo "_law_low") rfl),
    a__law_add := _, d__law_add := d__law_add, D__law_add := D__law_add, g__law_add := He.glo_ok X N (c.t.d.fact 42 (f := .glo "_law_add") rfl),
    a__law_mul := _, d__law_mul := d__law_mul, D__law_mul := D__law_mul, g__law_mul := He.glo_ok X N (c.t.d.fact 43 (f := .glo "_law_mul") rfl),
    a__law_value := _, d__law_value := d__law_value, D__law_value := D__law_value, g__law_value := He.glo_ok X N (c.t.d.fact 44 (f := .glo "_law_value") rfl),
    a__law_ratio := _, d__law_ratio := d__law_ratio, D__law_ratio := D__law_ratio, g__law_ratio := He.glo_ok X N (c.t.d.fact 45 (f := .glo "_law_ratio") rfl),
    a__law_terms := _, d__law_terms := d__law_terms, D__law_terms := D__law_terms, g__law_terms := He.glo_ok X N (c.t.d.fact 46 (f := .glo "_law_terms") rfl),
    a__law_sums := _, d__law_sums := d__law_sums, D__law_sums := D__law_sums, g__law_sums := He.glo_ok X N (c.t.d.fact 47 (f := .glo "_law_sums") rfl),
    a__law_poly := _, d__law_poly := d__law_poly, D__law_poly := D__law_poly, g__law_poly := He.glo_ok X N (c.t.d.fact 48 (f := .glo "_law_poly") rfl),
    a__law_point := _, d__law_point := d__law_point, D__law_point := D__law_point, g__law_point := He.glo_ok X N (c.t.d.fact 49 (f := .glo "_law_point") rfl),
    a__law_nested := _, d__law_nested := d__law_nested, D__law_nested := D__law_nested, g__law_nested := He.glo_ok X N (c.t.d.fact 50 (f := .glo "_law_nested") rfl),
    a__law_terms_of := _, d__law_terms_of := d__law_terms_of, D__law_terms_of := D__law_terms_of, g__law_terms_of := He.glo_ok X N (c.t.d.fact 51 (f := .glo "_law_terms_of") rfl),
    a__law_is_nested := _, d__law_is_nested := d__law_is_nested, D__law_is_nested := D__law_is_nested, g__law_is_nested := He.glo_ok X N (c.t.d.fact 52 (f := .glo "_law_is_nested") rfl),
    a__law_bent := _, d__law_bent := d__law_bent, D__law_bent := D__law_bent, g__law_bent := He.glo_ok X N (c.t.d.fact 53 (f := .glo "_law_bent") rfl),
    a__law_right := _, d__law_right := d__law_right, D__law_right := D__law_right, g__law_right := He.glo_ok X N (c.t.d.fact 54 (f := .glo "_law_right") rfl),
    a_law := _, d_law := d_law, D_law := D_law, g_law := He.glo_ok X N (c.t.d.fact 55 (f := .glo "law") rfl),
    n_ArithmeticError := He.free_ok X N (c.t.d.fact 56 (f := .free "ArithmeticError") rfl),
    n_ValueError := He.free_ok X N (c.t.d.fact 57 (f := .free "ValueError") rfl),
    n_abs := He.free_ok X N (c.t.d.fact 58 (f := .free "abs") rfl),
    n_all := He.free_ok X N (c.t.d.fact 59 (f := .free "all") rfl),
    n_any := He.free_ok X N (c.t.d.fact 60 (f := .free "any") rfl),
    n_bool := He.free_ok X N (c.t.d.fact 61 (f := .free "bool") rfl),
    n_dict := He.free_ok X N (c.t.d.fact 62 (f := .free "dict") rfl),
    n_divmod := He.free_ok X N (c.t.d.fact 63 (f := .free "divmod") rfl),
    n_enumerate := He.free_ok X N (c.t.d.fact 64 (f := .free "enumerate") rfl),
    n_int := He.free_ok X N (c.t.d.fact 65 (f := .free "int") rfl),
    n_isinstance := He.free_ok X N (c.t.d.fact 66 (f := .free "isinstance") rfl),
    n_len := He.free_ok X N (c.t.d.fact 67 (f := .free "len") rfl),
    n_list := He.free_ok X N (c.t.d.fact 68 (f := .free "list") rfl),
    n_max := He.free_ok X N (c.t.d.fact 69 (f := .free "max") rfl),
    n_range := He.free_ok X N (c.t.d.fact 70 (f := .free "range") rfl),
    n_repr := He.free_ok X N (c.t.d.fact 71 (f := .free "repr") rfl),
    n_sorted := He.free_ok X N (c.t.d.fact 72 (f := .free "sorted") rfl),
    n_sum := He.free_ok X N (c.t.d.fact 73 (f := .free "sum") rfl),
    n_tuple := He.free_ok X N (c.t.d.fact 74 (f := .free "tuple") rfl),
    n_zip := He.free_ok X N (c.t.d.fact 75 (f := .free "zip") rfl),
    c_MOST_LETTERS_boxes := He.int_ok X N (c.t.d.fact 76 (f := .int "MOST_LETTERS_boxes" (8)) rfl),
    c_MOST_LETTERS_polys := He.int_ok X N (c.t.d.fact 77 (f := .int "MOST_LETTERS_polys" (8)) rfl),
    c_MOST_DEGREE := He.int_ok X N (c.t.d.fact 78 (f := .int "MOST_DEGREE" (8)) rfl),
    c_MOST_TERMS := He.int_ok X N (c.t.d.fact 79 (f := .int "MOST_TERMS" (60)) rfl),
    c_MOST_PASSED := He.int_ok X N (c.t.d.fact 80 (f := .int "MOST_PASSED" (200)) rfl),
    t_NOUGHT := Pd.exTup_ok X N u_NOUGHT,
    t_WHOLE := Pd.exTup_ok X N u_WHOLE,
    i_gcd := PySem.W.mg_of X N (of_decide_eq_true e_gcd) }, He.glo_ok X N (c.t.d.fact 55 (f := .glo "law") rfl)⟩
end Tc
open PySem PySem.W PySem.Calls PyProof.Rows
theorem PySem.Challenge.cw_truecourse_k18_whole_nested_forms_holds : PySem.Challenge.rw_truecourse_k18_whole_nested_forms.Holds := by
  w_on; o_law
  refine HandSHeadRun.head_imp (r := (OpenLaw.row PySem.Challenge.rw_truecourse_k18_whole_nested_forms)) (q := view (OpenLaw.row PySem.Challenge.rw_truecourse_k18_whole_nested_forms).prog [0, 78]) (H := Tc.hk) (ob := Tc.ob) (M := 6000) (loose := Tc.names) (d := HandSHeadRun.topDef (OpenLaw.row PySem.Challenge.rw_truecourse_k18_whole_nested_forms).prog 78) (kwd := []) Tc.ob_eq Tc.run
    (by kernel_rfl) (by kernel_rfl) (by kernel_rfl) (by rfl) (by first | assumption | decide +kernel) (by decide +kernel) ⟨rfl, rfl, rfl, rfl, rfl, by decide +kernel⟩ ?hw ?hc
  case hw => w_witness2
  case hc =>
    refine Pd.walkP (l := PySem.Challenge.rw_truecourse_k18_whole_nested_forms) (n := 63) (k := 20) (x := "_law_script") rfl (by decide) (by kernel_rfl) ⟨rfl, by decide, by decide⟩ ?F
    intro w mg fa h Y N hmg0
    obtain ⟨K, KX, c⟩ := Y
    obtain ⟨T, e⟩ := Tc.tx KX N c
    have hn : (HandSHeadRun.topDef (OpenLaw.row PySem.Challenge.rw_truecourse_k18_whole_nested_forms).prog 78).name = ("law" : PySem.Str) := by kernel_rfl
    rw [hn] at hmg0
    cases hmg0.symm.trans e
    refine ⟨K, T.d_law, Tc.m_law, KX, fun s u => L2.FunD.bindsA (ps := ["_law_script"]) T.D_law (fun _ _ _ _ _ _ us hl => match us, hl with | [_], _ => rfl) s [u] rfl, fun ns hl θ => Tc.law_true ns hl θ, fun base _ _ => Tc.ok_law T⟩


