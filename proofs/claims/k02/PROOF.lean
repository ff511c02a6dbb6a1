import PyProof.Rows.All
import PySem.Challenge.RW_towerwise_k02_fractions
import HandS.ForMost
import HandS.ForExc
import HandS.EndBits
import HandS.Wide
import HandS.TupAny
import HandS.TupMul
import HandS.IsInst
import HandS.Lambda
import HandS.EndTab
import HandS.ExcValue
import KE.KUnpack
import HandS.Deep
import HandS.Style
import HandS.Zip
import HandS.Replace
import HandS.RaiseMore
import KE.IntTextLaws
import HandS.ExcIs
import KE.KExcIs
import HandS.ExcField
import HandS.More
import HandS.Conv
import HandS.SortInts
import HandS.ExcInit
import KE.KExcLine
import PyProof.Rows.StrOr
set_option Elab.async false
set_option linter.all false
set_option maxRecDepth 100000
set_option maxHeartbeats 4000000
/-! Sm1: values as trees, the store, how they stand in the abstract heap; readings by plain functions. -/
namespace Sm
open PySem PySem.Spec PyProof.Rows L2

abbrev St := L2.St
/-- the built-in classes that a text names -/
inductive Ty where
  | int | bool | str | tuple | list | dict | verr
  deriving DecidableEq
def Ty.name : Ty → String
  | .int => "int"
  | .bool => "bool"
  | .str => "str"
  | .tuple => "tuple"
  | .list => "list"
  | .dict => "dict"
  | .verr => "ValueError"
/-- a value as a tree; ref n: one's own object, n its number in the store -/
inductive D where
  | non | bl (b : Bool) | int (i : Int) | str (s : List Nat) | tup (l : List D) | lst (l : List D) | dic (l : List (D × D)) | ref (n : Nat) | exc (k : Nat) (l : List D) | cls (k : Nat) | ty (t : Ty) | fn
  deriving Inhabited
/-- one's own object; fz: it is changed no more -/
inductive Ob where
  | lst (fz : Bool) (l : List D)
  | dic (fz : Bool) (l : List (D × D))
  | arr (l : List D)
  deriving Inhabited
mutual
def D.eqb : D → D → Bool
  | .non, .non => true
  | .bl a, .bl b => a == b
  | .int a, .int b => a == b
  | .str a, .str b => a == b
  | .tup a, .tup b => D.eqbL a b
  | .lst a, .lst b => D.eqbL a b
  | .dic a, .dic b => D.eqbP a b
  | .ref a, .ref b => a == b
  | .exc i a, .exc j b => i == j && D.eqbL a b
  | .cls a, .cls b => a == b
  | .ty a, .ty b => a == b
  | .fn, .fn => true
  | _, _ => false
def D.eqbL : List D → List D → Bool
  | [], [] => true
  | a :: l, b :: r => D.eqb a b && D.eqbL l r
  | _, _ => false
def D.eqbP : List (D × D) → List (D × D) → Bool
  | [], [] => true
  | (a, c) :: l, (b, d) :: r => D.eqb a b && (D.eqb c d && D.eqbP l r)
  | _, _ => false
end
mutual
theorem D.eqb_iff : ∀ a b : D, D.eqb a b = true ↔ a = b
  | .non, b => by cases b <;> simp [D.eqb]
  | .bl a, b => by cases b <;> simp [D.eqb]
  | .int a, b => by cases b <;> simp [D.eqb]
  | .str a, b => by cases b <;> simp [D.eqb]
  | .tup a, b => by
    cases b <;> simp [D.eqb]
    exact D.eqbL_iff a _
  | .lst a, b => by
    cases b <;> simp [D.eqb]
    exact D.eqbL_iff a _
  | .dic a, b => by
    cases b <;> simp [D.eqb]
    exact D.eqbP_iff a _
  | .ref a, b => by cases b <;> simp [D.eqb]
  | .exc i a, b => by
    cases b <;> simp [D.eqb]
    intro _
    exact D.eqbL_iff a _
  | .cls a, b => by cases b <;> simp [D.eqb]
  | .ty a, b => by cases b <;> simp [D.eqb]
  | .fn, b => by cases b <;> simp [D.eqb]
theorem D.eqbL_iff : ∀ a b : List D, D.eqbL a b = true ↔ a = b
  | [], b => by cases b <;> simp [D.eqbL]
  | a :: l, b => by
    cases b with
    | nil => simp [D.eqbL]
    | cons c r =>
      simp only [D.eqbL, Bool.and_eq_true, List.cons.injEq]
      rw [D.eqb_iff a c, D.eqbL_iff l r]
theorem D.eqbP_iff : ∀ a b : List (D × D), D.eqbP a b = true ↔ a = b
  | [], b => by cases b <;> simp [D.eqbP]
  | (a, c) :: l, b => by
    cases b with
    | nil => simp [D.eqbP]
    | cons e r =>
      obtain ⟨x, y⟩ := e
      simp only [D.eqbP, Bool.and_eq_true, List.cons.injEq, Prod.mk.injEq]
      rw [D.eqb_iff a x, D.eqb_iff c y, D.eqbP_iff l r, and_assoc]
end
instance : DecidableEq D := fun a b => decidable_of_iff (D.eqb a b = true) (D.eqb_iff a b)
instance : DecidableEq Ob := fun a b => match a, b with
  | .lst f l, .lst g r => decidable_of_iff (f = g ∧ l = r) (by simp)
  | .dic f l, .dic g r => decidable_of_iff (f = g ∧ l = r) (by simp)
  | .arr l, .arr r => decidable_of_iff (l = r) (by simp)
  | .lst _ _, .dic _ _ => isFalse (fun z => nomatch z)
  | .dic _ _, .lst _ _ => isFalse (fun z => nomatch z)
  | .lst _ _, .arr _ => isFalse (fun z => nomatch z)
  | .dic _ _, .arr _ => isFalse (fun z => nomatch z)
  | .arr _, .lst _ _ => isFalse (fun z => nomatch z)
  | .arr _, .dic _ _ => isFalse (fun z => nomatch z)
def Ob.live : Ob → Bool
  | .lst fz _ => !fz
  | .dic fz _ => !fz
  | .arr _ => true
abbrev Sto := List Ob
abbrev Env := List (Option D)
inductive Res (α : Type) where
  | ok (a : α) (S : Sto)
  | ex (e : D) (S : Sto)
  | bad
def Res.bind {α β : Type} (r : Res α) (f : α → Sto → Res β) : Res β :=
  match r with
  | .ok a S => f a S
  | .ex e S => .ex e S
  | .bad => .bad
@[simp] theorem Res.bind_ok {α β : Type} (a : α) (S : Sto) (f : α → Sto → Res β) : (Res.ok a S).bind f = f a S := rfl
@[simp] theorem Res.bind_ex {α β : Type} (e : D) (S : Sto) (f : α → Sto → Res β) : (Res.ex e S : Res α).bind f = .ex e S := rfl
@[simp] theorem Res.bind_bad {α β : Type} (f : α → Sto → Res β) : (Res.bad : Res α).bind f = .bad := rfl
/-- the end of a statement -/
inductive SR where
  | nx (σ : Env) (S : Sto)
  | rt (d : D) (S : Sto)
  | bk (σ : Env) (S : Sto)
  | ct (σ : Env) (S : Sto)
  | ex (e : D) (σ : Env) (S : Sto)
  | bad
def Res.thn {α : Type} (r : Res α) (σ : Env) (f : α → Sto → SR) : SR :=
  match r with
  | .ok a S => f a S
  | .ex e S => .ex e σ S
  | .bad => .bad
@[simp] theorem Res.thn_ok {α : Type} (a : α) (S : Sto) (σ : Env) (f : α → Sto → SR) : (Res.ok a S).thn σ f = f a S := rfl
def SR.seq (r : SR) (f : Env → Sto → SR) : SR :=
  match r with
  | .nx σ S => f σ S
  | .rt d S => .rt d S
  | .bk σ S => .bk σ S
  | .ct σ S => .ct σ S
  | .ex e σ S => .ex e σ S
  | .bad => .bad
@[simp] theorem SR.seq_nx (σ : Env) (S : Sto) (f : Env → Sto → SR) : (SR.nx σ S).seq f = f σ S := rfl
@[simp] theorem SR.seq_rt (d : D) (S : Sto) (f : Env → Sto → SR) : (SR.rt d S).seq f = .rt d S := rfl

/-- the classes by number: where they stand, the names of their fields -/
structure Lm where
  cls : Nat → Addr
  fld : Nat → List Str
  fn : Option Addr := none
  caps : List (Env × L2.St) := []
  codes : List (Addr × Str) := []
  tabs : List (Addr × Str) := []
  arr : Bool := false
/-- the abstract heap, the store, where its objects stand, what must not be touched -/
structure Sg where
  H : Hp
  S : Sto
  R : List Addr
  G : List Addr
def Sg.ow (z : Sg) (a : Addr) : Prop := (∃ (n : Nat) (o : Ob), z.S[n]? = some o ∧ o.live = true ∧ z.R[n]? = some a) ∨ a ∈ z.G

def dkey : D → Option Key
  | .int i => some (.inl i)
  | .str s => some (.inr ⟨s.toArray⟩)
  | _ => none
/-- an exception that was caught, or made -/
def EXO (a : Addr) (c : Addr) (d : Option Addr) : HO := .ext fun h => ∃ (oe : Obj) (vs : Array Value), h.get? a = some oe ∧ Zc (.ref c) d oe ∧ oe.data = .fields vs
def XFld (M : Lm) (H : Hp) (k : Nat) (d : Option Addr) (vs : List V) : Prop := (vs = [] ∧ d = none) ∨ ∃ dd, vs ≠ [] ∧ d = some dd ∧ H dd = some (.xd ((M.fld k).zip vs))

/-- a list of the module -/
def KL (K : PySem.W.Frag) (a : Addr) (vs : List V) : Prop := ∃ (its : Array Value) (n : Nat), K.lookup a = some { cls := .type "list", data := .seq its n } ∧ its.size ≤ sizeLine ∧ Vals vs its.toList
def Rl (K : PySem.W.Frag) (H : Hp) (a : Addr) (vs : List V) : Prop := Rd H a (.lst vs) ∨ KL K a vs
theorem Rl.sq {K : PySem.W.Frag} {H : Hp} {a : Addr} {vs : List V} (h : Rl K H a vs) : SqL K H a vs := by
  rcases h with h | ⟨its, n, h1, h2, h3⟩
  · exact .inl h
  · exact .inr ⟨_, its, n, h1, rfl, rfl, rfl, h2, h3⟩
/-- a list that is nobody's own -/
def RL (K : PySem.W.Frag) (H : Hp) (ow : Addr → Prop) (a : Addr) (vs : List V) : Prop := (Rd H a (.lst vs) ∧ ¬ ow a) ∨ KL K a vs
theorem RL.rl {K : PySem.W.Frag} {H : Hp} {ow : Addr → Prop} {a : Addr} {vs : List V} (h : RL K H ow a vs) : Rl K H a vs := h.imp (·.1) id
section
variable (K : PySem.W.Frag) (M : Lm)
mutual
inductive Enc (H : Hp) (ow : Addr → Prop) : D → V → Prop
  | non : Enc H ow .non .non
  | bl (b : Bool) : Enc H ow (.bl b) (.bl b)
  | int (i : Int) : Enc H ow (.int i) (.int i)
  | str (s : List Nat) : Enc H ow (.str s) (.str ⟨s.toArray⟩)
  | tup {a : Addr} {l : List D} {vs : List V} : SqT K H a vs → EncL H ow l vs → Enc H ow (.tup l) (.ref a)
  | lst {a : Addr} {l : List D} {vs : List V} : RL K H ow a vs → EncL H ow l vs → Enc H ow (.lst l) (.ref a)
  | dic {a : Addr} {l : List (D × D)} {kvs : List (Key × V)} : H a = some (.dK kvs) → ¬ ow a → EncP H ow l kvs → Enc H ow (.dic l) (.ref a)
  | exc {a : Addr} {k : Nat} {l : List D} {d : Option Addr} {vs : List V} : H a = some (EXO a (M.cls k) d) → ¬ ow a → XFld M H k d vs → EncL H ow l vs → Enc H ow (.exc k l) (.ref a)
  | cls (k : Nat) : Enc H ow (.cls k) (.ref (M.cls k))
  | ty (t : Ty) : Enc H ow (.ty t) (.ty t.name)
inductive EncL (H : Hp) (ow : Addr → Prop) : List D → List V → Prop
  | nil : EncL H ow [] []
  | cons {d : D} {v : V} {l : List D} {vs : List V} : Enc H ow d v → EncL H ow l vs → EncL H ow (d :: l) (v :: vs)
inductive EncP (H : Hp) (ow : Addr → Prop) : List (D × D) → List (Key × V) → Prop
  | nil : EncP H ow [] []
  | cons {k d : D} {q : Key} {v : V} {l : List (D × D)} {vs : List (Key × V)} : dkey k = some q → Enc H ow d v → EncP H ow l vs → EncP H ow ((k, d) :: l) ((q, v) :: vs)
end
end

/-- an object that is no table of code objects -/
def Solid (H : Hp) (a : Addr) : Prop := ∃ o, H a = some o ∧ ∀ ps, o ≠ .tbl ps
/-- how a heap goes on, for what isn't owned -/
structure Mv (H H' : Hp) (ow ow' : Addr → Prop) : Prop where
  keep : ∀ a o, H a = some o → ¬ ow a → (∀ ps, o ≠ .tbl ps) → H' a = some o
  nw : ∀ a, Solid H a → ¬ ow a → ¬ ow' a
  tup : ∀ a xs, H a = some (.tup xs) → H' a = some (.tup xs)
  frz : ∀ a o u, H a = some (.frz o u) → H' a = some (.frz o u)
  xds : ∀ a fs, H a = some (.xd fs) → H' a = some (.xd fs)

section
variable {K : PySem.W.Frag} {M : Lm}
theorem Mv.sqT {H H' : Hp} {ow ow' : Addr → Prop} (m : Mv H H' ow ow') {a : Addr} {xs : List V} (h : SqT K H a xs) : SqT K H' a xs := by
  rcases h with (h | ⟨o, h⟩) | h
  · exact .inl (.inl (m.tup _ _ h))
  · exact .inl (.inr ⟨o, m.frz _ _ _ h⟩)
  · exact .inr h
theorem Mv.rd {H H' : Hp} {ow ow' : Addr → Prop} (m : Mv H H' ow ow') {a : Addr} {u : HO} (h : Rd H a u) (n : ¬ ow a) (t : ∀ ps, u ≠ .tbl ps) : Rd H' a u ∧ ¬ ow' a := by
  rcases h with h | ⟨o, h⟩
  · exact ⟨.inl (m.keep _ _ h n t), m.nw _ ⟨_, h, t⟩ n⟩
  · exact ⟨.inr ⟨o, m.frz _ _ _ h⟩, m.nw _ ⟨_, h, fun ps z => nomatch z⟩ n⟩
theorem Mv.rl {H H' : Hp} {ow ow' : Addr → Prop} (m : Mv H H' ow ow') {a : Addr} {vs : List V} (h : RL K H ow a vs) : RL K H' ow' a vs := h.imp (fun h => m.rd h.1 h.2 fun ps z => nomatch z) id
mutual
theorem Enc.mv {H H' : Hp} {ow ow' : Addr → Prop} (m : Mv H H' ow ow') : ∀ {d : D} {v : V}, Enc K M H ow d v → Enc K M H' ow' d v
  | _, _, .non => .non
  | _, _, .bl b => .bl b
  | _, _, .int i => .int i
  | _, _, .str s => .str s
  | _, _, .tup h e => .tup (m.sqT h) (EncL.mv m e)
  | _, _, .lst h e => .lst (m.rl h) (EncL.mv m e)
  | _, _, .dic h n e => .dic (m.keep _ _ h n fun ps z => nomatch z) (m.nw _ ⟨_, h, fun ps z => nomatch z⟩ n) (EncP.mv m e)
  | _, _, .exc h n x e => .exc (m.keep _ _ h n (fun ps z => by unfold EXO at z; cases z)) (m.nw _ ⟨_, h, fun ps z => by unfold EXO at z; cases z⟩ n) (x.elim .inl fun ⟨d2, h1, h2, h3⟩ => .inr ⟨d2, h1, h2, m.xds _ _ h3⟩) (EncL.mv m e)
  | _, _, .cls k => .cls k
  | _, _, .ty t => .ty t
theorem EncL.mv {H H' : Hp} {ow ow' : Addr → Prop} (m : Mv H H' ow ow') : ∀ {l : List D} {vs : List V}, EncL K M H ow l vs → EncL K M H' ow' l vs
  | _, _, .nil => .nil
  | _, _, .cons h t => .cons (Enc.mv m h) (EncL.mv m t)
theorem EncP.mv {H H' : Hp} {ow ow' : Addr → Prop} (m : Mv H H' ow ow') : ∀ {l : List (D × D)} {vs : List (Key × V)}, EncP K M H ow l vs → EncP K M H' ow' l vs
  | _, _, .nil => .nil
  | _, _, .cons q h t => .cons q (Enc.mv m h) (EncP.mv m t)
end

/-- a value of a slot, an argument -/
inductive EncA (K : PySem.W.Frag) (M : Lm) (z : Sg) : D → V → Prop
  | ref {n : Nat} {a : Addr} : z.R[n]? = some a → n < z.S.length → EncA K M z (.ref n) (.ref a)
  | of {d : D} {v : V} : Enc K M z.H z.ow d v → EncA K M z d v
  | fn {a : Addr} : M.fn = some a → EncA K M z .fn (.ref a)
/-- the slots -/
def EnvOk (K : PySem.W.Frag) (M : Lm) (z : Sg) (env : Env) (σ : St) : Prop :=
  env.length = σ.length ∧ ∀ (i : Nat) (d : D), env[i]? = some (some d) → ∃ v, σ[i]? = some (some v) ∧ EncA K M z d v
/-- what stands behind a lambda that was handed in: its maker's slots, its code object; tables of code objects -/
structure Aux (K : PySem.W.Frag) (M : Lm) (z : Sg) : Prop where
  tab : LamX.Tabs M.tabs z.H
  cap : ∀ p ∈ M.caps, EnvOk K M z p.1 p.2
  code : ∀ p ∈ M.codes, z.H p.1 = some (LamX.CodeO p.1 p.2) ∧ ¬ z.ow p.1
inductive EncAs (K : PySem.W.Frag) (M : Lm) (z : Sg) : List D → List V → Prop
  | nil : EncAs K M z [] []
  | cons {d : D} {v : V} {l : List D} {vs : List V} : EncA K M z d v → EncAs K M z l vs → EncAs K M z (d :: l) (v :: vs)
def ObE (K : PySem.W.Frag) (M : Lm) (z : Sg) (a : Addr) : Ob → Prop
  | .lst _ l => ∃ vs, z.H a = some (.lst vs) ∧ EncL K M z.H z.ow l vs
  | .dic _ l => ∃ kvs, z.H a = some (.dK kvs) ∧ EncP K M z.H z.ow l kvs
  | .arr l => (M.arr = true ∧ ∀ d ∈ l, d ≠ .fn) ∧ ∃ vs, z.H a = some (.lst vs) ∧ EncAs K M z l vs
structure SOk (K : PySem.W.Frag) (M : Lm) (z : Sg) : Prop where
  len : z.R.length = z.S.length
  nd : z.R.Nodup
  gR : ∀ g ∈ z.G, g ∉ z.R
  gT : ∀ g ∈ z.G, ∃ o, z.H g = some o ∧ ((∃ xs, o = .lst xs) ∨ ∃ kvs, o = .dK kvs)
  obj : ∀ (n : Nat) (o : Ob) (a : Addr), z.S[n]? = some o → z.R[n]? = some a → ObE K M z a o
  aux : Aux K M z
structure Ext (z z' : Sg) : Prop where
  keep : ∀ a o, z.H a = some o → ¬ z.ow a → (∀ ps, o ≠ .tbl ps) → z'.H a = some o
  nw : ∀ a, Solid z.H a → ¬ z.ow a → ¬ z'.ow a
  tup : ∀ a xs, z.H a = some (.tup xs) → z'.H a = some (.tup xs)
  frz : ∀ a o u, z.H a = some (.frz o u) → z'.H a = some (.frz o u)
  xds : ∀ a fs, z.H a = some (.xd fs) → z'.H a = some (.xd fs)
  pre : ∃ T, z'.R = z.R ++ T
  grow : z.S.length ≤ z'.S.length
  gh : z'.G = z.G
  gk : ∀ g ∈ z.G, z'.H g = z.H g
variable {K : PySem.W.Frag} {M : Lm} {z z' z'' : Sg}
theorem Ext.mv (e : Ext z z') : Mv z.H z'.H z.ow z'.ow := ⟨e.keep, e.nw, e.tup, e.frz, e.xds⟩
theorem Ext.refl (z : Sg) : Ext z z := ⟨fun _ _ h _ _ => h, fun _ _ h => h, fun _ _ h => h, fun _ _ _ h => h, fun _ _ h => h, ⟨[], (List.append_nil _).symm⟩, Nat.le_refl _, rfl, fun _ _ => rfl⟩
theorem Ext.trans (e : Ext z z') (f : Ext z' z'') : Ext z z'' where
  keep := fun a o h n t => f.keep a o (e.keep a o h n t) (e.nw a ⟨_, h, t⟩ n) t
  nw := fun a h n => f.nw a (let ⟨o, q, t⟩ := h; ⟨o, e.keep a o q n t, t⟩) (e.nw a h n)
  tup := fun a xs h => f.tup a xs (e.tup a xs h)
  frz := fun a o u h => f.frz a o u (e.frz a o u h)
  xds := fun a fs h => f.xds a fs (e.xds a fs h)
  pre := by
    obtain ⟨T, h⟩ := e.pre
    obtain ⟨T', h'⟩ := f.pre
    exact ⟨T ++ T', by rw [h', h, List.append_assoc]⟩
  grow := Nat.le_trans e.grow f.grow
  gh := f.gh.trans e.gh
  gk := fun g hg => (f.gk g (by rw [e.gh]; exact hg)).trans (e.gk g hg)
theorem Ext.rAt (e : Ext z z') {n : Nat} {a : Addr} (h : z.R[n]? = some a) : z'.R[n]? = some a := by
  obtain ⟨T, q⟩ := e.pre
  have hl : n < z.R.length := (List.getElem?_eq_some_iff.mp h).1
  rw [q, List.getElem?_append_left hl]
  exact h
theorem EncA.mvR {z z' : Sg} (m : Mv z.H z'.H z.ow z'.ow) (r : ∃ T, z'.R = z.R ++ T) (l : z.S.length ≤ z'.S.length) {d : D} {v : V} (h : EncA K M z d v) : EncA K M z' d v := by
  cases h with
  | ref h1 h2 =>
    refine .ref ?_ (Nat.lt_of_lt_of_le h2 l)
    obtain ⟨T, q⟩ := r
    rw [q, List.getElem?_append_left (List.getElem?_eq_some_iff.mp h1).1]
    exact h1
  | of h => exact .of (h.mv m)
  | fn e => exact .fn e
theorem EnvOk.mvR {z z' : Sg} (m : Mv z.H z'.H z.ow z'.ow) (r : ∃ T, z'.R = z.R ++ T) (l : z.S.length ≤ z'.S.length) {env : Env} {σ : St} (h : EnvOk K M z env σ) : EnvOk K M z' env σ :=
  ⟨h.1, fun i d q => let ⟨v, h1, h2⟩ := h.2 i d q; ⟨v, h1, h2.mvR m r l⟩⟩
theorem EncA.ext (e : Ext z z') {d : D} {v : V} (h : EncA K M z d v) : EncA K M z' d v := h.mvR e.mv e.pre e.grow
theorem Aux.mvR {z z' : Sg} (x : Aux K M z) (m : Mv z.H z'.H z.ow z'.ow) (r : ∃ T, z'.R = z.R ++ T) (l : z.S.length ≤ z'.S.length) (t : LamX.Tabs M.tabs z'.H) : Aux K M z' :=
  ⟨t, fun p hp => (x.cap p hp).mvR m r l, fun p hp => ⟨m.keep _ _ (x.code p hp).1 (x.code p hp).2 LamX.codeO_ne, m.nw _ ⟨_, (x.code p hp).1, LamX.codeO_ne⟩ (x.code p hp).2⟩⟩
theorem Aux.ext (x : Aux K M z) (e : Ext z z') (t : LamX.Tabs M.tabs z'.H) : Aux K M z' := x.mvR e.mv e.pre e.grow t
theorem tabs_mv {T : List (Addr × Str)} {H H' : Hp} (t : LamX.Tabs T H) (e : ∀ b o, H b = some o → ((∃ ps, o = .tbl ps) ∨ ∃ φ, o = .ext φ) → H' b = some o) : LamX.Tabs T H' := fun p hp => by
  obtain ⟨ps, h1, h2, h3⟩ := t p hp
  refine ⟨ps, e _ _ h1 (.inl ⟨ps, rfl⟩), h2, fun pos cv hc => ?_⟩
  obtain ⟨c, e1, e2⟩ := h3 pos cv hc
  exact ⟨c, e1, e _ _ e2 (.inr ⟨_, rfl⟩)⟩
theorem tabs_put {T : List (Addr × Str)} {H : Hp} {p : Addr} {o : HO} (t : LamX.Tabs T H) (np : H p = none) : LamX.Tabs T (upd H p o) := tabs_mv t fun b u h _ => by
  rw [upd_ne (ne_of_none h np)]
  exact h
theorem tabs_wr {T : List (Addr × Str)} {H : Hp} {p : Addr} {o u : HO} (t : LamX.Tabs T H) (hp : H p = some u) (hu : (∃ xs, u = .lst xs) ∨ ∃ kvs, u = .dK kvs) : LamX.Tabs T (upd H p o) := tabs_mv t fun b w h hw => by
  by_cases e : b = p
  · subst e
    rw [hp] at h
    cases h
    rcases hu with ⟨xs, rfl⟩ | ⟨xs, rfl⟩ <;> rcases hw with ⟨q, z⟩ | ⟨q, z⟩ <;> cases z
  · rw [upd_ne e]
    exact h
/-- no reference stands within a tree -/
theorem EncA.enc {d : D} {v : V} (h : EncA K M z d v) (n : ∀ k, d ≠ .ref k) (c : d ≠ .fn) : Enc K M z.H z.ow d v := by
  cases h with
  | ref h l => exact absurd rfl (n _)
  | of h => exact h
  | fn e => exact absurd rfl c
theorem EnvOk.ext (e : Ext z z') {env : Env} {σ : St} (h : EnvOk K M z env σ) : EnvOk K M z' env σ :=
  ⟨h.1, fun i d q => let ⟨v, h1, h2⟩ := h.2 i d q; ⟨v, h1, h2.ext e⟩⟩
theorem EnvOk.set {env : Env} {σ : St} (h : EnvOk K M z env σ) (i : Nat) {d : D} {v : V} (q : EncA K M z d v) : EnvOk K M z (env.set i (some d)) (σ.set i (some v)) := by
  refine ⟨by rw [List.length_set, List.length_set]; exact h.1, fun j d' e => ?_⟩
  by_cases hj : j = i
  · subst hj
    have hl : j < env.length := by
      have := (List.getElem?_eq_some_iff.mp e).1
      rw [List.length_set] at this
      exact this
    rw [List.getElem?_set_self hl] at e
    have e' : d = d' := Option.some.inj (Option.some.inj e)
    subst e'
    exact ⟨v, List.getElem?_set_self (by rw [← h.1]; exact hl), q⟩
  · rw [List.getElem?_set_ne (Ne.symm hj)] at e
    obtain ⟨v', h1, h2⟩ := h.2 j d' e
    exact ⟨v', by rw [List.getElem?_set_ne (Ne.symm hj)]; exact h1, h2⟩
theorem EncAs.ext (e : Ext z z') : ∀ {l : List D} {vs : List V}, EncAs K M z l vs → EncAs K M z' l vs
  | _, _, .nil => .nil
  | _, _, .cons h t => .cons (h.ext e) (EncAs.ext e t)
theorem EncAs.mvR {z z' : Sg} (m : Mv z.H z'.H z.ow z'.ow) (r : ∃ T, z'.R = z.R ++ T) (l0 : z.S.length ≤ z'.S.length) : ∀ {l : List D} {vs : List V}, EncAs K M z l vs → EncAs K M z' l vs
  | _, _, .nil => .nil
  | _, _, .cons h t => .cons (h.mvR m r l0) (EncAs.mvR m r l0 t)
theorem EncAs.length : ∀ {l : List D} {vs : List V}, EncAs K M z l vs → l.length = vs.length
  | _, _, .nil => rfl
  | _, _, .cons _ t => by rw [List.length_cons, List.length_cons, EncAs.length t]
theorem EncL.length {H : Hp} {ow : Addr → Prop} : ∀ {l : List D} {vs : List V}, EncL K M H ow l vs → l.length = vs.length
  | _, _, .nil => rfl
  | _, _, .cons _ t => by rw [List.length_cons, List.length_cons, EncL.length t]
theorem EncL.get {H : Hp} {ow : Addr → Prop} : ∀ {l : List D} {vs : List V} {i : Nat} {d : D}, EncL K M H ow l vs → l[i]? = some d → ∃ v, vs[i]? = some v ∧ Enc K M H ow d v
  | _, _, _, _, .nil, e => by simp at e
  | _, _, 0, _, .cons h _, e => by
    simp at e
    subst e
    exact ⟨_, rfl, h⟩
  | _, _, i + 1, d, .cons _ t, e => by
    obtain ⟨v, h1, h2⟩ := EncL.get (i := i) (d := d) t (by simpa using e)
    exact ⟨v, by simpa using h1, h2⟩
theorem EncL.get' {H : Hp} {ow : Addr → Prop} {l : List D} {vs : List V} {i : Nat} {v : V} (h : EncL K M H ow l vs) (e : vs[i]? = some v) : ∃ d, l[i]? = some d ∧ Enc K M H ow d v := by
  have hl : i < l.length := by
    have := (List.getElem?_eq_some_iff.mp e).1
    rw [h.length]
    exact this
  obtain ⟨v', h1, h2⟩ := h.get (List.getElem?_eq_getElem hl)
  rw [e] at h1
  cases h1
  exact ⟨_, List.getElem?_eq_getElem hl, h2⟩
theorem EncL.app {H : Hp} {ow : Addr → Prop} : ∀ {l r : List D} {vs us : List V}, EncL K M H ow l vs → EncL K M H ow r us → EncL K M H ow (l ++ r) (vs ++ us)
  | _, _, _, _, .nil, s => s
  | _, _, _, _, .cons h t, s => .cons h (EncL.app t s)
theorem EncL.one {H : Hp} {ow : Addr → Prop} {d : D} {v : V} (h : Enc K M H ow d v) : EncL K M H ow [d] [v] := .cons h .nil
theorem EncL.take {H : Hp} {ow : Addr → Prop} : ∀ {l : List D} {vs : List V} (n : Nat), EncL K M H ow l vs → EncL K M H ow (l.take n) (vs.take n)
  | _, _, 0, _ => .nil
  | _, _, _ + 1, .nil => .nil
  | _, _, n + 1, .cons h t => .cons h (EncL.take n t)
theorem EncL.drop {H : Hp} {ow : Addr → Prop} : ∀ {l : List D} {vs : List V} (n : Nat), EncL K M H ow l vs → EncL K M H ow (l.drop n) (vs.drop n)
  | _, _, 0, h => h
  | _, _, _ + 1, .nil => .nil
  | _, _, n + 1, .cons _ t => EncL.drop n t
theorem EncL.set {H : Hp} {ow : Addr → Prop} {d : D} {v : V} (q : Enc K M H ow d v) : ∀ {l : List D} {vs : List V} (n : Nat), EncL K M H ow l vs → EncL K M H ow (l.set n d) (vs.set n v)
  | _, _, _, .nil => .nil
  | _, _, 0, .cons _ t => .cons q t
  | _, _, n + 1, .cons h t => .cons h (EncL.set q n t)
theorem EncL.rev {H : Hp} {ow : Addr → Prop} : ∀ {l : List D} {vs : List V}, EncL K M H ow l vs → EncL K M H ow l.reverse vs.reverse
  | _, _, .nil => .nil
  | _, _, .cons h t => by
    rw [List.reverse_cons, List.reverse_cons]
    exact (EncL.rev t).app (EncL.one h)
/-! ### new objects, changed ones -/
def Sg.put (z : Sg) (p : Addr) (o : HO) : Sg := { z with H := upd z.H p o }
/-- what is new and not one's own: a tuple, a list that nobody changes -/
theorem ext_put {p : Addr} {o : HO} (np : z.H p = none) (k : SOk K M z) : Ext z (z.put p o) where
  keep := fun a u h _ _ => by
    show upd z.H p o a = some u
    rw [upd_ne (ne_of_none h np)]
    exact h
  nw := fun a _ n => n
  tup := fun a xs h => by
    show upd z.H p o a = _
    rw [upd_ne (ne_of_none h np)]
    exact h
  frz := fun a u w h => by
    show upd z.H p o a = _
    rw [upd_ne (ne_of_none h np)]
    exact h
  xds := fun a fs h => by
    show upd z.H p o a = _
    rw [upd_ne (ne_of_none h np)]
    exact h
  pre := ⟨[], (List.append_nil _).symm⟩
  grow := Nat.le_refl _
  gh := rfl
  gk := fun g hg => by
    show upd z.H p o g = z.H g
    obtain ⟨xs, h, _⟩ := k.gT g hg
    rw [upd_ne (ne_of_none h np)]
theorem sok_put {p : Addr} {o : HO} (np : z.H p = none) (k : SOk K M z) : SOk K M (z.put p o) where
  len := k.len
  nd := k.nd
  gR := k.gR
  gT := fun g hg => by
    obtain ⟨xs, h, h2⟩ := k.gT g hg
    exact ⟨xs, ((ext_put (o := o) np k).gk g hg).trans h, h2⟩
  aux := k.aux.ext (ext_put np k) (tabs_put k.aux.tab np)
  obj := fun n u a h1 h2 => by
    have q := k.obj n u a h1 h2
    have m := (ext_put (o := o) np k).mv
    have ne : ∀ w, z.H a = some w → (z.put p o).H a = some w := fun w h => by
      show upd z.H p o a = _
      rw [upd_ne (ne_of_none h np)]
      exact h
    cases u with
    | lst fz l =>
      obtain ⟨vs, h, e⟩ := q
      exact ⟨vs, ne _ h, e.mv m⟩
    | dic fz l =>
      obtain ⟨vs, h, e⟩ := q
      exact ⟨vs, ne _ h, e.mv m⟩
    | arr l =>
      obtain ⟨ha, vs, h, e⟩ := q
      exact ⟨ha, vs, ne _ h, e.ext (ext_put (o := o) np k)⟩
theorem now_put {p : Addr} {o : HO} (np : z.H p = none) (k : SOk K M z) : ¬ (z.put p o).ow p := by
  rintro (⟨n, u, h1, _, h2⟩ | h)
  · have q := k.obj n u p h1 h2
    cases u with
    | lst fz l =>
      obtain ⟨vs, h, e⟩ := q
      rw [np] at h
      cases h
    | dic fz l =>
      obtain ⟨vs, h, e⟩ := q
      rw [np] at h
      cases h
    | arr l =>
      obtain ⟨_, vs, h, e⟩ := q
      rw [np] at h
      cases h
  · obtain ⟨xs, e, _⟩ := k.gT p h
    rw [np] at e
    cases e
theorem at_put {p : Addr} {o : HO} : (z.put p o).H p = some o := upd_same
end
end Sm
/-! Sm2: readings by plain functions; names, constants, statements, loops. -/
namespace Sm
open PySem PySem.Spec PyProof.Rows L2
section
variable {K : PySem.W.Frag} {M : Lm} {z z' z'' : Sg}
def Sg.push (z : Sg) (p : Addr) (o : HO) (b : Ob) : Sg := { H := upd z.H p o, S := z.S ++ [b], R := z.R ++ [p], G := z.G }
theorem ow_push {p : Addr} {o : HO} {b : Ob} (k : SOk K M z) (a : Addr) (h : (z.push p o b).ow a) : z.ow a ∨ a = p := by
  rcases h with ⟨n, u, h1, h2, h3⟩ | h
  · have h1' : (z.S ++ [b])[n]? = some u := h1
    have h3' : (z.R ++ [p])[n]? = some a := h3
    by_cases hn : n < z.S.length
    · rw [List.getElem?_append_left hn] at h1'
      rw [List.getElem?_append_left (by rw [k.len]; exact hn)] at h3'
      exact .inl (.inl ⟨n, u, h1', h2, h3'⟩)
    · rw [List.getElem?_append_right (by rw [k.len]; omega)] at h3'
      have : a ∈ [p] := List.mem_of_getElem? h3'
      exact .inr (by simpa using this)
  · exact .inl (.inr h)
theorem ext_push {p : Addr} {o : HO} {b : Ob} (np : z.H p = none) (k : SOk K M z) : Ext z (z.push p o b) where
  keep := (ext_put (o := o) np k).keep
  nw := fun a h n q => by
    rcases ow_push k a q with q | q
    · exact n q
    · obtain ⟨w, e, _⟩ := h
      rw [q, np] at e
      cases e
  tup := (ext_put (o := o) np k).tup
  frz := (ext_put (o := o) np k).frz
  xds := (ext_put (o := o) np k).xds
  pre := ⟨[p], rfl⟩
  grow := by
    show z.S.length ≤ (z.S ++ [b]).length
    rw [List.length_append]
    exact Nat.le_add_right _ _
  gh := rfl
  gk := (ext_put (o := o) np k).gk
theorem not_R (np : z.H p = none) (k : SOk K M z) : p ∉ z.R := fun h => by
  obtain ⟨n, hn, e⟩ := List.getElem_of_mem h
  have hs : n < z.S.length := by rw [← k.len]; exact hn
  have q := k.obj n _ p (List.getElem?_eq_getElem hs) (by rw [List.getElem?_eq_getElem hn, e])
  cases hu : z.S[n] with
  | lst fz l =>
    rw [hu] at q
    obtain ⟨vs, h, _⟩ := q
    rw [np] at h
    cases h
  | dic fz l =>
    rw [hu] at q
    obtain ⟨vs, h, _⟩ := q
    rw [np] at h
    cases h
  | arr l =>
    rw [hu] at q
    obtain ⟨_, vs, h, _⟩ := q
    rw [np] at h
    cases h
theorem sok_push {p : Addr} {o : HO} {b : Ob} (np : z.H p = none) (k : SOk K M z) (hb : ObE K M (z.push p o b) p b) : SOk K M (z.push p o b) where
  len := by
    show (z.R ++ [p]).length = (z.S ++ [b]).length
    rw [List.length_append, List.length_append, k.len]
    rfl
  nd := by
    show (z.R ++ [p]).Nodup
    rw [List.nodup_append]
    refine ⟨k.nd, by simp, fun a ha c hc e => ?_⟩
    have : c = p := by simpa using hc
    subst this
    subst e
    exact not_R np k ha
  gR := fun g hg h => by
    have h' : g ∈ z.R ++ [p] := h
    rcases List.mem_append.mp h' with h' | h'
    · exact k.gR g hg h'
    · have e : g = p := by simpa using h'
      obtain ⟨xs, q, _⟩ := k.gT g hg
      rw [e, np] at q
      cases q
  gT := fun g hg => by
    obtain ⟨xs, h, h2⟩ := k.gT g hg
    exact ⟨xs, ((ext_push (o := o) (b := b) np k).gk g hg).trans h, h2⟩
  aux := k.aux.ext (ext_push np k) (tabs_put k.aux.tab np)
  obj := fun n u a h1 h2 => by
    have h1' : (z.S ++ [b])[n]? = some u := h1
    have h2' : (z.R ++ [p])[n]? = some a := h2
    have m := (ext_push (o := o) (b := b) np k).mv
    by_cases hn : n < z.S.length
    · rw [List.getElem?_append_left hn] at h1'
      rw [List.getElem?_append_left (by rw [k.len]; exact hn)] at h2'
      have q := k.obj n u a h1' h2'
      have ne : ∀ w, z.H a = some w → (z.push p o b).H a = some w := fun w h => by
        show upd z.H p o a = _
        rw [upd_ne (ne_of_none h np)]
        exact h
      cases u with
      | lst fz l =>
        obtain ⟨vs, h, e⟩ := q
        exact ⟨vs, ne _ h, e.mv m⟩
      | dic fz l =>
        obtain ⟨vs, h, e⟩ := q
        exact ⟨vs, ne _ h, e.mv m⟩
      | arr l =>
        obtain ⟨ha, vs, h, e⟩ := q
        exact ⟨ha, vs, ne _ h, e.ext (ext_push (o := o) (b := b) np k)⟩
    · rw [List.getElem?_append_right (by rw [k.len]; omega)] at h2'
      have e1 : a ∈ [p] := List.mem_of_getElem? h2'
      have e1 : a = p := by simpa using e1
      rw [List.getElem?_append_right (by omega)] at h1'
      have e2 : u ∈ [b] := List.mem_of_getElem? h1'
      have e2 : u = b := by simpa using e2
      rw [e1, e2]
      exact hb
theorem encA_push {p : Addr} {o : HO} {b : Ob} (k : SOk K M z) : EncA K M (z.push p o b) (.ref z.S.length) (.ref p) := by
  refine .ref ?_ ?_
  · show (z.R ++ [p])[z.S.length]? = some p
    rw [← k.len, List.getElem?_append_right (Nat.le_refl _), Nat.sub_self]
    rfl
  · show z.S.length < (z.S ++ [b]).length
    rw [List.length_append]
    exact Nat.lt_succ_self _
/-- one's own object is changed -/
def Sg.wrt (z : Sg) (n : Nat) (p : Addr) (o : HO) (b : Ob) : Sg := { H := upd z.H p o, S := z.S.set n b, R := z.R, G := z.G }
theorem ow_wrt {n : Nat} {p : Addr} {o : HO} {b u : Ob} (hn : z.S[n]? = some u) (hp : z.R[n]? = some p) (hl : u.live = true) (a : Addr) (h : (z.wrt n p o b).ow a) : z.ow a := by
  rcases h with ⟨m, w, h1, h2, h3⟩ | h
  · have h1' : (z.S.set n b)[m]? = some w := h1
    by_cases e : m = n
    · subst e
      have h3' : z.R[m]? = some a := h3
      exact .inl ⟨m, u, hn, hl, h3'⟩
    · rw [List.getElem?_set_ne (Ne.symm e)] at h1'
      exact .inl ⟨m, w, h1', h2, h3⟩
  · exact .inr h
theorem ow_at {n : Nat} {p : Addr} {u : Ob} (hn : z.S[n]? = some u) (hp : z.R[n]? = some p) (hl : u.live = true) : z.ow p := .inl ⟨n, u, hn, hl, hp⟩
theorem obE_at {p : Addr} {u : Ob} (q : ObE K M z p u) : ∃ w, z.H p = some w ∧ ((∃ xs, w = .lst xs) ∨ ∃ kvs, w = .dK kvs) := by
  cases u with
  | lst fz l =>
    obtain ⟨vs, h, _⟩ := q
    exact ⟨_, h, .inl ⟨_, rfl⟩⟩
  | dic fz l =>
    obtain ⟨vs, h, _⟩ := q
    exact ⟨_, h, .inr ⟨_, rfl⟩⟩
  | arr l =>
    obtain ⟨_, vs, h, _⟩ := q
    exact ⟨_, h, .inl ⟨_, rfl⟩⟩
theorem ext_wrt {n : Nat} {p : Addr} {o : HO} {b u : Ob} (k : SOk K M z) (hn : z.S[n]? = some u) (hp : z.R[n]? = some p) (hl : u.live = true) : Ext z (z.wrt n p o b) := by
  have no : ∀ a w, z.H a = some w → ¬ ObE K M z a u → True := fun _ _ _ _ => trivial
  have q := k.obj n u p hn hp
  have hw : ∃ w, z.H p = some w ∧ ((∃ vs, w = .lst vs) ∨ ∃ kvs, w = .dK kvs) := by
    cases u with
    | lst fz l =>
      obtain ⟨vs, h, _⟩ := q
      exact ⟨_, h, .inl ⟨_, rfl⟩⟩
    | dic fz l =>
      obtain ⟨vs, h, _⟩ := q
      exact ⟨_, h, .inr ⟨_, rfl⟩⟩
    | arr l =>
      obtain ⟨_, vs, h, _⟩ := q
      exact ⟨_, h, .inl ⟨_, rfl⟩⟩
  obtain ⟨w, hw, hk⟩ := hw
  have nep : ∀ a v, z.H a = some v → ((∃ vs, v = .lst vs) ∨ ∃ kvs, v = .dK kvs) ∨ a ≠ p := fun a v h => by
    by_cases e : a = p
    · subst e
      rw [hw] at h
      cases h
      exact .inl hk
    · exact .inr e
  refine ⟨fun a v h nw _ => ?_, fun a h nw r => nw (ow_wrt hn hp hl a r), fun a xs h => ?_, fun a v w h => ?_, fun a fs h => ?_, ⟨[], (List.append_nil _).symm⟩, ?_, rfl, fun g hg => ?_⟩
  · show upd z.H p o a = some v
    rw [upd_ne (fun e => nw (by rw [e]; exact ow_at hn hp hl))]
    exact h
  · show upd z.H p o a = _
    rw [upd_ne ((nep a _ h).resolve_left fun r => by rcases r with ⟨_, r⟩ | ⟨_, r⟩ <;> cases r)]
    exact h
  · show upd z.H p o a = _
    rw [upd_ne ((nep a _ h).resolve_left fun r => by rcases r with ⟨_, r⟩ | ⟨_, r⟩ <;> cases r)]
    exact h
  · show upd z.H p o a = _
    rw [upd_ne ((nep a _ h).resolve_left fun r => by rcases r with ⟨_, r⟩ | ⟨_, r⟩ <;> cases r)]
    exact h
  · show z.S.length ≤ (z.S.set n b).length
    rw [List.length_set]
    exact Nat.le_refl _
  · show upd z.H p o g = z.H g
    rw [upd_ne]
    rintro rfl
    exact k.gR _ hg (List.mem_of_getElem? hp)
theorem nodup_at {l : List Addr} (h : l.Nodup) {i j : Nat} {a : Addr} (hi : l[i]? = some a) (hj : l[j]? = some a) : i = j := by
  obtain ⟨h1, e1⟩ := List.getElem?_eq_some_iff.mp hi
  obtain ⟨h2, e2⟩ := List.getElem?_eq_some_iff.mp hj
  exact (List.getElem_inj h).mp (e1.trans e2.symm)
theorem sok_wrt {n : Nat} {p : Addr} {o : HO} {b u : Ob} (k : SOk K M z) (hn : z.S[n]? = some u) (hp : z.R[n]? = some p) (hl : u.live = true) (hb : ObE K M (z.wrt n p o b) p b) : SOk K M (z.wrt n p o b) where
  len := by
    show z.R.length = (z.S.set n b).length
    rw [List.length_set]
    exact k.len
  nd := k.nd
  gR := k.gR
  gT := fun g hg => by
    obtain ⟨xs, h, h2⟩ := k.gT g hg
    exact ⟨xs, ((ext_wrt (o := o) (b := b) k hn hp hl).gk g hg).trans h, h2⟩
  aux := k.aux.ext (ext_wrt k hn hp hl) (by
    obtain ⟨w, h, hw⟩ := obE_at (k.obj n u p hn hp)
    exact tabs_wr k.aux.tab h hw)
  obj := fun m w a h1 h2 => by
    have h1' : (z.S.set n b)[m]? = some w := h1
    have h2' : z.R[m]? = some a := h2
    by_cases e : m = n
    · subst e
      rw [hp] at h2'
      cases h2'
      have hm : m < z.S.length := (List.getElem?_eq_some_iff.mp hn).1
      rw [List.getElem?_set_self hm] at h1'
      cases h1'
      exact hb
    · rw [List.getElem?_set_ne (Ne.symm e)] at h1'
      have q := k.obj m w a h1' h2'
      have ne : a ≠ p := fun r => by
        subst r
        exact e (nodup_at k.nd h2' hp)
      have m' := (ext_wrt (o := o) (b := b) k hn hp hl).mv
      have kp : ∀ v, z.H a = some v → (z.wrt n p o b).H a = some v := fun v h => by
        show upd z.H p o a = _
        rw [upd_ne ne]
        exact h
      cases w with
      | lst fz l =>
        obtain ⟨vs, h, r⟩ := q
        exact ⟨vs, kp _ h, r.mv m'⟩
      | dic fz l =>
        obtain ⟨vs, h, r⟩ := q
        exact ⟨vs, kp _ h, r.mv m'⟩
      | arr l =>
        obtain ⟨ha, vs, h, r⟩ := q
        exact ⟨ha, vs, kp _ h, r.ext (ext_wrt (o := o) (b := b) k hn hp hl)⟩
/-- what may be read at a reference -/
theorem ref_lst {n : Nat} {v : V} {fz : Bool} {l : List D} (k : SOk K M z) (h : EncA K M z (.ref n) v) (hs : z.S[n]? = some (.lst fz l)) : ∃ a vs, v = .ref a ∧ z.R[n]? = some a ∧ z.H a = some (.lst vs) ∧ EncL K M z.H z.ow l vs := by
  cases h with
  | ref h _ =>
    obtain ⟨vs, h1, h2⟩ := k.obj n _ _ hs h
    exact ⟨_, vs, rfl, h, h1, h2⟩
  | of h => cases h
theorem ref_arr {n : Nat} {v : V} {l : List D} (k : SOk K M z) (h : EncA K M z (.ref n) v) (hs : z.S[n]? = some (.arr l)) : M.arr = true ∧ (∀ d ∈ l, d ≠ .fn) ∧ ∃ a vs, v = .ref a ∧ z.R[n]? = some a ∧ z.H a = some (.lst vs) ∧ EncAs K M z l vs := by
  cases h with
  | ref h _ =>
    obtain ⟨⟨h0, h00⟩, vs, h1, h2⟩ := k.obj n _ _ hs h
    exact ⟨h0, h00, _, vs, rfl, h, h1, h2⟩
  | of h => cases h
theorem ref_dic {n : Nat} {v : V} {fz : Bool} {l : List (D × D)} (k : SOk K M z) (h : EncA K M z (.ref n) v) (hs : z.S[n]? = some (.dic fz l)) : ∃ a kvs, v = .ref a ∧ z.R[n]? = some a ∧ z.H a = some (.dK kvs) ∧ EncP K M z.H z.ow l kvs := by
  cases h with
  | ref h _ =>
    obtain ⟨vs, h1, h2⟩ := k.obj n _ _ hs h
    exact ⟨_, vs, rfl, h, h1, h2⟩
  | of h => cases h
/-! ### what comes of a plain function -/
def EncX (K : PySem.W.Frag) (M : Lm) (z : Sg) (e : D) (cls : Value) (d : Option Addr) : Prop :=
  ∃ k l vs, e = .exc k l ∧ cls = .ref (M.cls k) ∧ XFld M z.H k d vs ∧ EncL K M z.H z.ow l vs
def Out {α β : Type} (K : PySem.W.Frag) (M : Lm) (enc : Sg → α → β → Prop) (W : WX) (σ : St) (z : Sg) (Q : β → Hp → Prop) : Res α → Prop
  | .ok a S' => ∀ z' b, z'.S = S' → Ext z z' → SOk K M z' → enc z' a b → Q b z'.H
  | .ex e S' => ∀ z' cls d, z'.S = S' → Ext z z' → SOk K M z' → EncX K M z' e cls d → W cls d σ z'.H
  | .bad => False
theorem Out.rebase {α β : Type} {enc : Sg → α → β → Prop} {W : WX} {σ : St} {Q : β → Hp → Prop} {r : Res α} (x : Ext z z') (h : Out K M enc W σ z Q r) : Out K M enc W σ z' Q r := by
  cases r with
  | ok a S => exact fun z2 b e1 e2 k q => h z2 b e1 (x.trans e2) k q
  | ex e S => exact fun z2 c d e1 e2 k q => h z2 c d e1 (x.trans e2) k q
  | bad => exact h
theorem Out.bind {α β γ δ : Type} {enc1 : Sg → α → β → Prop} {enc2 : Sg → γ → δ → Prop} {W : WX} {σ : St} {Q : δ → Hp → Prop} {r : Res α} {f : α → Sto → Res γ} (h : Out K M enc2 W σ z Q (r.bind f)) :
    Out K M enc1 W σ z (fun b H1 => ∃ a z1, z1.H = H1 ∧ r = .ok a z1.S ∧ Ext z z1 ∧ SOk K M z1 ∧ enc1 z1 a b ∧ Out K M enc2 W σ z1 Q (f a z1.S)) r := by
  cases r with
  | ok a S =>
    intro z1 b e1 x k q
    subst e1
    exact ⟨a, z1, rfl, rfl, x, k, q, Out.rebase x h⟩
  | ex e S => exact h
  | bad => exact h
theorem Out.imp {α β : Type} {enc : Sg → α → β → Prop} {W : WX} {σ : St} {Q Q' : β → Hp → Prop} {r : Res α} (h : Out K M enc W σ z Q r) (i : ∀ b H, Q b H → Q' b H) : Out K M enc W σ z Q' r := by
  cases r with
  | ok a S => exact fun z2 b e1 e2 k q => i _ _ (h z2 b e1 e2 k q)
  | ex e S => exact h
  | bad => exact h
/-- the readings -/
def tG {α β : Type} (K : PySem.W.Frag) (M : Lm) (enc : Sg → α → β → Prop) (W : WX) (f : Env → Sto → Res α) : St → Hp → (β → Hp → Prop) → Prop := fun σ H Q =>
  ∃ env z, z.H = H ∧ SOk K M z ∧ EnvOk K M z env σ ∧ Out K M enc W σ z Q (f env z.S)
abbrev tE (K : PySem.W.Frag) (M : Lm) (W : WX) (f : Env → Sto → Res D) : TE := tG K M (EncA K M) W f
abbrev tT (K : PySem.W.Frag) (M : Lm) (W : WX) (f : Env → Sto → Res Bool) : TT := tG K M (fun _ a b => a = b) W f
abbrev tAs (K : PySem.W.Frag) (M : Lm) (W : WX) (f : Env → Sto → Res (List D)) : TA := tG K M (EncAs K M) W f
/-- what a statement comes to -/
def OutS (K : PySem.W.Frag) (M : Lm) (W : WX) (D : Ends) (z : Sg) : SR → Prop
  | .nx env S' => ∀ z' σ', z'.S = S' → Ext z z' → SOk K M z' → EnvOk K M z' env σ' → D.nx σ' z'.H
  | .rt d S' => ∀ z' v, z'.S = S' → Ext z z' → SOk K M z' → EncA K M z' d v → D.rt v z'.H
  | .bk env S' => ∀ z' σ', z'.S = S' → Ext z z' → SOk K M z' → EnvOk K M z' env σ' → D.bk σ' z'.H
  | .ct env S' => ∀ z' σ', z'.S = S' → Ext z z' → SOk K M z' → EnvOk K M z' env σ' → D.ct σ' z'.H
  | .ex e env S' => ∀ z' σ' cls d, z'.S = S' → Ext z z' → SOk K M z' → EnvOk K M z' env σ' → EncX K M z' e cls d → W cls d σ' z'.H
  | .bad => False
theorem OutS.rebase {W : WX} {D : Ends} {r : SR} (x : Ext z z') (h : OutS K M W D z r) : OutS K M W D z' r := by
  cases r with
  | nx env S => exact fun z2 b e1 e2 k q => h z2 b e1 (x.trans e2) k q
  | rt d S => exact fun z2 b e1 e2 k q => h z2 b e1 (x.trans e2) k q
  | bk env S => exact fun z2 b e1 e2 k q => h z2 b e1 (x.trans e2) k q
  | ct env S => exact fun z2 b e1 e2 k q => h z2 b e1 (x.trans e2) k q
  | ex e env S => exact fun z2 σ' c d e1 e2 k q r => h z2 σ' c d e1 (x.trans e2) k q r
  | bad => exact h
def tS (K : PySem.W.Frag) (M : Lm) (W : WX) (f : Env → Sto → SR) : TS := fun D σ H =>
  ∃ env z, z.H = H ∧ SOk K M z ∧ EnvOk K M z env σ ∧ OutS K M W D z (f env z.S)
theorem Out.thn {α β : Type} {enc : Sg → α → β → Prop} {W : WX} {σ : St} {D : Ends} {r : Res α} {env : Env} {f : α → Sto → SR} (v : EnvOk K M z env σ) (h : OutS K M W D z (r.thn env f)) :
    Out K M enc W σ z (fun b H1 => ∃ a z1, z1.H = H1 ∧ r = .ok a z1.S ∧ Ext z z1 ∧ SOk K M z1 ∧ enc z1 a b ∧ EnvOk K M z1 env σ ∧ OutS K M W D z1 (f a z1.S)) r := by
  cases r with
  | ok a S =>
    intro z1 b e1 x k q
    subst e1
    exact ⟨a, z1, rfl, rfl, x, k, q, v.ext x, OutS.rebase x h⟩
  | ex e S => exact fun z1 c d e1 x k q => h z1 σ c d e1 x k (v.ext x) q
  | bad => exact h
end
/-! ### derivations -/
section
variable {X : Cx} {M : Lm} {W : WX}
theorem pe_imp {e : Expr} {t t' : TE} (h : PE X e t) (i : ∀ σ H Q, t' σ H Q → t σ H Q) : PE X e t' := ⟨fun pins s σ H Q I q => h.run pins s σ H Q I (i _ _ _ q)⟩
theorem pt_imp {e : Expr} {t t' : TT} (h : PT X e t) (i : ∀ σ H Q, t' σ H Q → t σ H Q) : PT X e t' := ⟨fun pins s σ H Q I q => h.run pins s σ H Q I (i _ _ _ q)⟩
theorem pw_imp {e : Expr} {t t' : TT} (h : PW X e t) (i : ∀ σ H Q, t' σ H Q → t σ H Q) : PW X e t' := ⟨fun wh pins s σ H Q I q => h.run wh pins s σ H Q I (i _ _ _ q)⟩
theorem pa_imp {e : List Expr} {t t' : TA} (h : PA X e t) (i : ∀ σ H Q, t' σ H Q → t σ H Q) : PA X e t' := ⟨fun pos pins s σ H Q I q => h.run pos pins s σ H Q I (i _ _ _ q)⟩
theorem ps_imp {e : Stmt} {t t' : TS} (h : PS X e t) (i : ∀ D σ H, t' D σ H → t D σ H) : PS X e t' := ⟨fun pins s σ H D I q => h.run pins s σ H D I (i _ _ _ q)⟩
theorem pss_imp {e : List Stmt} {t t' : TS} (h : PSs X e t) (i : ∀ D σ H, t' D σ H → t D σ H) : PSs X e t' := ⟨fun pins s σ H D I q => h.run pins s σ H D I (i _ _ _ q)⟩
def SE (X : Cx) (M : Lm) (W : WX) (e : Expr) (f : Env → Sto → Res D) : Prop := PE X e (tE X.K M W f)
def ST (X : Cx) (M : Lm) (W : WX) (e : Expr) (f : Env → Sto → Res Bool) : Prop := PT X e (tT X.K M W f)
def SW (X : Cx) (M : Lm) (W : WX) (e : Expr) (f : Env → Sto → Res Bool) : Prop := PW X e (tT X.K M W f)
def SA (X : Cx) (M : Lm) (W : WX) (e : List Expr) (f : Env → Sto → Res (List D)) : Prop := PA X e (tAs X.K M W f)
def SS (X : Cx) (M : Lm) (W : WX) (e : Stmt) (f : Env → Sto → SR) : Prop := PS X e (tS X.K M W f)
def SSs (X : Cx) (M : Lm) (W : WX) (e : List Stmt) (f : Env → Sto → SR) : Prop := PSs X e (tS X.K M W f)

/-- names -/
def varF (i : Nat) : Env → Sto → Res D := fun env S => match env[i]? with
  | some (some d) => .ok d S
  | _ => .bad
theorem s_var (i : Nat) {x : Str} {pos : Pos} (hN : X.N[i]? = some x := by rfl) (hv : Vis X.env.scope x := by first | exact Or.inl rfl | exact Or.inr (Or.inl rfl) | exact Or.inr (Or.inr rfl)) (hd : (x == ("__debug__" : Str)) = false := by decide)
    (hcd : (x == ("__classdict__" : Str)) = false := by decide) : SE X M W (.Name x pos) (varF i) := by
  refine pe_imp (pe_var hN hv hd hcd) fun σ H Q h => ?_
  obtain ⟨env, z, rfl, k, v, h⟩ := h
  show ∃ u, σ[i]? = some (some u) ∧ Q u z.H
  unfold varF at h
  split at h
  · rename_i d e
    obtain ⟨u, h1, h2⟩ := v.2 i d e
    exact ⟨u, h1, h z u rfl (Ext.refl z) k h2⟩
  · exact h.elim
/-- constants -/
def conF (d : D) : Env → Sto → Res D := fun _ S => .ok d S
theorem tc_of {σ : St} {H : Hp} {Q : VK} {d : D} {v : V} (e : ∀ H ow, Enc X.K M H ow d v) (h : tE X.K M W (conF d) σ H Q) : tC v σ H Q := by
  obtain ⟨env, z, rfl, k, _, h⟩ := h
  exact h z v rfl (Ext.refl z) k (.of (e _ _))
theorem s_int {i : Int} {j : Nat} {pos : Pos} : SE X M W (.Constant (.int i) j pos) (conF (.int i)) := pe_imp pe_int fun _ _ _ h => tc_of (fun _ _ => .int i) h
theorem s_bl {b : Bool} {j : Nat} {pos : Pos} : SE X M W (.Constant (.bool b) j pos) (conF (.bl b)) := pe_imp pe_bl fun _ _ _ h => tc_of (fun _ _ => .bl b) h
theorem s_non {j : Nat} {pos : Pos} : SE X M W (.Constant .none j pos) (conF .non) := pe_imp pe_non fun _ _ _ h => tc_of (fun _ _ => .non) h
theorem s_str {x : Str} (s : List Nat) {j : Nat} {pos : Pos} (e : x = ⟨s.toArray⟩ := by decide +kernel) : SE X M W (.Constant (.str x) j pos) (conF (.str s)) := by
  subst e
  exact pe_imp pe_str fun _ _ _ h => tc_of (fun _ _ => .str s) h

/-! ### statements -/
def nopF : Env → Sto → SR := fun env S => .nx env S
def seqF (f g : Env → Sto → SR) : Env → Sto → SR := fun env S => (f env S).seq g
def ifF (t : Env → Sto → Res Bool) (f g : Env → Sto → SR) : Env → Sto → SR := fun env S => (t env S).thn env fun b S1 => match b with
  | true => f env S1
  | false => g env S1
def setF (i : Nat) (f : Env → Sto → Res D) : Env → Sto → SR := fun env S => (f env S).thn env fun d S1 => .nx (env.set i (some d)) S1
def retF (f : Env → Sto → Res D) : Env → Sto → SR := fun env S => (f env S).thn env fun d S1 => .rt d S1
def dropF (f : Env → Sto → Res D) : Env → Sto → SR := fun env S => (f env S).thn env fun _ S1 => .nx env S1
def brkF : Env → Sto → SR := fun env S => .bk env S
def cntF : Env → Sto → SR := fun env S => .ct env S
def retN : Env → Sto → SR := fun _ S => .rt .non S
theorem ss_nil : SSs X M W [] nopF := by
  refine pss_imp pss_nil fun D σ H h => ?_
  obtain ⟨env, z, rfl, k, v, h⟩ := h
  exact h z σ rfl (Ext.refl z) k v
theorem ss_one {st : Stmt} {f : Env → Sto → SR} (h : SS X M W st f) : SSs X M W [st] f := pss_one h
theorem ss_cons {st : Stmt} {rest : List Stmt} {f g : Env → Sto → SR} (h1 : SS X M W st f) (h2 : SSs X M W rest g) : SSs X M W (st :: rest) (seqF f g) := by
  refine pss_imp (pss_cons h1 h2) fun D σ H h => ?_
  obtain ⟨env, z, rfl, k, v, h⟩ := h
  refine ⟨env, z, rfl, k, v, ?_⟩
  unfold seqF at h
  cases r : f env z.S with
  | nx env' S' =>
    rw [r] at h
    intro z' σ' e1 x k' v'
    subst e1
    exact ⟨env', z', rfl, k', v', OutS.rebase x h⟩
  | rt d S' =>
    rw [r] at h
    exact h
  | bk env' S' =>
    rw [r] at h
    exact h
  | ct env' S' =>
    rw [r] at h
    exact h
  | ex e env' S' =>
    rw [r] at h
    exact h
  | bad =>
    rw [r] at h
    exact h
theorem ss_if {c : Expr} {a b : List Stmt} {pos : Pos} {t : Env → Sto → Res Bool} {f g : Env → Sto → SR} (hc : ST X M W c t) (ha : SSs X M W a f) (hb : SSs X M W b g) : SS X M W (.If c a b pos) (ifF t f g) := by
  refine ps_imp (ps_if hc ha hb) fun D σ H h => ?_
  obtain ⟨env, z, rfl, k, v, h⟩ := h
  refine ⟨env, z, rfl, k, v, (Out.thn v h).imp fun b H1 q => ?_⟩
  obtain ⟨a, z1, rfl, _, x, k1, rfl, v1, h1⟩ := q
  cases a with
  | true => exact ⟨env, z1, rfl, k1, v1, h1⟩
  | false => exact ⟨env, z1, rfl, k1, v1, h1⟩
theorem ss_ret {e : Expr} {pos : Pos} {f : Env → Sto → Res D} (he : SE X M W e f) : SS X M W (.Return (some e) pos) (retF f) := by
  refine ps_imp (ps_ret he) fun D σ H h => ?_
  obtain ⟨env, z, rfl, k, v, h⟩ := h
  refine ⟨env, z, rfl, k, v, (Out.thn v h).imp fun b H1 q => ?_⟩
  obtain ⟨a, z1, rfl, _, x, k1, q, v1, h1⟩ := q
  exact h1 z1 b rfl (Ext.refl z1) k1 q
theorem ss_retN {pos : Pos} : SS X M W (.Return none pos) retN := by
  refine ps_imp ps_retN fun D σ H h => ?_
  obtain ⟨env, z, rfl, k, v, h⟩ := h
  exact h z .non rfl (Ext.refl z) k (.of .non)
theorem ss_expr {e : Expr} {pos : Pos} {f : Env → Sto → Res D} (he : SE X M W e f) (hs : swapsWith e none pos.line X.env = pure false := by rfl) : SS X M W (.Expr e pos) (dropF f) := by
  refine ps_imp (ps_expr he hs) fun D σ H h => ?_
  obtain ⟨env, z, rfl, k, v, h⟩ := h
  refine ⟨env, z, rfl, k, v, (Out.thn v h).imp fun b H1 q => ?_⟩
  obtain ⟨a, z1, rfl, _, x, k1, q, v1, h1⟩ := q
  exact h1 z1 σ rfl (Ext.refl z1) k1 v1
theorem ss_set (i : Nat) {x : Str} {e : Expr} {pos pos' : Pos} {f : Env → Sto → Res D} (hN : X.N.Nodup) (he : SE X M W e f) (hi : X.N[i]? = some x := by rfl) (hx : Loc X.env.scope x := by first | exact Or.inl rfl | exact Or.inr rfl)
    (hs : swapsWith e (some (.Name x pos')) pos.line X.env = pure false := by rfl) (hf : X.fn x = true ∨ X.env.scope.names.lookup x = some .local := by first | exact .inl rfl | exact .inr rfl) : SS X M W (.Assign [.Name x pos'] e pos) (setF i f) := by
  refine ps_imp (ps_set hN hi hx he hs hf) fun D σ H h => ?_
  obtain ⟨env, z, rfl, k, v, h⟩ := h
  refine ⟨env, z, rfl, k, v, (Out.thn v h).imp fun b H1 q => ?_⟩
  obtain ⟨a, z1, rfl, _, x, k1, q, v1, h1⟩ := q
  exact h1 z1 _ rfl (Ext.refl z1) k1 (v1.set i q)
theorem ss_pass {pos : Pos} : SS X M W (.Pass pos) nopF := by
  refine ps_imp ps_pass fun D σ H h => ?_
  obtain ⟨env, z, rfl, k, v, h⟩ := h
  exact h z σ rfl (Ext.refl z) k v
theorem ss_break {pos : Pos} : SS X M W (.Break pos) brkF := by
  refine ps_imp ps_break fun D σ H h => ?_
  obtain ⟨env, z, rfl, k, v, h⟩ := h
  exact h z σ rfl (Ext.refl z) k v
theorem ss_continue {pos : Pos} : SS X M W (.Continue pos) cntF := by
  refine ps_imp ps_continue fun D σ H h => ?_
  obtain ⟨env, z, rfl, k, v, h⟩ := h
  exact h z σ rfl (Ext.refl z) k v
/-- what is never reached in what is proved -/
def neverF : Env → Sto → SR := fun _ _ => .bad
theorem ss_never {st : Stmt} : SS X M W st neverF := by
  refine ps_imp ps_never fun D σ H h => ?_
  obtain ⟨env, z, rfl, k, v, h⟩ := h
  exact h
/-! ### tests, and, or, not -/
def isB (f : Env → Sto → Res D) : Env → Sto → Res Bool := fun env S => (f env S).bind fun d S1 => match d with
  | .bl b => .ok b S1
  | _ => .bad
theorem encA_bl {z : Sg} {b : Bool} {v : V} {K : PySem.W.Frag} (h : EncA K M z (.bl b) v) : v = .bl b := by
  cases h with
  | of h =>
    cases h
    rfl
theorem encA_int {z : Sg} {b : Int} {v : V} {K : PySem.W.Frag} (h : EncA K M z (.int b) v) : v = .int b := by
  cases h with
  | of h =>
    cases h
    rfl
theorem encA_non {z : Sg} {v : V} {K : PySem.W.Frag} (h : EncA K M z .non v) : v = .non := by
  cases h with
  | of h =>
    cases h
    rfl
theorem encA_str {z : Sg} {s : List Nat} {v : V} {K : PySem.W.Frag} (h : EncA K M z (.str s) v) : v = .str ⟨s.toArray⟩ := by
  cases h with
  | of h =>
    cases h
    rfl
theorem st_val {e : Expr} {f : Env → Sto → Res D} (h : SE X M W e f) (he : ∀ whole, isTrue e X.env whole = (do let v ← whole; standAt e.pos; holding [v] (truthy v)) := by intro _; rfl) : ST X M W e (isB f) := by
  refine pt_imp (pt_val h he) fun σ H Q h => ?_
  obtain ⟨env, z, rfl, k, v, h⟩ := h
  refine ⟨env, z, rfl, k, v, (Out.bind h).imp fun b H1 q => ?_⟩
  obtain ⟨a, z1, rfl, _, x, k1, q, h1⟩ := q
  cases a with
  | bl c => exact ⟨c, encA_bl q, h1 z1 c rfl (Ext.refl z1) k1 rfl⟩
  | _ => exact h1.elim
def andT (f g : Env → Sto → Res Bool) : Env → Sto → Res Bool := fun env S => (f env S).bind fun b S1 => match b with
  | true => g env S1
  | false => .ok false S1
def orT (f g : Env → Sto → Res Bool) : Env → Sto → Res Bool := fun env S => (f env S).bind fun b S1 => match b with
  | true => .ok true S1
  | false => g env S1
def notT (f : Env → Sto → Res Bool) : Env → Sto → Res Bool := fun env S => (f env S).bind fun b S1 => .ok (!b) S1
theorem sw_and1 {a : Expr} {pos : Pos} {f : Env → Sto → Res Bool} (h : ST X M W a f) : SW X M W (.BoolOp .And [a] pos) f := pw_and1 h
theorem sw_or1 {a : Expr} {pos : Pos} {f : Env → Sto → Res Bool} (h : ST X M W a f) : SW X M W (.BoolOp .Or [a] pos) f := pw_or1 h
theorem sw_and {a b : Expr} {rest : List Expr} {pos : Pos} {f g : Env → Sto → Res Bool} (ha : ST X M W a f) (hb : SW X M W (.BoolOp .And (b :: rest) pos) g) : SW X M W (.BoolOp .And (a :: b :: rest) pos) (andT f g) := by
  refine pw_imp (pw_and ha hb) fun σ H Q h => ?_
  obtain ⟨env, z, rfl, k, v, h⟩ := h
  refine ⟨env, z, rfl, k, v, (Out.bind h).imp fun b H1 q => ?_⟩
  obtain ⟨a, z1, rfl, _, x, k1, rfl, h1⟩ := q
  cases a with
  | true => exact ⟨env, z1, rfl, k1, v.ext x, h1⟩
  | false => exact h1 z1 false rfl (Ext.refl z1) k1 rfl
theorem sw_or {a b : Expr} {rest : List Expr} {pos : Pos} {f g : Env → Sto → Res Bool} (ha : ST X M W a f) (hb : SW X M W (.BoolOp .Or (b :: rest) pos) g) : SW X M W (.BoolOp .Or (a :: b :: rest) pos) (orT f g) := by
  refine pw_imp (pw_or ha hb) fun σ H Q h => ?_
  obtain ⟨env, z, rfl, k, v, h⟩ := h
  refine ⟨env, z, rfl, k, v, (Out.bind h).imp fun b H1 q => ?_⟩
  obtain ⟨a, z1, rfl, _, x, k1, rfl, h1⟩ := q
  cases a with
  | true => exact h1 z1 true rfl (Ext.refl z1) k1 rfl
  | false => exact ⟨env, z1, rfl, k1, v.ext x, h1⟩
theorem st_w {e : Expr} {f : Env → Sto → Res Bool} (h : SW X M W e f) : ST X M W e f := PW.pt h
theorem st_not {a : Expr} {pos : Pos} {f : Env → Sto → Res Bool} (h : ST X M W a f) : ST X M W (.UnaryOp .Not a pos) (notT f) := by
  refine pt_imp (pt_not h) fun σ H Q h => ?_
  obtain ⟨env, z, rfl, k, v, h⟩ := h
  refine ⟨env, z, rfl, k, v, (Out.bind h).imp fun b H1 q => ?_⟩
  obtain ⟨a, z1, rfl, _, x, k1, rfl, h1⟩ := q
  exact h1 z1 (!a) rfl (Ext.refl z1) k1 rfl
/-- as values -/
def andV (f g : Env → Sto → Res D) : Env → Sto → Res D := fun env S => (f env S).bind fun d S1 => match d with
  | .bl true => g env S1
  | .bl false => .ok (.bl false) S1
  | _ => .bad
def orV (f g : Env → Sto → Res D) : Env → Sto → Res D := fun env S => (f env S).bind fun d S1 => match d with
  | .bl true => .ok (.bl true) S1
  | .bl false => g env S1
  | _ => .bad
def notV (f : Env → Sto → Res D) : Env → Sto → Res D := fun env S => (f env S).bind fun d S1 => match d with
  | .bl b => .ok (.bl (!b)) S1
  | _ => .bad
theorem s_one {op : BoolOp} {a : Expr} {pos : Pos} {f : Env → Sto → Res D} (h : SE X M W a f) : SE X M W (.BoolOp op [a] pos) f := pe_one h
theorem s_and {a b : Expr} {rest : List Expr} {pos : Pos} {f g : Env → Sto → Res D} (ha : SE X M W a f) (hb : SE X M W (.BoolOp .And (b :: rest) pos) g) : SE X M W (.BoolOp .And (a :: b :: rest) pos) (andV f g) := by
  refine pe_imp (pe_and ha hb) fun σ H Q h => ?_
  obtain ⟨env, z, rfl, k, v, h⟩ := h
  refine ⟨env, z, rfl, k, v, (Out.bind h).imp fun b H1 q => ?_⟩
  obtain ⟨a, z1, rfl, _, x, k1, q, h1⟩ := q
  cases a with
  | bl c =>
    refine ⟨c, encA_bl q, ?_⟩
    cases c with
    | true => exact ⟨env, z1, rfl, k1, v.ext x, h1⟩
    | false => exact h1 z1 _ rfl (Ext.refl z1) k1 (.of (.bl false))
  | _ => exact h1.elim
theorem s_or {a b : Expr} {rest : List Expr} {pos : Pos} {f g : Env → Sto → Res D} (ha : SE X M W a f) (hb : SE X M W (.BoolOp .Or (b :: rest) pos) g) : SE X M W (.BoolOp .Or (a :: b :: rest) pos) (orV f g) := by
  refine pe_imp (pe_or ha hb) fun σ H Q h => ?_
  obtain ⟨env, z, rfl, k, v, h⟩ := h
  refine ⟨env, z, rfl, k, v, (Out.bind h).imp fun b H1 q => ?_⟩
  obtain ⟨a, z1, rfl, _, x, k1, q, h1⟩ := q
  cases a with
  | bl c =>
    refine ⟨c, encA_bl q, ?_⟩
    cases c with
    | true => exact h1 z1 _ rfl (Ext.refl z1) k1 (.of (.bl true))
    | false => exact ⟨env, z1, rfl, k1, v.ext x, h1⟩
  | _ => exact h1.elim
theorem s_not {a : Expr} {pos : Pos} {f : Env → Sto → Res D} (h : SE X M W a f) : SE X M W (.UnaryOp .Not a pos) (notV f) := by
  refine pe_imp (pe_not h) fun σ H Q h => ?_
  obtain ⟨env, z, rfl, k, v, h⟩ := h
  refine ⟨env, z, rfl, k, v, (Out.bind h).imp fun b H1 q => ?_⟩
  obtain ⟨a, z1, rfl, _, x, k1, q, h1⟩ := q
  cases a with
  | bl c => exact ⟨c, encA_bl q, h1 z1 _ rfl (Ext.refl z1) k1 (.of (.bl _))⟩
  | _ => exact h1.elim
def iteF (t : Env → Sto → Res Bool) (f g : Env → Sto → Res D) : Env → Sto → Res D := fun env S => (t env S).bind fun b S1 => match b with
  | true => f env S1
  | false => g env S1
theorem s_ite {c a b : Expr} {pos : Pos} {t : Env → Sto → Res Bool} {f g : Env → Sto → Res D} (hc : ST X M W c t) (ha : SE X M W a f) (hb : SE X M W b g) : SE X M W (.IfExp c a b pos) (iteF t f g) := by
  refine pe_imp (pe_ifExp hc ha hb) fun σ H Q h => ?_
  obtain ⟨env, z, rfl, k, v, h⟩ := h
  refine ⟨env, z, rfl, k, v, (Out.bind h).imp fun b H1 q => ?_⟩
  obtain ⟨a, z1, rfl, _, x, k1, rfl, h1⟩ := q
  cases a with
  | true => exact ⟨env, z1, rfl, k1, v.ext x, h1⟩
  | false => exact ⟨env, z1, rfl, k1, v.ext x, h1⟩
/-! ### argument lists -/
def nilA : Env → Sto → Res (List D) := fun _ S => .ok [] S
def consA (f : Env → Sto → Res D) (g : Env → Sto → Res (List D)) : Env → Sto → Res (List D) := fun env S => (f env S).bind fun d S1 => (g env S1).bind fun l S2 => .ok (d :: l) S2
theorem sa_nil : SA X M W [] nilA := by
  refine pa_imp pa_nil fun σ H Q h => ?_
  obtain ⟨env, z, rfl, k, v, h⟩ := h
  exact h z [] rfl (Ext.refl z) k .nil
theorem sa_cons {e : Expr} {es : List Expr} {f : Env → Sto → Res D} {g : Env → Sto → Res (List D)} (he : SE X M W e f) (hr : SA X M W es g) (hs : starEach (e :: es) X.env = (false, eval e X.env) :: starEach es X.env := by rfl) : SA X M W (e :: es) (consA f g) := by
  refine pa_imp (pa_cons he hr hs) fun σ H Q h => ?_
  obtain ⟨env, z, rfl, k, v, h⟩ := h
  refine ⟨env, z, rfl, k, v, (Out.bind h).imp fun b H1 q => ?_⟩
  obtain ⟨a, z1, rfl, _, x, k1, q, h1⟩ := q
  refine ⟨env, z1, rfl, k1, v.ext x, (Out.bind h1).imp fun b2 H2 q2 => ?_⟩
  obtain ⟨a2, z2, rfl, _, x2, k2, q2, h2⟩ := q2
  exact h2 z2 _ rfl (Ext.refl z2) k2 (.cons (q.ext x2) q2)
end
end Sm
/-! Sm3: loops, defs, calls. -/
namespace Sm
open PySem PySem.Spec PyProof.Rows L2
/-! ### while -/
def whileN (t : Env → Sto → Res Bool) (b : Env → Sto → SR) : Nat → Env → Sto → SR
  | 0, _, _ => .bad
  | n + 1, env, S => (t env S).thn env fun c S1 => match c with
    | true => match b env S1 with
      | .nx env2 S2 => whileN t b n env2 S2
      | .ct env2 S2 => whileN t b n env2 S2
      | .bk env2 S2 => .nx env2 S2
      | .rt d S2 => .rt d S2
      | .ex e env2 S2 => .ex e env2 S2
      | .bad => .bad
    | false => .nx env S1
/-- the greatest number of turns of a while -/
def FUEL : Nat := 10 ^ 4000
def whileF (t : Env → Sto → Res Bool) (b : Env → Sto → SR) : Env → Sto → SR := fun env S => whileN t b FUEL env S
section
variable {X : Cx} {M : Lm} {W : WX}
theorem ss_while {c : Expr} {body : List Stmt} {pos : Pos} {t : Env → Sto → Res Bool} {b : Env → Sto → SR} (hp : PassesOwn (model X.prog X.w) X.A X.env X.xe) (hc : ST X M W c t) (hb : SSs X M W body b) : SS X M W (.While c body [] pos) (whileF t b) := by
  refine ps_imp (ps_while hp hc hb) fun D σ H h => ?_
  obtain ⟨env, z, rfl, k, v, h⟩ := h
  refine ⟨fun m σ H => ∃ env z, z.H = H ∧ SOk X.K M z ∧ EnvOk X.K M z env σ ∧ OutS X.K M W D z (whileN t b m env z.S), ⟨FUEL, env, z, rfl, k, v, h⟩, ?_⟩
  rintro m σ H ⟨env, z, rfl, k, v, h⟩
  cases m with
  | zero => exact h.elim
  | succ m =>
    refine ⟨env, z, rfl, k, v, (Out.thn v h).imp fun c H1 q => ?_⟩
    obtain ⟨a, z1, rfl, _, x, k1, rfl, v1, h1⟩ := q
    cases a with
    | false => exact h1 z1 σ rfl (Ext.refl z1) k1 v1
    | true =>
      refine ⟨fun σ' H' => ∃ env z, z.H = H' ∧ SOk X.K M z ∧ EnvOk X.K M z env σ' ∧ OutS X.K M W D z (whileN t b m env z.S), fun σ' H' q => ⟨m, Nat.lt_succ_self m, q⟩, env, z1, rfl, k1, v1, ?_⟩
      have h1' : OutS X.K M W D z1 (match b env z1.S with
        | .nx env2 S2 => whileN t b m env2 S2
        | .ct env2 S2 => whileN t b m env2 S2
        | .bk env2 S2 => .nx env2 S2
        | .rt d S2 => .rt d S2
        | .ex e env2 S2 => .ex e env2 S2
        | .bad => .bad) := h1
      cases r : b env z1.S with
      | nx env2 S2 =>
        rw [r] at h1'
        intro z2 σ2 e2 x2 k2 v2
        subst e2
        exact ⟨env2, z2, rfl, k2, v2, OutS.rebase x2 h1'⟩
      | ct env2 S2 =>
        rw [r] at h1'
        intro z2 σ2 e2 x2 k2 v2
        subst e2
        exact ⟨env2, z2, rfl, k2, v2, OutS.rebase x2 h1'⟩
      | bk env2 S2 =>
        rw [r] at h1'
        exact h1'
      | rt d S2 =>
        rw [r] at h1'
        exact h1'
      | ex e env2 S2 =>
        rw [r] at h1'
        exact h1'
      | bad =>
        rw [r] at h1'
        exact h1'
end
/-! ### what is walked -/
/-- the items, and the list of one's own that must stay as it is -/
structure Itm where
  l : List D
  g : Option Nat
  o : Option Ob
def Itm.ok (J : Itm) (S : Sto) : Prop := ∀ n, J.g = some n → S[n]? = J.o
/-- what stays, whatever is in the making -/
structure Wk (z z' : Sg) : Prop where
  mv : Mv z.H z'.H z.ow z'.ow
  pre : ∃ T, z'.R = z.R ++ T
  grow : z.S.length ≤ z'.S.length
theorem Ext.wk {z z' : Sg} (e : Ext z z') : Wk z z' := ⟨e.mv, e.pre, e.grow⟩
theorem Wk.rAt {z z' : Sg} (e : Wk z z') {n : Nat} {a : Addr} (h : z.R[n]? = some a) : z'.R[n]? = some a := by
  obtain ⟨T, q⟩ := e.pre
  have hl : n < z.R.length := (List.getElem?_eq_some_iff.mp h).1
  rw [q, List.getElem?_append_left hl]
  exact h
/-- how the iterator J goes over the items -/
def ItOk (K : PySem.W.Frag) (M : Lm) (z : Sg) (J : It) (I : Itm) : Prop :=
  ∀ z2, Wk z z2 → SOk K M z2 → I.ok z2.S → ∀ i : Nat,
    (∀ d, I.l[i]? = some d → J.go i z2.H ∧ ∀ v H3, J.yld i z2.H v H3 → ∃ z3, z3.H = H3 ∧ z3.S = z2.S ∧ Ext z2 z3 ∧ SOk K M z3 ∧ EncA K M z3 d v) ∧
    (I.l.length ≤ i → J.stop i z2.H)
def tI (K : PySem.W.Frag) (M : Lm) (W : WX) (f : Env → Sto → Res Itm) : TI := tG K M (fun z I J => I.ok z.S ∧ ItOk K M z J I) W f
def SI (X : Cx) (M : Lm) (W : WX) (tg iter : Expr) (f : Env → Sto → Res Itm) : Prop := PI X tg iter (tI X.K M W f)
/-- a target's store: the names' slots; a tuple's parts -/
inductive Tgt where
  | one (i : Nat)
  | many (l : List Tgt)
mutual
def Tgt.put : Tgt → D → Env → Option Env
  | .one i, d, env => some (env.set i (some d))
  | .many ts, .tup l, env => Tgt.puts ts l env
  | .many ts, .lst l, env => Tgt.puts ts l env
  | .many _, _, _ => none
def Tgt.puts : List Tgt → List D → Env → Option Env
  | [], [], env => some env
  | t :: ts, d :: l, env => match t.put d env with
    | some env' => Tgt.puts ts l env'
    | none => none
  | [], _ :: _, _ => none
  | _ :: _, [], _ => none
end
/-- the target's rule: whatever is stored, it comes to what put tells -/
def TgOk (K : PySem.W.Frag) (M : Lm) (g : TG) (t : Tgt) : Prop := ∀ (z : Sg) (env env' : Env) (σ : St) (d : D) (v : V) (Q : St → Hp → Prop), SOk K M z → EnvOk K M z env σ → EncA K M z d v → t.put d env = some env' →
  (∀ σ', EnvOk K M z env' σ' → Q σ' z.H) → g v σ z.H Q
def TgsOk (K : PySem.W.Frag) (M : Lm) (g : TGs) (ts : List Tgt) : Prop := ∀ (z : Sg) (env env' : Env) (σ : St) (l : List D) (vs : List V) (Q : St → Hp → Prop), SOk K M z → EnvOk K M z env σ → EncL K M z.H z.ow l vs → Tgt.puts ts l env = some env' →
  (∀ σ', EnvOk K M z env' σ' → Q σ' z.H) → g vs σ z.H Q
structure SG (X : Cx) (M : Lm) (e : Expr) (t : Tgt) : Prop where
  ex : ∃ g, PG X e g ∧ TgOk X.K M g t
structure SGs (X : Cx) (M : Lm) (es : List Expr) (ts : List Tgt) : Prop where
  ex : ∃ g, PGs X es g ∧ TgsOk X.K M g ts
section
variable {X : Cx} {M : Lm} {W : WX}
theorem sg_name (i : Nat) {x : Str} {pos : Pos} (hN : X.N.Nodup) (hi : X.N[i]? = some x := by rfl) (hx : Loc X.env.scope x := by first | exact Or.inl rfl | exact Or.inr rfl)
    (hf : X.fn x = true ∨ X.env.scope.names.lookup x = some .local := by first | exact .inl rfl | exact .inr rfl) : SG X M (.Name x pos) (.one i) :=
  ⟨_, pg_name hN hi hx hf, fun z env env' σ d v Q k ve q e h => h _ (by
    have e' : env.set i (some d) = env' := Option.some.inj e
    rw [← e']
    exact ve.set i q)⟩
theorem sgs_nil : SGs X M [] [] := ⟨_, pgs_nil, fun z env env' σ l vs Q k ve q e h => by
  cases q with
  | nil => exact ⟨rfl, h _ (by
      have e' : env = env' := Option.some.inj e
      rw [← e']
      exact ve)⟩
  | cons a b => cases e⟩
theorem sgs_cons {e : Expr} {es : List Expr} {t : Tgt} {ts : List Tgt} (h1 : SG X M e t) (h2 : SGs X M es ts) (hs : (assignEach (e :: es) X.env).map (·.2) = assign e X.env :: (assignEach es X.env).map (·.2) := by rfl) : SGs X M (e :: es) (t :: ts) := by
  obtain ⟨g, h1, o1⟩ := h1.ex
  obtain ⟨g2, h2, o2⟩ := h2.ex
  refine ⟨_, pgs_cons h1 h2 hs, fun z env env' σ l vs Q k ve q e h => ?_⟩
  cases q with
  | nil => cases e
  | cons a b =>
    rename_i d v l vs
    unfold Tgt.puts at e
    cases r : t.put d env with
    | none =>
      rw [r] at e
      cases e
    | some env1 =>
      rw [r] at e
      exact ⟨v, vs, rfl, o1 z env env1 σ d v _ k ve (.of a) r fun σ1 v1 => o2 z env1 env' σ1 l vs Q k v1 b e h⟩
/-- (a, b, ..) = a tuple or a list of that length -/
def gTL (K : PySem.W.Frag) (n : Nat) (t : TGs) : TG := fun v σ H Q => ∃ a xs, v = .ref a ∧ (SqT K H a xs ∨ SqL K H a xs) ∧ xs.length = n ∧ t xs σ H Q
theorem pg_tl {es : List Expr} {k : Nat} {pos : Pos} {t : TGs} {n : Nat} (hc : X.calm = true) (h : PGs X es t)
    (hn : (assignEach es X.env).length = n := by rfl) (hst : (assignEach es X.env).findIdx? (·.1) = none := by rfl) : PG X (.Tuple es k pos) (gTL X.K n t) := by
  refine ⟨fun pins s σ H v u Q I r hw => ?_⟩
  obtain ⟨a, xs, e1, hq, hl, hw⟩ := hw
  rcases hq with hq | hq
  · exact (pg_tup hc h hn hst).run pins s σ H v u Q I r ⟨a, xs, e1, hq, hl, hw⟩
  · subst e1
    cases r
    obtain ⟨its, rv, ht, hz⟩ := I.list hq
    rw [PyProof.Rows.assign_Tuple]
    refine wpAny_bind (wpAny_standAt ?_)
    unfold unpack
    rw [show (assignEach es X.env).length = its.toArray.size by simp [hn, ← hl, rv.length], hst]
    refine wpAny_bind (wpAny_holding (PySem.W.kun_itemsOf (I.ok.hd hc) ht.isList fun h' hx => ?_))
    have I1 : Inv X pins σ H { s with heap := h' } := I.kept (t' := s.toks) fun b o e => hx b o (Nat.ne_of_lt (Heap.lt_size e)) e
    exact h.run pins _ σ H xs _ Q I1 (by simpa using rv) hw
theorem putsLen : ∀ (ts : List Tgt) (l : List D) (env env' : Env), Tgt.puts ts l env = some env' → ts.length = l.length := by
  intro ts
  induction ts with
  | nil =>
    intro l env env' e
    cases l with
    | nil => rfl
    | cons _ _ => cases e
  | cons t ts ih =>
    intro l env env' e
    cases l with
    | nil => cases e
    | cons d l =>
      unfold Tgt.puts at e
      cases r : t.put d env with
      | none =>
        rw [r] at e
        cases e
      | some env1 =>
        rw [r] at e
        rw [List.length_cons, List.length_cons, ih l env1 env' e]
theorem sg_tup {es : List Expr} {kk : Nat} {pos : Pos} {ts : List Tgt} (hc : X.calm = true) (h : SGs X M es ts) (n : Nat) (hl : ts.length = n := by rfl)
    (hn : (assignEach es X.env).length = n := by rfl) (hst : (assignEach es X.env).findIdx? (·.1) = none := by rfl) : SG X M (.Tuple es kk pos) (.many ts) := by
  obtain ⟨g, h1, o1⟩ := h.ex
  refine ⟨_, pg_tl hc h1 hn hst, fun z env env' σ d v Q k ve q e h => ?_⟩
  cases d with
  | tup l =>
    cases q with
    | of q =>
      cases q with
      | tup hs hl' =>
        rename_i a vs
        have e' : Tgt.puts ts l env = some env' := e
        exact ⟨a, vs, rfl, .inl hs, by rw [← hl'.length, ← putsLen ts l env env' e', hl], o1 z env env' σ l vs Q k ve hl' e' h⟩
  | lst l =>
    cases q with
    | of q =>
      cases q with
      | lst hs hl' =>
        rename_i a vs
        have e' : Tgt.puts ts l env = some env' := e
        exact ⟨a, vs, rfl, .inr hs.rl.sq, by rw [← hl'.length, ← putsLen ts l env env' e', hl], o1 z env env' σ l vs Q k ve hl' e' h⟩
  | _ => cases e
/-! ### for -/
def forL (t : Tgt) (b : Env → Sto → SR) (g : Option Nat) (o : Option Ob) : List D → Env → Sto → SR
  | [], env, S => match g with
    | none => .nx env S
    | some n => if S[n]? = o then .nx env S else .bad
  | d :: r, env, S => 
    let go : SR := match t.put d env with
      | none => .bad
      | some env1 => match b env1 S with
        | .nx env2 S2 => forL t b g o r env2 S2
        | .ct env2 S2 => forL t b g o r env2 S2
        | .bk env2 S2 => .nx env2 S2
        | .rt d S2 => .rt d S2
        | .ex e env2 S2 => .ex e env2 S2
        | .bad => .bad
    match g with
    | none => go
    | some n => if S[n]? = o then go else .bad
def itF (it : Env → Sto → Res Itm) (t : Tgt) (b : Env → Sto → SR) : Env → Sto → SR := fun env S => (it env S).thn env fun J S1 => forL t b J.g J.o J.l env S1
theorem ss_for {tg iter : Expr} {body : List Stmt} {pos : Pos} {it : Env → Sto → Res Itm} {t : Tgt} {b : Env → Sto → SR} (hp : PassesOwn (model X.prog X.w) X.A X.env X.xe) (hc : X.calm = true) (hi : SI X M W tg iter it) (hg : SG X M tg t) (hb : SSs X M W body b)
    (hs : ∀ x, foldedSetIterable iter X.env x = pure x := by intro _; rfl) : SS X M W (.For tg iter body [] pos) (itF it t b) := by
  obtain ⟨g, hg, og⟩ := hg.ex
  refine ps_imp (ps_for hp hc hi hg hb hs) fun D σ H h => ?_
  obtain ⟨env, z, rfl, k, v, h⟩ := h
  refine ⟨env, z, rfl, k, v, (Out.thn v h).imp fun J H1 q => ?_⟩
  obtain ⟨I, z1, rfl, _, x, k1, ⟨ok1, hJ⟩, v1, h1⟩ := q
  refine ⟨fun i m σ H => m = I.l.length - i ∧ i ≤ I.l.length ∧ ∃ env z, z.H = H ∧ SOk X.K M z ∧ Ext z1 z ∧ EnvOk X.K M z env σ ∧ OutS X.K M W D z (forL t b I.g I.o (I.l.drop i) env z.S), ⟨I.l.length, rfl, Nat.zero_le _, env, z1, rfl, k1, Ext.refl z1, v1, h1⟩, ?_⟩
  rintro i m σ H ⟨rfl, hi, env, z, rfl, k, x, v, h⟩
  by_cases hlt : i < I.l.length
  · have hd : I.l.drop i = I.l[i] :: I.l.drop (i + 1) := List.drop_eq_getElem_cons hlt
    rw [hd] at h
    have hok : I.ok z.S ∧ OutS X.K M W D z (match t.put I.l[i] env with
      | none => SR.bad
      | some env1 => match b env1 z.S with
        | .nx env2 S2 => forL t b I.g I.o (I.l.drop (i + 1)) env2 S2
        | .ct env2 S2 => forL t b I.g I.o (I.l.drop (i + 1)) env2 S2
        | .bk env2 S2 => .nx env2 S2
        | .rt d S2 => .rt d S2
        | .ex e env2 S2 => .ex e env2 S2
        | .bad => .bad) := by
      unfold forL at h
      cases hg : I.g with
      | none =>
        rw [hg] at h
        exact ⟨fun n q => (by rw [hg] at q; cases q), h⟩
      | some n =>
        rw [hg] at h
        dsimp only at h
        by_cases e : z.S[n]? = I.o
        · rw [if_pos e] at h
          exact ⟨fun n' q => (by
            rw [hg] at q
            cases q
            exact e), h⟩
        · rw [if_neg e] at h
          exact h.elim
    obtain ⟨hok, h⟩ := hok
    obtain ⟨go, yl⟩ := (hJ z x.wk k hok i).1 _ (List.getElem?_eq_getElem hlt)
    refine .inr ⟨go, fun σ' H' => ∃ env z, z.H = H' ∧ SOk X.K M z ∧ Ext z1 z ∧ EnvOk X.K M z env σ' ∧ OutS X.K M W D z (forL t b I.g I.o (I.l.drop (i + 1)) env z.S), fun σ' H' q => ⟨I.l.length - (i + 1), by omega, rfl, hlt, q⟩, fun w H3 y => ?_⟩
    obtain ⟨z3, rfl, eS, x3, k3, e3⟩ := yl w H3 y
    cases r : t.put I.l[i] env with
    | none =>
      rw [r] at h
      exact h.elim
    | some env1 =>
      rw [r] at h
      have h' : OutS X.K M W D z (match b env1 z.S with
        | .nx env2 S2 => forL t b I.g I.o (I.l.drop (i + 1)) env2 S2
        | .ct env2 S2 => forL t b I.g I.o (I.l.drop (i + 1)) env2 S2
        | .bk env2 S2 => .nx env2 S2
        | .rt d S2 => .rt d S2
        | .ex e env2 S2 => .ex e env2 S2
        | .bad => .bad) := h
      refine og z3 env env1 σ _ w _ k3 (v.ext x3) e3 r fun σ1 v1 => ⟨env1, z3, rfl, k3, v1, ?_⟩
      rw [← eS] at h'
      have h3 := OutS.rebase x3 h'
      clear h'
      cases rb : b env1 z3.S with
      | nx env2 S2 =>
        rw [rb] at h3
        intro z4 σ4 e4 x4 k4 v4
        subst e4
        exact ⟨env2, z4, rfl, k4, x.trans (x3.trans x4), v4, OutS.rebase x4 h3⟩
      | ct env2 S2 =>
        rw [rb] at h3
        intro z4 σ4 e4 x4 k4 v4
        subst e4
        exact ⟨env2, z4, rfl, k4, x.trans (x3.trans x4), v4, OutS.rebase x4 h3⟩
      | bk env2 S2 =>
        rw [rb] at h3
        exact h3
      | rt d S2 =>
        rw [rb] at h3
        exact h3
      | ex e env2 S2 =>
        rw [rb] at h3
        exact h3
      | bad =>
        rw [rb] at h3
        exact h3
  · have e : I.l.drop i = [] := List.drop_eq_nil_of_le (by omega)
    rw [e] at h
    have hok : I.ok z.S ∧ OutS X.K M W D z (.nx env z.S) := by
      unfold forL at h
      cases hg : I.g with
      | none =>
        rw [hg] at h
        exact ⟨fun n q => (by rw [hg] at q; cases q), h⟩
      | some n =>
        rw [hg] at h
        dsimp only at h
        by_cases e : z.S[n]? = I.o
        · rw [if_pos e] at h
          exact ⟨fun n' q => (by
            rw [hg] at q
            cases q
            exact e), h⟩
        · rw [if_neg e] at h
          exact h.elim
    obtain ⟨hok, h⟩ := hok
    exact .inl ⟨(hJ z x.wk k hok i).2 (by omega), h z σ rfl (Ext.refl z) k v⟩
/-! ### what is walked: lists, tuples, ranges -/
/-- the items of a tree -/
def itD (f : Env → Sto → Res D) : Env → Sto → Res Itm := fun env S => (f env S).bind fun d S1 => match d with
  | .lst l => .ok ⟨l, none, none⟩ S1
  | .ref n => match S1[n]? with
    | some (.lst fz l) => .ok ⟨l, some n, some (.lst fz l)⟩ S1
    | _ => .bad
  | _ => .bad
def itT (f : Env → Sto → Res D) : Env → Sto → Res Itm := fun env S => (f env S).bind fun d S1 => match d with
  | .tup l => .ok ⟨l, none, none⟩ S1
  | _ => .bad
theorem si_list {tg e : Expr} {f : Env → Sto → Res D} (h : SE X M W e f) : SI X M W tg e (itD f) := by
  refine ⟨fun pins s σ H R I q => (pi_list h).run pins s σ H R I ?_⟩
  obtain ⟨env, z, rfl, k, v, h⟩ := q
  refine ⟨env, z, rfl, k, v, (Out.bind h).imp fun b H1 q => ?_⟩
  obtain ⟨d, z1, rfl, _, x, k1, q, h1⟩ := q
  cases d with
  | lst l =>
    have step : ∀ a vs, b = .ref a → (∀ z2, Wk z1 z2 → SqL X.K z2.H a vs ∧ EncL X.K M z2.H z2.ow l vs) → ∃ a, b = .ref a ∧ (∃ xs, SqL X.K z1.H a xs) ∧ R (Itl X.K a) z1.H := fun a vs e hz =>
      ⟨a, e, ⟨vs, (hz z1 (Ext.refl _).wk).1⟩, h1 z1 _ rfl (Ext.refl _) k1 ⟨fun n z => (by cases z), fun z2 x2 k2 _ i => by
        obtain ⟨q1, q2⟩ := hz z2 x2
        refine ⟨fun d hd => ?_, fun hi => ⟨vs, q1, by rw [← q2.length]; exact hi⟩⟩
        obtain ⟨w, w1, w2⟩ := q2.get hd
        refine ⟨⟨vs, w, q1, w1⟩, fun u H3 y => ?_⟩
        obtain ⟨rfl, y⟩ := y
        have e2 : u = w := Option.some.inj ((y vs q1).symm.trans w1)
        subst e2
        exact ⟨z2, rfl, rfl, Ext.refl _, k2, .of w2⟩⟩⟩
    cases q with
    | of q =>
      cases q with
      | lst r hl => exact step _ _ rfl fun z2 x2 => ⟨(x2.mv.rl r).rl.sq, hl.mv x2.mv⟩
  | ref n =>
    have h1' : Out X.K M _ W σ z1 R (match z1.S[n]? with
      | some (.lst fz l) => Res.ok ⟨l, some n, some (.lst fz l)⟩ z1.S
      | _ => Res.bad : Res Itm) := h1
    cases r : z1.S[n]? with
    | none =>
      rw [r] at h1'
      exact h1'.elim
    | some o =>
      rw [r] at h1'
      cases o with
      | dic fz l => exact h1'.elim
      | arr l => exact h1'.elim
      | lst fz l =>
        obtain ⟨a, vs, rfl, ha, hv, hl⟩ := ref_lst k1 q r
        have en : z1.R[n]? = some a := ha
        refine ⟨a, rfl, ⟨vs, SqL.of hv⟩, h1' z1 _ rfl (Ext.refl _) k1 ⟨fun m e => (by
          cases e
          exact r), fun z2 x2 k2 ok2 i => ?_⟩⟩
        obtain ⟨vs2, hv2, hl2⟩ := k2.obj n _ a (ok2 n rfl) (x2.rAt en)
        refine ⟨fun d hd => ?_, fun hi => ⟨vs2, SqL.of hv2, by rw [← hl2.length]; exact hi⟩⟩
        obtain ⟨w, w1, w2⟩ := hl2.get hd
        refine ⟨⟨vs2, w, SqL.of hv2, w1⟩, fun u H3 y => ?_⟩
        obtain ⟨rfl, y⟩ := y
        have e2 : u = w := Option.some.inj ((y vs2 (SqL.of hv2)).symm.trans w1)
        subst e2
        exact ⟨z2, rfl, rfl, Ext.refl _, k2, .of w2⟩
  | _ => exact h1.elim
theorem si_tup {tg e : Expr} {f : Env → Sto → Res D} (h : SE X M W e f) : SI X M W tg e (itT f) := by
  refine ⟨fun pins s σ H R I q => (pi_tup h).run pins s σ H R I ?_⟩
  obtain ⟨env, z, rfl, k, v, h⟩ := q
  refine ⟨env, z, rfl, k, v, (Out.bind h).imp fun b H1 q => ?_⟩
  obtain ⟨d, z1, rfl, _, x, k1, q, h1⟩ := q
  cases d with
  | tup l =>
    cases q with
    | of q =>
      cases q with
      | tup r hl =>
        rename_i a vs
        refine ⟨a, rfl, ⟨vs, r⟩, h1 z1 _ rfl (Ext.refl _) k1 ⟨fun n z => (by cases z), fun z2 x2 k2 _ i => ?_⟩⟩
        have q1 := x2.mv.sqT r
        have q2 := hl.mv x2.mv
        refine ⟨fun d hd => ?_, fun hi => ⟨vs, q1, by rw [← q2.length]; exact hi⟩⟩
        obtain ⟨w, w1, w2⟩ := q2.get hd
        refine ⟨⟨vs, w, q1, w1⟩, fun u H3 y => ?_⟩
        obtain ⟨rfl, y⟩ := y
        have e2 : u = w := Option.some.inj ((y vs q1).symm.trans w1)
        subst e2
        exact ⟨z2, rfl, rfl, Ext.refl _, k2, .of w2⟩
  | _ => exact h1.elim
/-- the ints from lo on -/
def rangeL (lo : Int) : Nat → List D
  | 0 => []
  | n + 1 => .int lo :: rangeL (lo + 1) n
theorem rangeL_get (n : Nat) : ∀ (lo : Int) (i : Nat) (d : D), (rangeL lo n)[i]? = some d → i < n ∧ d = .int (lo + i) := by
  induction n with
  | zero =>
    intro lo i d h
    simp [rangeL] at h
  | succ n ih =>
    intro lo i d h
    cases i with
    | zero =>
      simp [rangeL] at h
      subst h
      exact ⟨Nat.succ_pos n, by simp⟩
    | succ i =>
      simp [rangeL] at h
      obtain ⟨h1, h2⟩ := ih (lo + 1) i d h
      refine ⟨by omega, ?_⟩
      rw [h2]
      congr 1
      omega
theorem rangeL_length (n : Nat) : ∀ lo : Int, (rangeL lo n).length = n := by
  induction n with
  | zero => intro lo; rfl
  | succ n ih => intro lo; rw [rangeL, List.length_cons, ih]
def isSm (i : Int) : Bool := decide (-(2 ^ 62) ≤ i ∧ i < 2 ^ 62)
def itR1 (f : Env → Sto → Res (List D)) : Env → Sto → Res Itm := fun env S => (f env S).bind fun d S1 => match d with
  | [.int j] => if isSm j then .ok ⟨rangeL 0 j.toNat, none, none⟩ S1 else .bad
  | _ => .bad
def itR2 (f : Env → Sto → Res (List D)) : Env → Sto → Res Itm := fun env S => (f env S).bind fun d S1 => match d with
  | [.int i, .int j] => if isSm i && isSm j then .ok ⟨rangeL i (j - i).toNat, none, none⟩ S1 else .bad
  | _ => .bad
theorem range_ok {K : PySem.W.Frag} {z1 : Sg} (lo : Int) (n : Nat) : ItOk K M z1 (Itr lo n) ⟨rangeL lo n, none, none⟩ := fun z2 x2 k2 _ i => by
  refine ⟨fun d hd => ?_, fun hi => by
    rw [rangeL_length] at hi
    exact hi⟩
  obtain ⟨h1, h2⟩ := rangeL_get n lo i d hd
  refine ⟨h1, fun u H3 y => ?_⟩
  obtain ⟨rfl, rfl⟩ := y
  exact ⟨z2, rfl, rfl, Ext.refl _, k2, by
    rw [h2]
    exact .of (.int _)⟩
theorem encAs1 {K : PySem.W.Frag} {z : Sg} {d : D} {vs : List V} (h : EncAs K M z [d] vs) : ∃ v, vs = [v] ∧ EncA K M z d v := by
  cases h with
  | cons a b =>
    cases b
    exact ⟨_, rfl, a⟩
theorem encAs2 {K : PySem.W.Frag} {z : Sg} {d e : D} {vs : List V} (h : EncAs K M z [d, e] vs) : ∃ v w, vs = [v, w] ∧ EncA K M z d v ∧ EncA K M z e w := by
  cases h with
  | cons a b =>
    obtain ⟨w, rfl, c⟩ := encAs1 b
    exact ⟨_, w, rfl, a, c⟩
theorem encAs3 {K : PySem.W.Frag} {z : Sg} {d e f : D} {vs : List V} (h : EncAs K M z [d, e, f] vs) : ∃ v w u, vs = [v, w, u] ∧ EncA K M z d v ∧ EncA K M z e w ∧ EncA K M z f u := by
  cases h with
  | cons a b =>
    obtain ⟨w, u, rfl, c, c'⟩ := encAs2 b
    exact ⟨_, w, u, rfl, a, c, c'⟩
theorem si_range1 {tg a : Expr} {p pos : Pos} {f : Env → Sto → Res (List D)} (ha : SA X M W [a] f) (hm : X.mg "range" = none) (hg : Gl X "range" := by rfl) (hs : starEach [a] X.env = [(false, eval a X.env)] := by rfl) : SI X M W tg (.Call (.Name "range" p) [a] [] pos) (itR1 f) := by
  refine ⟨fun pins s σ H R I q => (pi_range1 hg hm ha hs).run pins s σ H R I ?_⟩
  obtain ⟨env, z, rfl, k, v, h⟩ := q
  refine ⟨env, z, rfl, k, v, (Out.bind h).imp fun b H1 q => ?_⟩
  obtain ⟨d, z1, rfl, _, x, k1, q, h1⟩ := q
  match d, q, h1 with
  | [.int j], q, h1 =>
    obtain ⟨w, rfl, e⟩ := encAs1 q
    rw [encA_int e]
    have h1' : Out X.K M _ W σ z1 R (if isSm j = true then Res.ok (⟨rangeL 0 j.toNat, none, none⟩ : Itm) z1.S else Res.bad) := h1
    by_cases c : isSm j = true
    · rw [if_pos c] at h1'
      have c2 := of_decide_eq_true c
      exact ⟨j, rfl, c2.1, c2.2, h1' z1 _ rfl (Ext.refl _) k1 ⟨fun n z => (by cases z), range_ok 0 _⟩⟩
    · rw [if_neg c] at h1'
      exact h1'.elim
theorem si_range2 {tg a b : Expr} {p pos : Pos} {f : Env → Sto → Res (List D)} (ha : SA X M W [a, b] f) (hm : X.mg "range" = none) (hg : Gl X "range" := by rfl) (hs : starEach [a, b] X.env = [(false, eval a X.env), (false, eval b X.env)] := by rfl)
    (hs2 : starEach [b] X.env = [(false, eval b X.env)] := by rfl) : SI X M W tg (.Call (.Name "range" p) [a, b] [] pos) (itR2 f) := by
  refine ⟨fun pins s σ H R I q => (pi_range2 hg hm ha hs hs2).run pins s σ H R I ?_⟩
  obtain ⟨env, z, rfl, k, v, h⟩ := q
  refine ⟨env, z, rfl, k, v, (Out.bind h).imp fun b H1 q => ?_⟩
  obtain ⟨d, z1, rfl, _, x, k1, q, h1⟩ := q
  match d, q, h1 with
  | [.int i, .int j], q, h1 =>
    obtain ⟨w, w2, rfl, e, e2⟩ := encAs2 q
    rw [encA_int e, encA_int e2]
    have h1' : Out X.K M _ W σ z1 R (if (isSm i && isSm j) = true then Res.ok (⟨rangeL i (j - i).toNat, none, none⟩ : Itm) z1.S else Res.bad) := h1
    by_cases c : (isSm i && isSm j) = true
    · rw [if_pos c] at h1'
      rw [Bool.and_eq_true] at c
      have c1 := of_decide_eq_true c.1
      have c2 := of_decide_eq_true c.2
      exact ⟨i, j, rfl, ⟨c1.1, c1.2, c2.1, c2.2⟩, h1' z1 _ rfl (Ext.refl _) k1 ⟨fun n z => (by cases z), range_ok i _⟩⟩
    · rw [if_neg c] at h1'
      exact h1'.elim
end
end Sm
/-! Sm4: defs as plain functions, their promises, calls. -/
namespace Sm
open PySem PySem.Spec PyProof.Rows L2
abbrev Fn := List D → Sto → Res D
/-- what a def hands back: one's own new objects are trees from now on, the store is cut -/
def fin (n0 : Nat) (d : D) (S : Sto) : Res D := match d with
  | .fn => .bad
  | .ref n => if n < n0 then .ok (.ref n) (S.take n0) else match S[n]? with
    | some (.lst _ l) => .ok (.lst l) (S.take n0)
    | some (.dic _ l) => .ok (.dic l) (S.take n0)
    | _ => .bad
  | d => .ok d (S.take n0)
def fnEnd (c : Bool) (n0 : Nat) (r : SR) : Res D := match r with
  | .nx _ S' => if c then fin n0 .non S' else .ok .non S'
  | .rt d S' => if c then fin n0 d S' else .ok d S'
  | .ex e _ S' => .ex e (S'.take n0)
  | _ => .bad
/-- a def of n parameters and k more names -/
def fnM (n k : Nat) (c : Bool) (body : Env → Sto → SR) : Fn := fun args S =>
  if args.length = n then fnEnd c S.length (body (args.map some ++ List.replicate k none) S) else .bad
def spF (K : PySem.W.Frag) (M : Lm) (n : Nat) (m : Fn) : Sp := fun vs H Q E =>
  ∃ args z, z.H = H ∧ SOk K M z ∧ args.length = n ∧ EncAs K M z args vs ∧ Out K M (EncA K M) (fun c d _ H => E c d H) [] z Q (m args z.S)
structure FnS (P : Program) (w : World) (K : PySem.W.Frag) (M : Lm) (mg : Str → Option Value) (base : Heap) (k : Nat) (f : Addr) (fd : FuncData) (ps : List Str) (m : Fn) : Prop where
  len : ∀ args S, args.length ≠ ps.length → m args S = .bad
  run : ∀ (A : Around) (outer : List PySem.Env) (s : Shared) (H : Hp) (args : Args) (us : List Value) (vs : List V) (Q : VK) (E : XK), Room k A → A.guards = some [] → Env0 P w K mg base A outer s H →
    BindsTo s fd args (ps.zip us) → Vals vs us → spF K M ps.length m vs H Q E → codeAny (model P w) A (.call (.ref f) args) (CR (L2.CX P w) outer P w H s Q E) s
section
variable {P : Program} {w : World} {K : PySem.W.Frag} {M : Lm} {mg : Str → Option Value} {base : Heap} {z z' : Sg}
theorem FnS.mono {j k : Nat} {f : Addr} {fd : FuncData} {ps : List Str} {m : Fn} (F : FnS P w K M mg base j f fd ps m) (h : j ≤ k) : FnS P w K M mg base k f fd ps m :=
  ⟨F.len, fun A outer s H args us vs Q E hr => F.run A outer s H args us vs Q E (hr.mono h)⟩
/-- the state behind a def, cut -/
def Sg.cut (z : Sg) (n : Nat) : Sg := { z with S := z.S.take n, R := z.R.take n }
theorem cut_ow {n : Nat} {a : Addr} (h : (z.cut n).ow a) : z.ow a := by
  rcases h with ⟨m, o, h1, h2, h3⟩ | h
  · have h1' : (z.S.take n)[m]? = some o := h1
    have h3' : (z.R.take n)[m]? = some a := h3
    have hm : m < n := by
      have := (List.getElem?_eq_some_iff.mp h1').1
      rw [List.length_take] at this
      omega
    rw [List.getElem?_take_of_lt hm] at h1' h3'
    exact .inl ⟨m, o, h1', h2, h3'⟩
  · exact .inr h
theorem cut_ext (x : Ext z z') (k : SOk K M z) : Ext z (z'.cut z.S.length) where
  keep := x.keep
  nw := fun a h n q => x.nw a h n (cut_ow q)
  tup := x.tup
  frz := x.frz
  xds := x.xds
  pre := by
    obtain ⟨T, e⟩ := x.pre
    refine ⟨[], ?_⟩
    show z'.R.take z.S.length = _
    rw [e, ← k.len, List.take_left, List.append_nil]
  grow := by
    show z.S.length ≤ (z'.S.take z.S.length).length
    rw [List.length_take]
    have := x.grow
    omega
  gh := x.gh
  gk := x.gk
/-- fewer are owned -/
theorem Mv.less {H : Hp} {ow ow' : Addr → Prop} (h : ∀ a, ow' a → ow a) : Mv H H ow ow' := ⟨fun _ _ e _ _ => e, fun a _ n q => n (h a q), fun _ _ e => e, fun _ _ _ e => e, fun _ _ e => e⟩
theorem cut_sok {n : Nat} (na : M.arr = false) (k : SOk K M z) (x : Aux K M (z.cut n)) : SOk K M (z.cut n) where
  aux := x
  len := by
    show (z.R.take n).length = (z.S.take n).length
    rw [List.length_take, List.length_take, k.len]
  nd := k.nd.sublist (List.take_sublist _ _)
  gR := fun g hg h => k.gR g hg (List.mem_of_mem_take h)
  gT := k.gT
  obj := fun m o a h1 h2 => by
    have h1' : (z.S.take n)[m]? = some o := h1
    have h2' : (z.R.take n)[m]? = some a := h2
    have hm : m < n := by
      have := (List.getElem?_eq_some_iff.mp h1').1
      rw [List.length_take] at this
      omega
    rw [List.getElem?_take_of_lt hm] at h1' h2'
    have q := k.obj m o a h1' h2'
    have mv : Mv z.H z.H z.ow (z.cut n).ow := Mv.less fun a h => cut_ow h
    cases o with
    | lst fz l =>
      obtain ⟨vs, h, e⟩ := q
      exact ⟨vs, h, e.mv mv⟩
    | dic fz l =>
      obtain ⟨vs, h, e⟩ := q
      exact ⟨vs, h, e.mv mv⟩
    | arr l =>
      have := q.1.1
      rw [na] at this
      cases this
theorem cut_not {n m : Nat} {a : Addr} (k : SOk K M z) (h : z.R[m]? = some a) (hm : n ≤ m) : ¬ (z.cut n).ow a := by
  rintro (⟨j, o, h1, h2, h3⟩ | g)
  · have h3' : (z.R.take n)[j]? = some a := h3
    have hj : j < n := by
      have := (List.getElem?_eq_some_iff.mp h3').1
      rw [List.length_take] at this
      omega
    rw [List.getElem?_take_of_lt hj] at h3'
    have := nodup_at k.nd h3' h
    omega
  · exact k.gR a g (List.mem_of_getElem? h)
theorem fin_ok {n0 : Nat} {d d' : D} {S' : Sto} {v : V} (k : SOk K M z) (h : EncA K M z d v) (e : fin n0 d z.S = .ok d' S') : S' = (z.cut n0).S ∧ EncA K M (z.cut n0) d' v := by
  have mv : Mv z.H z.H z.ow (z.cut n0).ow := Mv.less fun a h => cut_ow h
  have nf : d ≠ .fn := fun q => by
    subst q
    cases e
  have plain : (∀ n, d ≠ .ref n) → fin n0 d z.S = .ok d (z.S.take n0) := fun hn => by
    cases d <;> first | rfl | exact absurd rfl (hn _) | exact absurd rfl nf
  by_cases hd : ∃ n, d = .ref n
  · obtain ⟨n, rfl⟩ := hd
    unfold fin at e
    dsimp only at e
    by_cases hn : n < n0
    · rw [if_pos hn] at e
      cases e
      refine ⟨rfl, ?_⟩
      cases h with
      | ref h l =>
        refine .ref ?_ ?_
        · show (z.R.take n0)[n]? = _
          rw [List.getElem?_take_of_lt hn]
          exact h
        · show n < (z.S.take n0).length
          rw [List.length_take]
          omega
      | of h => cases h
    · rw [if_neg hn] at e
      cases r : z.S[n]? with
      | none =>
        rw [r] at e
        cases e
      | some o =>
        rw [r] at e
        cases o with
        | lst fz l =>
          cases e
          refine ⟨rfl, ?_⟩
          obtain ⟨a, vs, rfl, ha, hv, hl⟩ := ref_lst k h r
          exact .of (.lst (.inl ⟨.inl hv, cut_not k ha (by omega)⟩) (hl.mv mv))
        | dic fz l =>
          cases e
          refine ⟨rfl, ?_⟩
          obtain ⟨a, vs, rfl, ha, hv, hl⟩ := ref_dic k h r
          exact .of (.dic hv (cut_not k ha (by omega)) (hl.mv mv))
        | arr l => cases e
  · have hn : ∀ n, d ≠ .ref n := fun n q => hd ⟨n, q⟩
    rw [plain hn] at e
    cases e
    exact ⟨rfl, .of ((h.enc hn nf).mv mv)⟩
/-- what a body's end has to be, from what is wanted of the def -/
theorem fn_end {c : Bool} {Q : VK} {E : XK} {r : SR} (na : M.arr = false) (k : SOk K M z) (h : Out K M (EncA K M) (fun c d _ H => E c d H) [] z Q (fnEnd c z.S.length r)) :
    OutS K M (fun c d _ H => E c d H) { nx := fun _ H' => Q .non H', rt := Q } z r := by
  have core : ∀ (d : D) (S' : Sto) (v : V) (z' : Sg), Out K M (EncA K M) (fun c d _ H => E c d H) [] z Q (if c = true then fin z.S.length d S' else .ok d S') → z'.S = S' → Ext z z' → SOk K M z' → EncA K M z' d v → Q v z'.H := by
    intro d S' v z' h e x k' q
    subst e
    cases c with
    | false => exact h z' v rfl x k' q
    | true =>
      have h' : Out K M (EncA K M) (fun c d _ H => E c d H) [] z Q (fin z.S.length d z'.S) := h
      cases r : fin z.S.length d z'.S with
      | ok d' S2 =>
        obtain ⟨e1, q2⟩ := fin_ok k' q r
        rw [r] at h'
        exact h' (z'.cut z.S.length) v e1.symm (cut_ext x k) (cut_sok na k' (k.aux.ext (cut_ext x k) k'.aux.tab)) q2
      | ex e S2 =>
        unfold fin at r
        split at r
        · cases r
        · split at r
          · cases r
          · split at r <;> cases r
        · cases r
      | bad =>
        rw [r] at h'
        exact h'.elim
  cases r with
  | nx env S' => exact fun z' σ' e x k' v' => core .non S' .non z' h e x k' (.of .non)
  | rt d S' => exact fun z' v e x k' q => core d S' v z' h e x k' q
  | bk env S' => exact h.elim
  | ct env S' => exact h.elim
  | ex e env S' =>
    intro z' σ' cls d e1 x k' v' q
    subst e1
    have mv : Mv z'.H z'.H z'.ow (z'.cut z.S.length).ow := Mv.less fun a h => cut_ow h
    obtain ⟨kk, l, vs, e1, e2, e3, e4⟩ := q
    exact h (z'.cut z.S.length) cls d rfl (cut_ext x k) (cut_sok na k' (k.aux.ext (cut_ext x k) k'.aux.tab)) ⟨kk, l, vs, e1, e2, e3, e4.mv mv⟩
  | bad => exact h.elim
theorem env_start {N ps : List Str} {args : List D} {vs : List V} (q : EncAs K M z args vs) (hl : args.length = ps.length) (hN : ps.length ≤ N.length) : EnvOk K M z (args.map some ++ List.replicate (N.length - ps.length) none) (L2.start N vs) := by
  have hv : vs.length = ps.length := by rw [← q.length]; exact hl
  refine ⟨?_, fun i d e => ?_⟩
  · unfold L2.start
    rw [List.length_append, List.length_append, List.length_map, List.length_map, List.length_replicate, List.length_replicate]
    omega
  · have hi : i < args.length := by
      refine Classical.byContradiction fun hi => ?_
      rw [List.getElem?_append_right (by rw [List.length_map]; omega), List.getElem?_replicate] at e
      split at e <;> cases e
    rw [List.getElem?_append_left (by rw [List.length_map]; exact hi), List.getElem?_map] at e
    have get : ∀ {l : List D} {us : List V} {i : Nat} {d : D}, EncAs K M z l us → l[i]? = some d → ∃ v, us[i]? = some v ∧ EncA K M z d v := by
      intro l us i d q
      induction q generalizing i with
      | nil =>
        intro h
        simp at h
      | cons a b ih =>
        intro h
        cases i with
        | zero =>
          simp at h
          subst h
          exact ⟨_, rfl, a⟩
        | succ i =>
          obtain ⟨v, h1, h2⟩ := ih (i := i) (by simpa using h)
          exact ⟨v, by simpa using h1, h2⟩
    cases r : args[i]? with
    | none =>
      rw [r] at e
      cases e
    | some d' =>
      rw [r] at e
      have e' : d' = d := Option.some.inj (Option.some.inj e)
      subst e'
      obtain ⟨v, h1, h2⟩ := get q r
      refine ⟨v, ?_, h2⟩
      unfold L2.start
      rw [List.getElem?_append_left (by
        rw [List.length_map]
        exact (List.getElem?_eq_some_iff.mp h1).1), List.getElem?_map, h1]
      rfl
/-- a def keeps its promise -/
theorem FnS.of {x qual : Str} {st : Stmt} {f : Addr} {fd : FuncData} {N ps : List Str} {k nk : Nat} {c : Bool} {body : Env → Sto → SR} (na : M.arr = false) (F : Fun K x qual st f fd) (S : FnScope N ps (defScope st)) (hk : N.length - ps.length = nk) (hN : ps.length ≤ N.length)
    (hbody : ∀ (cdv : Value), fd.code = cdv → ∀ (A : Around) (outer : List PySem.Env) (s : Shared) (H : Hp) (E : XK), Room k (A.deeper (envOfC qual (defScope st) s.heap.objs.size f cdv)) → (A.deeper (envOfC qual (defScope st) s.heap.objs.size f cdv)).guards = some [] →
      ∀ W, Takes (cxOf (L2.CX P w) P w K mg base N qual (defScope st) f cdv A outer s H E) W → PassesOwn (model P w) (A.deeper (envOfC qual (defScope st) s.heap.objs.size f cdv)) (envOfC qual (defScope st) s.heap.objs.size f cdv) (cxOf (L2.CX P w) P w K mg base N qual (defScope st) f cdv A outer s H E).xe →
      SSs (cxOf (L2.CX P w) P w K mg base N qual (defScope st) f cdv A outer s H E) M W (defBody st) body) :
    FnS P w K M mg base (k + 1) f fd ps (fnM ps.length nk c body) := by
  obtain ⟨oc, od, kV, doc, pm, an, cdv, ct, osl, rfl, lk, hcd⟩ := F.ex
  refine ⟨fun args S h => if_neg h, ?_⟩
  intro A outer s H args us vs Q E hr hg e0 hb r hsp
  obtain ⟨as, z, rfl, kz, hla, hq, hout⟩ := hsp
  have hl : vs.length = ps.length := by rw [← hq.length]; exact hla
  have KX : K.In s.heap := e0.mod.kin.keeps fun b o e => (e0.bs b o e).1
  have lim : s.heap.NoLimit := e0.mod.nolimit.keeps fun b o e => (e0.bs b o e).1
  have hkind : ∀ y ∈ ps.zip us, (defScope st).names.lookup y.1 = some .local ∨ ((defScope st).names.lookup y.1 = some .cell ∧ ((cellsFrom (s.heap.objs.size + 1) (defScope st).names []).lookup y.1).isSome = true) := by
    rintro ⟨n, v⟩ hy
    rcases S.par n (List.of_mem_zip hy).1 with q | q
    · exact .inl q
    · exact .inr ⟨q, PySem.W.cellsFrom_some _ _ _ (.inl q)⟩
  refine codeAny_call_function hr.depth (KX _ _ lk) rfl S.co S.gen rfl (PySem.W.codeRec_of KX hcd) (hb _ _ _ _ ?_)
  refine wpAny_newFunctionEnv_cells S.kind hkind fun env he s1 x => ?_
  subst he
  refine ⟨lim.keeps x.toInCall.keep, codeAny_func ?_⟩
  have I : Inv (cxOf (L2.CX P w) P w K mg base N qual (defScope st) f cdv A outer s z.H E) [] (L2.start N vs) z.H s1 := inv_start S hr.hd e0 hl r x
  have tk : Takes (cxOf (L2.CX P w) P w K mg base N qual (defScope st) f cdv A outer s z.H E) (fun c d _ H => E c d H) := takes_of rfl rfl rfl rfl
  have ht := hbody cdv rfl A outer s z.H E (hr.deeper _) hg _ tk (passes_of rfl)
  have hq2 : tS K M (fun c d _ H => E c d H) body { nx := fun _ H' => Q .non H', rt := Q } (L2.start N vs) z.H := by
    refine ⟨as.map some ++ List.replicate nk none, z, rfl, kz, ?_, fn_end (c := c) na kz ?_⟩
    · rw [← hk]
      exact env_start hq hla hN
    · unfold fnM at hout
      rw [if_pos hla] at hout
      exact hout
  refine wpAny_mono (ht.run [] s1 (L2.start N vs) z.H _ I hq2) (fun fl s' hs => ?_) fun e s' hs => hs
  have fin' : ∀ {σ' : St} {H' : Hp} {v : V} {u : Value}, Inv (cxOf (L2.CX P w) P w K mg base N qual (defScope st) f cdv A outer s z.H E) [] σ' H' s' → RelV v u → Q v H' → CE outer P w z.H s Q u s' := by
    intro σ' H' v u J rv q
    exact ⟨v, H', J.os, J.bare, J.base, J.hok, rv, q⟩
  cases fl with
  | next =>
    obtain ⟨σ', H', J, q⟩ := hs
    exact fin' (v := V.non) (u := Value.none) J rfl q
  | ret u =>
    obtain ⟨v, σ', H', J, rv, q⟩ := hs
    exact fin' J rv q
  | brk =>
    obtain ⟨_, _, _, q⟩ := hs
    exact q.elim
  | cont =>
    obtain ⟨_, _, _, q⟩ := hs
    exact q.elim
end
/-! ### calls -/
def callF (m : Fn) (g : Env → Sto → Res (List D)) : Env → Sto → Res D := fun env S => (g env S).bind m
section
variable {X : Cx} {M : Lm} {W : WX}
theorem run_fnS {k : Nat} {f : Addr} {fd : FuncData} {ps : List Str} {m : Fn} {pins : List (Addr × Obj)} {σ : St} {s : Shared} {z : Sg} {Q : VK} {us : List Value} {vs : List V} {args : List D}
    (F : FnS X.prog X.w X.K M X.mg X.base k f fd ps m) (hr : Room k X.A) (gd : X.A.guards = some []) (hb : Binds X.K fd ps []) (tk : Takes X W)
    (I : Inv X pins σ z.H s) (r : Vals vs us) (kz : SOk X.K M z) (q : EncAs X.K M z args vs) (h : Out X.K M (EncA X.K M) W σ z Q (m args z.S)) : wpAny (model X.prog X.w) X.A (call (.ref f) us) (EP X pins σ Q) X.xe s := by
  have hl : args.length = ps.length := by
    refine Classical.byContradiction fun n => ?_
    rw [F.len _ _ n] at h
    exact h.elim
  have hlu : (us ++ []).length = ps.length := by
    rw [List.append_nil, ← r.length, ← q.length]
    exact hl
  have h2 : Out X.K M (EncA X.K M) (fun c d _ H => W c d σ H) [] z Q (m args z.S) := by
    cases e : m args z.S with
    | ok a S =>
      rw [e] at h
      exact h
    | ex a S =>
      rw [e] at h
      exact h
    | bad =>
      rw [e] at h
      exact h
  have hb' := hb s us I.kIn hlu
  rw [List.append_nil] at hb'
  refine wpAny_call (codeAny_mono (F.run X.A X.stack s z.H ⟨us, []⟩ us vs Q (fun c d H => W c d σ H) hr gd I.env0 hb' r ⟨args, z, rfl, kz, hl, q, h2⟩) fun r s' hq => ?_)
  cases r with
  | error e => exact tk e s' (XE.of_call I (fun _ _ _ z => z) hq)
  | ok fl =>
    cases fl with
    | ret u => exact I.after hq
    | next => exact False.elim hq
    | brk => exact False.elim hq
    | cont => exact False.elim hq
theorem s_call {k : Nat} {f : Addr} {fd : FuncData} {ps : List Str} {m : Fn} {x : Str} {p pos : Pos} {e : Expr} {es : List Expr} {g : Env → Sto → Res (List D)} (F : FnS X.prog X.w X.K M X.mg X.base k f fd ps m) (hr : Room k X.A) (gd : X.A.guards = some [])
    (hm : X.mg x = some (.ref f)) (hk : PySem.W.keepIn X.K (.ref f) = true) (hb : Binds X.K fd ps []) (tk : Takes X W) (ha : SA X M W (e :: es) g) (hg : Gl X x := by rfl)
    (hdb : (x == ("__debug__" : Str)) = false := by decide) (he : starEach (e :: es) X.env = (false, eval e X.env) :: starEach es X.env := by rfl) (hpl : (backTo pos (starEach es X.env)).any (·.1) = false := by rfl) : SE X M W (.Call (.Name x p) (e :: es) [] pos) (callF m g) := by
  refine ⟨fun pins s σ H Q I h => ?_⟩
  obtain ⟨env, z, rfl, kz, v, h⟩ := h
  refine wpAny_Call_Name_kw (ld_glob I hg hm ?_ hdb)
  refine PySem.W.callWith_K (h₀ := X.base) I.ok.mod.kin hk (thn (ha.run pos pins s σ z.H _ I ⟨env, z, rfl, kz, v, Out.bind h⟩) fun us s1 hh => ?_) he hpl
  obtain ⟨vs, H1, I1, r, args, z1, rfl, eq, x1, k1, q, h1⟩ := hh
  exact ⟨I1.kIn, run_fnS F hr gd hb tk I1 r k1 q h1⟩
theorem s_call0 {k : Nat} {f : Addr} {fd : FuncData} {ps : List Str} {m : Fn} {x : Str} {p pos : Pos} (F : FnS X.prog X.w X.K M X.mg X.base k f fd ps m) (hr : Room k X.A) (gd : X.A.guards = some [])
    (hm : X.mg x = some (.ref f)) (hk : PySem.W.keepIn X.K (.ref f) = true) (hb : Binds X.K fd ps []) (tk : Takes X W) (hg : Gl X x := by rfl) (hdb : (x == ("__debug__" : Str)) = false := by decide) : SE X M W (.Call (.Name x p) [] [] pos) (callF m nilA) := by
  refine ⟨fun pins s σ H Q I h => ?_⟩
  obtain ⟨env, z, rfl, kz, v, h⟩ := h
  refine wpAny_Call_Name_kw (ld_glob I hg hm ?_ hdb)
  exact PySem.W.callWith_K0 I.kIn hk (run_fnS (us := []) F hr gd hb tk I .nil kz .nil h)
end
end Sm
/-! Sm5: operators: sums, products, comparisons, ==, in. -/
namespace Sm
open PySem PySem.Spec PyProof.Rows L2
def LINE : Nat := 16777216
theorem line_eq : LINE = sizeLine := sizeLine_eq.symm
/-- the items of a list, one's own or a tree -/
def getL (d : D) (S : Sto) : Option (List D) := match d with
  | .lst l => some l
  | .ref n => match S[n]? with
    | some (.lst _ l) => some l
    | _ => none
  | _ => none
section
variable {X : Cx} {M : Lm} {W : WX} {K : PySem.W.Frag} {z : Sg}
theorem getL_rd {d : D} {v : V} {l : List D} (k : SOk K M z) (q : EncA K M z d v) (e : getL d z.S = some l) : ∃ a vs, v = .ref a ∧ Rl K z.H a vs ∧ EncL K M z.H z.ow l vs := by
  cases d with
  | lst l' =>
    cases q with
    | of q =>
      cases q with
      | lst r h =>
        cases e
        exact ⟨_, _, rfl, r.rl, h⟩
  | ref n =>
    have e' : (match z.S[n]? with
      | some (.lst _ l) => some l
      | _ => none) = some l := e
    cases r : z.S[n]? with
    | none =>
      rw [r] at e'
      cases e'
    | some o =>
      rw [r] at e'
      cases o with
      | dic fz l => cases e'
      | arr l => cases e'
      | lst fz l' =>
        have e2 : some l' = some l := e'
        cases e2
        obtain ⟨a, vs, rfl, _, h1, h2⟩ := ref_lst k q r
        exact ⟨a, vs, rfl, .inl (.inl h1), h2⟩
  | _ => cases e
theorem getL_ok {d : D} {v : V} {l : List D} (k : SOk K M z) (q : EncA K M z d v) (e : getL d z.S = some l) : ∃ a vs, v = .ref a ∧ SqL K z.H a vs ∧ EncL K M z.H z.ow l vs := by
  obtain ⟨a, vs, h1, h2, h3⟩ := getL_rd k q e
  exact ⟨a, vs, h1, h2.sq, h3⟩
theorem rdM {pins : List (Addr × Obj)} {σ : St} {H : Hp} {s : Shared} {a : Addr} {xs : List V} (I : Inv X pins σ H s) (h : Rl X.K H a xs) :
    xs.length ≤ sizeLine ∧ ∃ (its : List Value) (n : Nat), Vals xs its ∧ xs.length = its.length ∧ s.heap.get? a = some { cls := .type "list", data := .seq its.toArray n } := by
  rcases h with h | ⟨its, n, h1, h2, h3⟩
  · obtain ⟨z, its, n, r, e⟩ := h.ok I.hok
    exact ⟨z, its, n, r, r.length, e⟩
  · have hl := h3.length
    have hl2 : its.toList.length = its.size := Array.length_toList
    exact ⟨by omega, its.toList, n, h3, hl, by
      rw [Array.toArray_toList]
      exact I.kIn a _ h1⟩
/-- a new list, a new tuple -/
theorem out_lst {σ : St} {Q : VK} {l : List D} {vs : List V} (k : SOk K M z) (e : EncL K M z.H z.ow l vs) (h : Out K M (EncA K M) W σ z Q (.ok (.lst l) z.S)) : ∀ p, z.H p = none → Q (.ref p) (upd z.H p (.lst vs)) := fun p np =>
  h (z.put p (.lst vs)) (.ref p) rfl (ext_put np k) (sok_put np k) (.of (.lst (.inl ⟨.inl at_put, now_put np k⟩) (e.mv (ext_put np k).mv)))
theorem out_tup {σ : St} {Q : VK} {l : List D} {vs : List V} (k : SOk K M z) (e : EncL K M z.H z.ow l vs) (h : Out K M (EncA K M) W σ z Q (.ok (.tup l) z.S)) : ∀ p, z.H p = none → Q (.ref p) (upd z.H p (.tup vs)) := fun p np =>
  h (z.put p (.tup vs)) (.ref p) rfl (ext_put np k) (sok_put np k) (.of (.tup (SqT.of at_put) (e.mv (ext_put np k).mv)))
theorem encA_tup {l : List D} {v : V} (q : EncA K M z (.tup l) v) : ∃ a vs, v = .ref a ∧ SqT K z.H a vs ∧ EncL K M z.H z.ow l vs := by
  cases q with
  | of q =>
    cases q with
    | tup h e => exact ⟨_, _, rfl, h, e⟩
/-! ### two-place operations -/
def binF (op : D → D → Sto → Res D) (f g : Env → Sto → Res D) : Env → Sto → Res D := fun env S => (f env S).bind fun x S1 => (g env S1).bind fun y S2 => op x y S2
def rOp (K : PySem.W.Frag) (M : Lm) (W : WX) (op : D → D → Sto → Res D) : R2 := fun x y H Q => ∃ z a b σ, z.H = H ∧ SOk K M z ∧ EncA K M z a x ∧ EncA K M z b y ∧ Out K M (EncA K M) W σ z Q (op a b z.S)
theorem top_of {op : D → D → Sto → Res D} {f g : Env → Sto → Res D} {σ : St} {H : Hp} {Q : VK} (h : tE K M W (binF op f g) σ H Q) : tOp (rOp K M W op) (tE K M W f) (tE K M W g) σ H Q := by
  obtain ⟨env, z, rfl, k, v, h⟩ := h
  refine ⟨env, z, rfl, k, v, (Out.bind h).imp fun b H1 q => ?_⟩
  obtain ⟨a, z1, rfl, _, x, k1, q, h1⟩ := q
  refine ⟨env, z1, rfl, k1, v.ext x, (Out.bind h1).imp fun b2 H2 q2 => ?_⟩
  obtain ⟨a2, z2, rfl, _, x2, k2, q2, h2⟩ := q2
  exact ⟨z2, a, a2, σ, rfl, k2, q.ext x2, q2, h2⟩
theorem s_bin {op : Operator} {od : D → D → Sto → Res D} {a b : Expr} {pos : Pos} {f g : Env → Sto → Res D} (ho : OpR X (binaryOp op) (rOp X.K M W od)) (ha : SE X M W a f) (hb : SE X M W b g) : SE X M W (.BinOp a op b pos) (binF od f g) :=
  pe_imp (pe_op ho ha hb) fun _ _ _ h => top_of h
theorem s_cmp {op : CmpOp} {od : D → D → Sto → Res D} {a b : Expr} {pos : Pos} {f g : Env → Sto → Res D} (ho : OpR X (compareOp op) (rOp X.K M W od)) (ha : SE X M W a f) (hb : SE X M W b g) (hm : behindInMarks op b = false := by first | exact nomark _ | rfl) :
    SE X M W (.Compare a [op] [b] pos) (binF od f g) :=
  pe_imp (pe_cmpR ho ha hb hm) fun _ _ _ h => top_of h
theorem st_cmp {op : CmpOp} {od : D → D → Sto → Res D} {a b : Expr} {pos : Pos} {f g : Env → Sto → Res D} (ho : OpR X (compareOp op) (rOp X.K M W od)) (ha : SE X M W a f) (hb : SE X M W b g) (hm : behindInMarks op b = false := by first | exact nomark _ | rfl) :
    ST X M W (.Compare a [op] [b] pos) (isB (binF od f g)) := by
  refine pt_imp (pt_cmpR ho ha hb hm) fun σ H Q h => ?_
  obtain ⟨env, z, rfl, k, v, h⟩ := h
  have h2 : tOp (rOp X.K M W od) (tE X.K M W f) (tE X.K M W g) σ z.H (fun x H' => ∃ k, x = .bl k ∧ Q k H') := by
    refine top_of ⟨env, z, rfl, k, v, (Out.bind h).imp fun b H1 q => ?_⟩
    obtain ⟨a, z1, rfl, _, x, k1, q, h1⟩ := q
    cases a with
    | bl c => exact ⟨c, encA_bl q, h1 z1 c rfl (Ext.refl z1) k1 rfl⟩
    | _ => exact h1.elim
  exact h2
/-- from a rule over two values -/
theorem op_of {f : Value → Value → Sem Value} {od : D → D → Sto → Res D}
    (h : ∀ (a b : D) (x y : V) (z : Sg) (σ' : St) (Q : VK), SOk X.K M z → EncA X.K M z a x → EncA X.K M z b y → Out X.K M (EncA X.K M) W σ' z Q (od a b z.S) →
      ∃ r, OpR X f r ∧ r x y z.H Q) : OpR X f (rOp X.K M W od) := by
  intro pins s σ H x y v u Q I rx ry hh
  obtain ⟨z, a, b, σ', rfl, k, qa, qb, h1⟩ := hh
  obtain ⟨r, h2, h3⟩ := h a b x y z σ' Q k qa qb h1
  exact h2 pins s σ z.H x y v u Q I rx ry h3
theorem out_int {σ : St} {Q : VK} {i : Int} (k : SOk K M z) (h : Out K M (EncA K M) W σ z Q (.ok (.int i) z.S)) : Q (.int i) z.H := h z _ rfl (Ext.refl z) k (.of (.int i))
theorem out_str {σ : St} {Q : VK} {i : List Nat} (k : SOk K M z) (h : Out K M (EncA K M) W σ z Q (.ok (.str i) z.S)) : Q (.str ⟨i.toArray⟩) z.H := h z _ rfl (Ext.refl z) k (.of (.str i))
theorem out_bl {σ : St} {Q : VK} {i : Bool} (k : SOk K M z) (h : Out K M (EncA K M) W σ z Q (.ok (.bl i) z.S)) : Q (.bl i) z.H := h z _ rfl (Ext.refl z) k (.of (.bl i))
theorem out_non {σ : St} {Q : VK} (k : SOk K M z) (h : Out K M (EncA K M) W σ z Q (.ok .non z.S)) : Q .non z.H := h z _ rfl (Ext.refl z) k (.of .non)
theorem out_same {σ : St} {Q : VK} {d : D} {v : V} (k : SOk K M z) (q : EncA K M z d v) (h : Out K M (EncA K M) W σ z Q (.ok d z.S)) : Q v z.H := h z _ rfl (Ext.refl z) k q
/-! ### + -/
def catD (a b : D) (S : Sto) : Res D := match getL a S, getL b S with
  | some s, some t => if s.length + t.length ≤ LINE then .ok (.lst (s ++ t)) S else .bad
  | _, _ => .bad
def addD (a b : D) (S : Sto) : Res D := match a, b with
  | .int i, .int j => .ok (.int (i + j)) S
  | .str s, .str t => if s.length + t.length ≤ LINE then .ok (.str (s ++ t)) S else .bad
  | .tup s, .tup t => if s.length + t.length ≤ LINE then .ok (.tup (s ++ t)) S else .bad
  | a, b => catD a b S
def rCatL (K : PySem.W.Frag) : R2 := fun x y H Q => ∃ l b xs zs, x = .ref l ∧ y = .ref b ∧ Rl K H l xs ∧ Rl K H b zs ∧ xs.length + zs.length ≤ sizeLine ∧ ∀ p, H p = none → Q (.ref p) (upd H p (.lst (xs ++ zs)))
theorem op_catL : OpR X (binaryOp .Add) (rCatL X.K) := by
  intro pins s σ H x y v u Q I rx ry h
  obtain ⟨l, b, xs, zs, rfl, rfl, h1, h2, hz, q⟩ := h
  cases rx
  cases ry
  obtain ⟨za, its, n, r, hl, e⟩ := rdM I h1
  obtain ⟨zb, its2, n2, r2, hl2, e2⟩ := rdM I h2
  refine PySem.P.add_list e e2 ?_ (by
    rw [List.size_toArray, List.size_toArray]
    omega)
  rw [show its.toArray ++ its2.toArray = (its ++ its2).toArray by simp]
  refine ⟨.ref _, _, I.lnew (t' := s.toks) (r.append r2) ?_, rfl, q _ I.fresh⟩
  rw [List.length_append]
  omega
theorem cat_ok {a b : D} {x y : V} {σ' : St} {Q : VK} (k : SOk X.K M z) (qa : EncA X.K M z a x) (qb : EncA X.K M z b y) (h : Out X.K M (EncA X.K M) W σ' z Q (catD a b z.S)) : ∃ r, OpR X (binaryOp .Add) r ∧ r x y z.H Q := by
  unfold catD at h
  cases ha : getL a z.S with
  | none =>
    rw [ha] at h
    exact h.elim
  | some s =>
    cases hb : getL b z.S with
    | none =>
      rw [ha, hb] at h
      exact h.elim
    | some t =>
      rw [ha, hb] at h
      dsimp only at h
      by_cases c : s.length + t.length ≤ LINE
      · rw [if_pos c] at h
        obtain ⟨p, vs, rfl, r1, e1⟩ := getL_rd k qa ha
        obtain ⟨p2, vs2, rfl, r2, e2⟩ := getL_rd k qb hb
        exact ⟨_, op_catL, p, p2, vs, vs2, rfl, rfl, r1, r2, by
          rw [← e1.length, ← e2.length, ← line_eq]
          exact c, out_lst k (e1.app e2) h⟩
      · rw [if_neg c] at h
        exact h.elim
theorem add_ok : OpR X (binaryOp .Add) (rOp X.K M W addD) := op_of fun a b x y z σ' Q k qa qb h => by
  cases a with
  | int i =>
    cases b with
    | int j =>
      rw [encA_int qa, encA_int qb]
      exact ⟨_, op_add, i, j, rfl, rfl, out_int k h⟩
    | _ => exact cat_ok k qa qb h
  | str s =>
    cases b with
    | str t =>
      rw [encA_str qa, encA_str qb]
      have h' : Out X.K M (EncA X.K M) W σ' z Q (if s.length + t.length ≤ LINE then Res.ok (.str (s ++ t)) z.S else .bad) := h
      by_cases c : s.length + t.length ≤ LINE
      · rw [if_pos c] at h'
        refine ⟨_, op_add_str, _, _, rfl, rfl, ?_, ?_⟩
        · show s.toArray.size + t.toArray.size ≤ _
          rw [List.size_toArray, List.size_toArray, ← line_eq]
          exact c
        · have := out_str k h'
          rw [show (⟨s.toArray⟩ ++ ⟨t.toArray⟩ : Str) = ⟨(s ++ t).toArray⟩ by
            show (⟨s.toArray ++ t.toArray⟩ : Str) = _
            simp]
          exact this
      · rw [if_neg c] at h'
        exact h'.elim
    | _ => exact cat_ok k qa qb h
  | tup s =>
    cases b with
    | tup t =>
      have h' : Out X.K M (EncA X.K M) W σ' z Q (if s.length + t.length ≤ LINE then Res.ok (.tup (s ++ t)) z.S else .bad) := h
      by_cases c : s.length + t.length ≤ LINE
      · rw [if_pos c] at h'
        obtain ⟨p, vs, rfl, r1, e1⟩ := encA_tup qa
        obtain ⟨p2, vs2, rfl, r2, e2⟩ := encA_tup qb
        refine ⟨_, op_catA, p, p2, vs, vs2, rfl, rfl, r1, r2, by
          rw [← e1.length, ← e2.length, ← line_eq]
          exact c, fun hx => ?_, fun _ hy => ?_, fun _ _ => out_tup k (e1.app e2) h'⟩
        · have : s = [] := List.eq_nil_of_length_eq_zero (by rw [e1.length, hx]; rfl)
          subst this
          exact out_same k qb h'
        · have : t = [] := List.eq_nil_of_length_eq_zero (by rw [e2.length, hy]; rfl)
          subst this
          rw [List.append_nil] at h'
          exact out_same k qa h'
      · rw [if_neg c] at h'
        exact h'.elim
    | _ => exact cat_ok k qa qb h
  | _ => exact cat_ok k qa qb h
/-! ### - * // % ** -/
def intD (f : Int → Int → Int) (a b : D) (S : Sto) : Res D := match a, b with
  | .int i, .int j => .ok (.int (f i j)) S
  | _, _ => .bad
def intCD (c : Int → Int → Bool) (f : Int → Int → Int) (a b : D) (S : Sto) : Res D := match a, b with
  | .int i, .int j => if c i j = true then .ok (.int (f i j)) S else .bad
  | _, _ => .bad
def subD : D → D → Sto → Res D := intD (· - ·)
theorem intC_ok {f : Value → Value → Sem Value} {c : Int → Int → Bool} {C : Int → Int → Prop} {g : Int → Int → Int} (ho : OpR X f (rI C fun i j => .int (g i j))) (hc : ∀ i j, c i j = true → C i j) : OpR X f (rOp X.K M W (intCD c g)) := op_of fun a b x y z σ' Q k qa qb h => by
  cases a with
  | int i =>
    cases b with
    | int j =>
      have h' : Out X.K M (EncA X.K M) W σ' z Q (if c i j = true then Res.ok (.int (g i j)) z.S else .bad) := h
      by_cases e : c i j = true
      · rw [if_pos e] at h'
        rw [encA_int qa, encA_int qb]
        exact ⟨_, ho, i, j, rfl, rfl, hc i j e, out_int k h'⟩
      · rw [if_neg e] at h'
        exact h'.elim
    | _ => exact h.elim
  | _ => exact h.elim
theorem sub_ok : OpR X (binaryOp .Sub) (rOp X.K M W subD) := op_of fun a b x y z σ' Q k qa qb h => by
  cases a with
  | int i =>
    cases b with
    | int j =>
      rw [encA_int qa, encA_int qb]
      exact ⟨_, op_sub, i, j, rfl, rfl, out_int k h⟩
    | _ => exact h.elim
  | _ => exact h.elim
def cDiv (i j : Int) : Bool := decide (j ≠ 0) && !Builtin.divisionGoesByPylong i j
def cMod (_ j : Int) : Bool := decide (j ≠ 0)
def cPow (i j : Int) : Bool := decide (0 ≤ j) && decide ((Builtin.Int.intBits i : Int) * j ≤ 134217728)
def cMul (i j : Int) : Bool := decide (i.natAbs.log2 + j.natAbs.log2 < 100000000)
def fdivD : D → D → Sto → Res D := intCD cDiv Int.fdiv
def modD : D → D → Sto → Res D := intCD cMod Int.fmod
def powD : D → D → Sto → Res D := intCD cPow fun i j => i ^ j.toNat
theorem fdiv_ok : OpR X (binaryOp .FloorDiv) (rOp X.K M W fdivD) :=
  intC_ok (C := fun i j => j ≠ 0 ∧ Builtin.divisionGoesByPylong i j = false) (opI fun i j _ _ _ _ _ hc q => floordiv_int hc.1 q (.inl hc.2)) fun i j h => by
    unfold cDiv at h
    rw [Bool.and_eq_true] at h
    exact ⟨of_decide_eq_true h.1, by simpa using h.2⟩
theorem mod_ok : OpR X (binaryOp .Mod) (rOp X.K M W modD) := intC_ok op_modN fun i j h => of_decide_eq_true h
theorem pow_ok : OpR X (binaryOp .Pow) (rOp X.K M W powD) := intC_ok (C := fun i j => 0 ≤ j ∧ (Builtin.Int.intBits i : Int) * j ≤ 134217728) (opI fun _ _ _ _ _ _ _ hc q => pow_int hc.1 (by
    have e : (2 : Int) ^ 27 = 134217728 := by decide
    rw [e]
    exact hc.2) q) fun i j h => by
  unfold cPow at h
  rw [Bool.and_eq_true] at h
  exact ⟨of_decide_eq_true h.1, of_decide_eq_true h.2⟩
theorem mul_int_ok : OpR X (binaryOp .Mult) (rOp X.K M W (intCD cMul (· * ·))) :=
  intC_ok (C := fun i j => i.natAbs.log2 + j.natAbs.log2 < 100000000) (opI fun i j _ _ _ _ _ hc q => mul_int q (by
    have b : ∀ x : Int, Builtin.Int.intBits x ≤ x.natAbs.log2 + 1 := fun x => by
      unfold Builtin.Int.intBits
      split <;> omega
    have h1 := b i
    have h2 := b j
    have e : bitsLine = 134217728 := by decide
    unfold IntMulOk
    intro zz
    rw [Bool.and_eq_true] at zz
    have z2 := zz.2
    unfold Builtin.Int.intTooBig at z2
    have z3 := of_decide_eq_true z2
    rw [e] at z3
    omega)) fun i j h => of_decide_eq_true h
end
end Sm
/-! Sm6: ==, in, is, order, -x, repr, isinstance, len. -/
namespace Sm
open PySem PySem.Spec PyProof.Rows L2
/-! ### trees as the library's data -/
mutual
def py : D → PyData
  | .non => .none
  | .bl b => .bool b
  | .int i => .int i
  | .str s => .str ⟨s.toArray⟩
  | .tup l => .tuple (pyL l)
  | .lst l => .list (pyL l)
  | .dic _ => .none
  | .ref _ => .none
  | .exc _ _ => .none
  | .cls _ => .none
  | .ty _ => .none
  | .fn => .none
def pyL : List D → List PyData
  | [] => []
  | d :: l => py d :: pyL l
end
mutual
/-- plain data, at most n deep -/
def okD : Nat → D → Bool
  | _, .non => true
  | _, .bl _ => true
  | _, .int _ => true
  | _, .str s => s.all (· < 0x110000)
  | 0, _ => false
  | n + 1, .tup l => okL n l
  | n + 1, .lst l => okL n l
  | _, _ => false
def okL : Nat → List D → Bool
  | _, [] => true
  | n, d :: l => okD n d && okL n l
end
mutual
/-- == of plain data -/
def eqV : D → D → Bool
  | .non, .non => true
  | .bl a, .bl b => a == b
  | .bl a, .int j => (if a then 1 else 0) == j
  | .int i, .bl b => i == (if b then 1 else 0)
  | .int i, .int j => i == j
  | .str x, .str y => x == y
  | .lst a, .lst b => eqVL a b
  | .tup a, .tup b => eqVL a b
  | _, _ => false
def eqVL : List D → List D → Bool
  | [], [] => true
  | a :: l, b :: r => eqV a b && eqVL l r
  | _, _ => false
end
theorem str_eq (x y : List Nat) : ((⟨x.toArray⟩ : Str) == ⟨y.toArray⟩) = (x == y) := by
  rw [Bool.eq_iff_iff]
  simp
mutual
theorem eqV_py : ∀ (a b : D) (n m : Nat), okD n a = true → okD m b = true → PyData.eqv (py a) (py b) = eqV a b
  | .non, b, n, m, h, k => by cases b <;> first | rfl | (cases m <;> simp [okD] at k)
  | .bl x, b, n, m, h, k => by cases b <;> first | rfl | (cases m <;> simp [okD] at k)
  | .int x, b, n, m, h, k => by cases b <;> first | rfl | (cases m <;> simp [okD] at k)
  | .str x, b, n, m, h, k => by
    cases b <;> first
      | rfl
      | (cases m <;> simp [okD] at k; done)
      | (simp only [py, PyData.eqv, eqV]; exact str_eq _ _)
  | .tup x, b, n, m, h, k => by
    cases n with
    | zero => simp [okD] at h
    | succ n =>
      cases b <;> first
        | rfl
        | (cases m <;> simp [okD] at k; done)
        | skip
      cases m with
      | zero => simp [okD] at k
      | succ m =>
        simp only [py, PyData.eqv, eqV]
        exact eqVL_py x _ n m (by simpa [okD] using h) (by simpa [okD] using k)
  | .lst x, b, n, m, h, k => by
    cases n with
    | zero => simp [okD] at h
    | succ n =>
      cases b <;> first
        | rfl
        | (cases m <;> simp [okD] at k; done)
        | skip
      cases m with
      | zero => simp [okD] at k
      | succ m =>
        simp only [py, PyData.eqv, eqV]
        exact eqVL_py x _ n m (by simpa [okD] using h) (by simpa [okD] using k)
  | .dic x, b, n, m, h, k => by cases n <;> simp [okD] at h
  | .ref x, b, n, m, h, k => by cases n <;> simp [okD] at h
  | .exc x l, b, n, m, h, k => by cases n <;> simp [okD] at h
  | .cls x, b, n, m, h, k => by cases n <;> simp [okD] at h
  | .ty x, b, n, m, h, k => by cases n <;> simp [okD] at h
  | .fn, b, n, m, h, k => by cases n <;> simp [okD] at h
theorem eqVL_py : ∀ (a b : List D) (n m : Nat), okL n a = true → okL m b = true → PyData.eqvAll (pyL a) (pyL b) = eqVL a b
  | [], b, n, m, h, k => by cases b <;> rfl
  | x :: l, b, n, m, h, k => by
    cases b with
    | nil => rfl
    | cons y r =>
      have h' : okD n x = true ∧ okL n l = true := by simpa [okL] using h
      have k' : okD m y = true ∧ okL m r = true := by simpa [okL] using k
      simp only [pyL, PyData.eqvAll, eqVL]
      rw [eqV_py x y n m h'.1 k'.1, eqVL_py l r n m h'.2 k'.2]
end
mutual
theorem shaped_py : ∀ (d : D) (n : Nat), okD n d = true → (py d).canLay0 = true ∧ (py d).depth ≤ n
  | .non, _, _ => ⟨rfl, Nat.zero_le _⟩
  | .bl _, _, _ => ⟨rfl, Nat.zero_le _⟩
  | .int _, _, _ => ⟨rfl, Nat.zero_le _⟩
  | .str s, n, h => by
    refine ⟨?_, Nat.zero_le _⟩
    have h' : s.all (· < 0x110000) = true := by cases n <;> simpa [okD] using h
    show PyData.strOk ⟨s.toArray⟩ = true
    unfold PyData.strOk
    simpa using h'
  | .tup l, 0, h => by simp [okD] at h
  | .tup l, n + 1, h => by
    have q := shapedL_py l n (by simpa [okD] using h)
    refine ⟨by simp only [py, PyData.canLay0]; exact q.1, ?_⟩
    simp only [py, PyData.depth]
    omega
  | .lst l, 0, h => by simp [okD] at h
  | .lst l, n + 1, h => by
    have q := shapedL_py l n (by simpa [okD] using h)
    refine ⟨by simp only [py, PyData.canLay0]; exact q.1, ?_⟩
    simp only [py, PyData.depth]
    omega
  | .dic x, n, h => by cases n <;> simp [okD] at h
  | .ref x, n, h => by cases n <;> simp [okD] at h
  | .exc x l, n, h => by cases n <;> simp [okD] at h
  | .cls x, n, h => by cases n <;> simp [okD] at h
  | .ty x, n, h => by cases n <;> simp [okD] at h
  | .fn, n, h => by cases n <;> simp [okD] at h
theorem shapedL_py : ∀ (l : List D) (n : Nat), okL n l = true → PyData.canLayAll0 (pyL l) = true ∧ PyData.depthAll (pyL l) ≤ n
  | [], _, _ => ⟨rfl, Nat.zero_le _⟩
  | d :: l, n, h => by
    have h' : okD n d = true ∧ okL n l = true := by simpa [okL] using h
    have q1 := shaped_py d n h'.1
    have q2 := shapedL_py l n h'.2
    refine ⟨by simp only [pyL, PyData.canLayAll0]; rw [q1.1, q2.1]; rfl, ?_⟩
    simp only [pyL, PyData.depthAll]
    exact Nat.max_le.mpr ⟨q1.2, q2.2⟩
end
theorem shaped_of {d : D} (h : okD 60 d = true) : SeqAt.shaped (py d) = true := by
  have q := shaped_py d 60 h
  unfold SeqAt.shaped
  rw [q.1, Bool.true_and]
  exact decide_eq_true (Nat.le_trans q.2 (by decide))
mutual
theorem enc_dp {K : PySem.W.Frag} {M : Lm} {H : Hp} {ow : Addr → Prop} : ∀ (d : D) (n : Nat) (v : V), okD n d = true → Enc K M H ow d v → Dp K H v (py d)
  | .non, _, _, _, h => by
    cases h
    exact .non
  | .bl b, _, _, _, h => by
    cases h
    exact .bl b
  | .int b, _, _, _, h => by
    cases h
    exact .int b
  | .str b, _, _, _, h => by
    cases h
    exact .str _
  | .tup l, 0, _, k, _ => by simp [okD] at k
  | .tup l, n + 1, _, k, h => by
    cases h with
    | tup hs hl => exact .tup hs (encL_dp l n _ (by simpa [okD] using k) hl)
  | .lst l, 0, _, k, _ => by simp [okD] at k
  | .lst l, n + 1, _, k, h => by
    cases h with
    | lst hs hl => exact .lst hs.rl.sq (encL_dp l n _ (by simpa [okD] using k) hl)
  | .dic x, n, _, h, _ => by cases n <;> simp [okD] at h
  | .ref x, n, _, h, _ => by cases n <;> simp [okD] at h
  | .exc x l, n, _, h, _ => by cases n <;> simp [okD] at h
  | .cls x, n, _, h, _ => by cases n <;> simp [okD] at h
  | .ty x, n, _, h, _ => by cases n <;> simp [okD] at h
theorem encL_dp {K : PySem.W.Frag} {M : Lm} {H : Hp} {ow : Addr → Prop} : ∀ (l : List D) (n : Nat) (vs : List V), okL n l = true → EncL K M H ow l vs → DpAll K H vs (pyL l)
  | [], _, _, _, h => by
    cases h
    exact .nil
  | d :: l, n, _, k, h => by
    have k' : okD n d = true ∧ okL n l = true := by simpa [okL] using k
    cases h with
    | cons a b => exact .cons (enc_dp d n _ k'.1 a) (encL_dp l n _ k'.2 b)
end
/-- one's own object as a tree -/
def see (d : D) (S : Sto) : D := match d with
  | .ref n => match S[n]? with
    | some (.lst _ l) => .lst l
    | some (.dic _ l) => .dic l
    | some (.arr _) => .fn
    | none => .non
  | d => d
section
variable {X : Cx} {M : Lm} {W : WX} {K : PySem.W.Frag} {z : Sg}
theorem see_dp {d : D} {v : V} (k : SOk K M z) (q : EncA K M z d v) (h : okD 60 (see d z.S) = true) (hr : ∀ n, d = .ref n → z.S[n]? ≠ none) : Dp K z.H v (py (see d z.S)) := by
  by_cases hd : ∃ n, d = .ref n
  · obtain ⟨n, rfl⟩ := hd
    have hr' := hr n rfl
    cases r : z.S[n]? with
    | none => exact absurd r hr'
    | some o =>
      unfold see at h ⊢
      dsimp only at h ⊢
      rw [r] at h ⊢
      cases o with
      | lst fz l =>
        obtain ⟨a, vs, rfl, _, h1, h2⟩ := ref_lst k q r
        have h' : okL 59 l = true := by simpa [okD] using h
        exact .lst (SqL.of h1) (encL_dp l 59 _ h' h2)
      | dic fz l => simp [okD] at h
      | arr l => simp [okD] at h
  · have hn : ∀ n, d ≠ .ref n := fun n e => hd ⟨n, e⟩
    have e : see d z.S = d := by
      cases d <;> first | rfl | exact absurd rfl (hn _)
    rw [e] at h ⊢
    exact enc_dp d 60 v h (q.enc hn fun z => by
      subst z
      simp [okD] at h)
def hasR (d : D) (S : Sto) : Bool := match d with
  | .ref n => match S[n]? with
    | some _ => true
    | none => false
  | _ => true
theorem hasR_ok {d : D} {S : Sto} (h : hasR d S = true) : ∀ n, d = .ref n → S[n]? ≠ none := by
  rintro n rfl
  unfold hasR at h
  dsimp only at h
  cases r : S[n]? with
  | none =>
    rw [r] at h
    cases h
  | some o => exact fun z => nomatch z
/-- plain, looked through a reference -/
def plain (d : D) (S : Sto) : Bool := hasR d S && okD 60 (see d S)
theorem plain_dp {d : D} {v : V} (k : SOk K M z) (q : EncA K M z d v) (h : plain d z.S = true) : Dp K z.H v (py (see d z.S)) ∧ okD 60 (see d z.S) = true := by
  unfold plain at h
  rw [Bool.and_eq_true] at h
  exact ⟨see_dp k q h.2 (hasR_ok h.1), h.2⟩
def eqP (f : Bool → Bool) (a b : D) (S : Sto) : Res D := if (plain a S && plain b S) = true then .ok (.bl (f (eqV (see a S) (see b S)))) S else .bad
def eqG (f : Bool → Bool) (a b : D) (S : Sto) : Res D := match a, b with
  | .str x, .str y => .ok (.bl (f (decide (x = y)))) S
  | a, b => eqP f a b S
def eqD : D → D → Sto → Res D := eqG id
def neD : D → D → Sto → Res D := eqG not
theorem dec_str {x y : List Nat} : decide (V.str ⟨x.toArray⟩ = V.str ⟨y.toArray⟩) = decide (x = y) := by
  rw [Bool.eq_iff_iff]
  simp
theorem eqG_ok {f : Bool → Bool} {op : CmpOp} (ho : OpR X (compareOp op) (fun x y H Q => ∃ d e, Dp X.K H x d ∧ Dp X.K H y e ∧ SeqAt.shaped d = true ∧ SeqAt.shaped e = true ∧ Q (.bl (f (PyData.eqv d e))) H)) (hs : OpR X (compareOp op) (fun x y H Q => scal x y = true ∧ Q (.bl (f (decide (x = y)))) H)) :
    OpR X (compareOp op) (rOp X.K M W (eqG f)) := op_of fun a b x y z σ' Q k qa qb h => by
  have deep : Out X.K M (EncA X.K M) W σ' z Q (eqP f a b z.S) → ∃ r, OpR X (compareOp op) r ∧ r x y z.H Q := fun h => by
    unfold eqP at h
    by_cases c : (plain a z.S && plain b z.S) = true
    · rw [if_pos c] at h
      rw [Bool.and_eq_true] at c
      obtain ⟨d1, o1⟩ := plain_dp k qa c.1
      obtain ⟨d2, o2⟩ := plain_dp k qb c.2
      refine ⟨_, ho, _, _, d1, d2, shaped_of o1, shaped_of o2, ?_⟩
      rw [eqV_py _ _ 60 60 o1 o2]
      exact out_bl k h
    · rw [if_neg c] at h
      exact h.elim
  cases a with
  | str s =>
    cases b with
    | str t =>
      have h' : Out X.K M (EncA X.K M) W σ' z Q (.ok (.bl (f (decide (s = t)))) z.S) := h
      rw [encA_str qa, encA_str qb]
      refine ⟨_, hs, rfl, ?_⟩
      rw [dec_str]
      exact out_bl k h'
    | _ => exact deep h
  | _ => exact deep h
theorem eq_ok (hu : X.A.units + 64 < cLine) : OpR X (compareOp .Eq) (rOp X.K M W eqD) := eqG_ok (op_eqD hu) op_eq
theorem ne_ok (hu : X.A.units + 64 < cLine) : OpR X (compareOp .NotEq) (rOp X.K M W neD) := eqG_ok (op_neD hu) op_ne
/-! ### in -/
theorem pyL_map (l : List D) : pyL l = l.map py := by
  induction l with
  | nil => rfl
  | cons d l ih => rw [pyL, ih, List.map_cons]
theorem any_py {l : List D} {d : D} {n m : Nat} (h : okL n l = true) (k : okD m d = true) : ((pyL l).any fun y => PyData.eqv y (py d)) = l.any fun y => eqV y d := by
  induction l with
  | nil => rfl
  | cons x l ih =>
    have h' : okD n x = true ∧ okL n l = true := by simpa [okL] using h
    rw [pyL, List.any_cons, List.any_cons, ih h'.2, eqV_py x d n m h'.1 k]
def inD (neg : Bool) (a b : D) (S : Sto) : Res D := match a, see b S with
  | .str [c], .str s => .ok (.bl (if neg then !decide (c ∈ s) else decide (c ∈ s))) S
  | a, .lst l => if (plain a S && (hasR b S && okD 60 (.lst l))) = true then .ok (.bl (if neg then !l.any fun y => eqV y (see a S) else l.any fun y => eqV y (see a S))) S else .bad
  | a, .tup l => if (plain a S && (hasR b S && okD 60 (.tup l))) = true then .ok (.bl (if neg then !l.any fun y => eqV y (see a S) else l.any fun y => eqV y (see a S))) S else .bad
  | _, _ => .bad
def rInAll (K : PySem.W.Frag) (neg : Bool) : R2 := fun x y H Q => ∃ d ds, Dp K H x d ∧ (Dp K H y (.list ds) ∨ Dp K H y (.tuple ds)) ∧ SeqAt.shaped d = true ∧ PyData.canLayAll0 ds = true ∧ Q (.bl (if neg then !ds.any fun z => PyData.eqv z d else ds.any fun z => PyData.eqv z d)) H
theorem op_inAll (hu : X.A.units + 65 < cLine) : OpR X (compareOp .In) (rInAll X.K false) := by
  intro pins s σ H x y v u Q I rx ry h
  obtain ⟨d, ds, hd, he, sd, se, q⟩ := h
  obtain ⟨as, r1⟩ := Dp.reads I d x v hd rx
  rcases he with he | he
  · obtain ⟨bs, r2⟩ := Dp.reads I _ y u he ry
    exact SeqAt.in_list_reads r2 r1 se (SeqAt.canLay_of_shaped sd) (room_in_shaped sd hu) ⟨.bl _, H, I, rfl, q⟩
  · obtain ⟨bs, r2⟩ := Dp.reads I _ y u he ry
    exact SeqAt.in_tuple_reads r2 r1 se (SeqAt.canLay_of_shaped sd) (room_in_shaped sd hu) ⟨.bl _, H, I, rfl, q⟩
theorem op_notInAll (hu : X.A.units + 65 < cLine) : OpR X (compareOp .NotIn) (rInAll X.K true) := by
  intro pins s σ H x y v u Q I rx ry h
  obtain ⟨d, ds, hd, he, sd, se, q⟩ := h
  obtain ⟨as, r1⟩ := Dp.reads I d x v hd rx
  rcases he with he | he
  · obtain ⟨bs, r2⟩ := Dp.reads I _ y u he ry
    exact SeqAt.notIn_list_reads r2 r1 se (SeqAt.canLay_of_shaped sd) (room_in_shaped sd hu) ⟨.bl _, H, I, rfl, q⟩
  · obtain ⟨bs, r2⟩ := Dp.reads I _ y u he ry
    exact SeqAt.notIn_tuple_reads r2 r1 se (SeqAt.canLay_of_shaped sd) (room_in_shaped sd hu) ⟨.bl _, H, I, rfl, q⟩
theorem in_data {neg : Bool} {op : CmpOp} (ho : OpR X (compareOp op) (rInAll X.K neg)) {a b : D} {x y : V} {σ' : St} {Q : VK} {l : List D} (k : SOk X.K M z) (qa : EncA X.K M z a x) (qb : EncA X.K M z b y)
    (hb : see b z.S = .lst l ∨ see b z.S = .tup l) (h : Out X.K M (EncA X.K M) W σ' z Q (if (plain a z.S && (hasR b z.S && okD 60 (see b z.S))) = true then .ok (.bl (if neg then !l.any fun y => eqV y (see a z.S) else l.any fun y => eqV y (see a z.S))) z.S else .bad)) :
    ∃ r, OpR X (compareOp op) r ∧ r x y z.H Q := by
  by_cases c : (plain a z.S && (hasR b z.S && okD 60 (see b z.S))) = true
  · rw [if_pos c] at h
    rw [Bool.and_eq_true] at c
    obtain ⟨d1, o1⟩ := plain_dp k qa c.1
    obtain ⟨d2, o2⟩ := plain_dp k qb c.2
    have hl : okL 59 l = true ∧ (Dp X.K z.H y (.list (pyL l)) ∨ Dp X.K z.H y (.tuple (pyL l))) := by
      rcases hb with hb | hb
      · rw [hb] at d2 o2
        exact ⟨by simpa [okD] using o2, .inl d2⟩
      · rw [hb] at d2 o2
        exact ⟨by simpa [okD] using o2, .inr d2⟩
    refine ⟨_, ho, _, pyL l, d1, hl.2, shaped_of o1, (shapedL_py l 59 hl.1).1, ?_⟩
    rw [any_py hl.1 o1]
    exact out_bl k h
  · rw [if_neg c] at h
    exact h.elim
theorem in_sgn {neg : Bool} {op : CmpOp} (hs : OpR X (compareOp op) (fun x y H Q => ∃ (c : Nat) (z : Str), x = .str ⟨#[c]⟩ ∧ y = .str z ∧ Q (.bl (if neg then !decide (c ∈ z.cps.toList) else decide (c ∈ z.cps.toList))) H)) (ho : OpR X (compareOp op) (rInAll X.K neg)) : OpR X (compareOp op) (rOp X.K M W (inD neg)) := op_of fun a b x y z σ' Q k qa qb h => by
  unfold inD at h
  cases hb : see b z.S with
  | str s =>
    rw [hb] at h
    have eb : b = .str s := by
      cases b with
      | ref n =>
        unfold see at hb
        dsimp only at hb
        split at hb <;> cases hb
      | _ => exact hb
    subst eb
    split at h
    · rename_i c s' e1
      cases e1
      rw [encA_str qa, encA_str qb]
      exact ⟨_, hs, c, _, rfl, rfl, by simpa using out_bl k h⟩
    · rename_i e1
      cases e1
    · rename_i e1
      cases e1
    · exact h.elim
  | lst l =>
    rw [hb] at h
    refine in_data (W := W) (σ' := σ') ho k qa qb (.inl hb) ?_
    rw [hb]
    split at h
    · rename_i e1
      cases e1
    · rename_i e1
      cases e1
      exact h
    · rename_i e1
      cases e1
    · exact h.elim
  | tup l =>
    rw [hb] at h
    refine in_data (W := W) (σ' := σ') ho k qa qb (.inr hb) ?_
    rw [hb]
    split at h
    · rename_i e1
      cases e1
    · rename_i e1
      cases e1
    · rename_i e1
      cases e1
      exact h
    · exact h.elim
  | _ =>
    rw [hb] at h
    split at h <;> first | exact h.elim | (rename_i e1; cases e1)
theorem in_ok (hu : X.A.units + 65 < cLine) : OpR X (compareOp .In) (rOp X.K M W (inD false)) := in_sgn op_in_sign (op_inAll hu)
theorem notIn_ok (hu : X.A.units + 65 < cLine) : OpR X (compareOp .NotIn) (rOp X.K M W (inD true)) := in_sgn op_notIn_sign (op_notInAll hu)
/-! ### is, order -/
def isNonD (neg : Bool) (a b : D) (S : Sto) : Res D := match a, b with
  | .non, .non => .ok (.bl !neg) S
  | _, .non => .ok (.bl neg) S
  | .bl x, .bl y => .ok (.bl (if neg then !decide (x = y) else decide (x = y))) S
  | _, _ => .bad
theorem encA_ne_non {d : D} {v : V} (q : EncA K M z d v) (h : d ≠ .non) : v ≠ .non := by
  cases q with
  | ref _ _ => exact fun z => nomatch z
  | of q => cases q <;> first | exact absurd rfl h | exact fun z => nomatch z
  | fn _ => exact fun z => nomatch z
theorem is_ok : OpR X (compareOp .Is) (rOp X.K M W (isNonD false)) := op_of fun a b x y z σ' Q k qa qb h => by
  by_cases hb : b = .non
  · subst hb
    rw [encA_non qb]
    refine ⟨_, op_isN, rfl, ?_⟩
    by_cases ha : a = .non
    · subst ha
      rw [encA_non qa]
      exact out_bl k h
    · rw [decide_eq_false (encA_ne_non qa ha)]
      cases a <;> first | exact absurd rfl ha | exact out_bl k h
  · cases a with
    | bl p =>
      cases b with
      | bl q =>
        rw [encA_bl qa, encA_bl qb]
        exact ⟨_, op_isBl, p, q, rfl, rfl, out_bl k h⟩
      | non => exact absurd rfl hb
      | _ => exact h.elim
    | _ => cases b <;> first | exact absurd rfl hb | exact h.elim
theorem isnt_ok : OpR X (compareOp .IsNot) (rOp X.K M W (isNonD true)) := op_of fun a b x y z σ' Q k qa qb h => by
  by_cases hb : b = .non
  · subst hb
    rw [encA_non qb]
    refine ⟨_, op_notN, rfl, ?_⟩
    by_cases ha : a = .non
    · subst ha
      rw [encA_non qa]
      exact out_bl k h
    · rw [decide_eq_false (encA_ne_non qa ha)]
      cases a <;> first | exact absurd rfl ha | exact out_bl k h
  · cases a with
    | bl p =>
      cases b with
      | bl q =>
        rw [encA_bl qa, encA_bl qb]
        exact ⟨_, op_notBl, p, q, rfl, rfl, out_bl k h⟩
      | non => exact absurd rfl hb
      | _ => exact h.elim
    | _ => cases b <;> first | exact absurd rfl hb | exact h.elim
def ordD (f : Int → Int → Bool) (a b : D) (S : Sto) : Res D := match a, b with
  | .int i, .int j => .ok (.bl (f i j)) S
  | _, _ => .bad
def ltD : D → D → Sto → Res D := ordD fun i j => decide (i < j)
def leD : D → D → Sto → Res D := ordD fun i j => decide (i ≤ j)
def gtD : D → D → Sto → Res D := ordD fun i j => decide (j < i)
def geD : D → D → Sto → Res D := ordD fun i j => decide (j ≤ i)
theorem ord_ok {op : CmpOp} {g : Int → Int → Bool} (ho : OpR X (compareOp op) (rI0 fun i j => .bl (g i j))) : OpR X (compareOp op) (rOp X.K M W (ordD g)) := op_of fun a b x y z σ' Q k qa qb h => by
  cases a with
  | int i =>
    cases b with
    | int j =>
      rw [encA_int qa, encA_int qb]
      exact ⟨_, ho, i, j, rfl, rfl, out_bl k h⟩
    | _ => exact h.elim
  | _ => exact h.elim
theorem lt_ok : OpR X (compareOp .Lt) (rOp X.K M W ltD) := ord_ok op_lt
theorem le_ok : OpR X (compareOp .LtE) (rOp X.K M W leD) := ord_ok op_le
theorem gt_ok : OpR X (compareOp .Gt) (rOp X.K M W gtD) := ord_ok op_gt
theorem ge_ok : OpR X (compareOp .GtE) (rOp X.K M W geD) := ord_ok op_ge
end
end Sm
/-! Sm7: chains, -x, built-ins by values, isinstance, repr, displays, subscripts, stores. -/
namespace Sm
open PySem PySem.Spec PyProof.Rows L2
section
variable {X : Cx} {M : Lm} {W : WX} {K : PySem.W.Frag} {z : Sg}
/-! ### a <= b <= c -/
def chainF (o p : D → D → Sto → Res D) (f g h : Env → Sto → Res D) : Env → Sto → Res D := fun env S => (f env S).bind fun x S1 => (g env S1).bind fun y S2 => (o x y S2).bind fun c S3 => match c with
  | .bl true => (h env S3).bind fun w S4 => p y w S4
  | .bl false => .ok (.bl false) S3
  | _ => .bad
theorem tchain_of {o p : D → D → Sto → Res D} {f g h : Env → Sto → Res D} {σ : St} {H : Hp} {Q : VK} (hh : tE K M W (chainF o p f g h) σ H Q) : tChain (rOp K M W o) (rOp K M W p) (tE K M W f) (tE K M W g) (tE K M W h) σ H Q := by
  obtain ⟨env, z, rfl, k, v, hh⟩ := hh
  refine ⟨env, z, rfl, k, v, (Out.bind hh).imp fun b H1 q => ?_⟩
  obtain ⟨a1, z1, rfl, _, x1, k1, q1, h1⟩ := q
  refine ⟨env, z1, rfl, k1, v.ext x1, (Out.bind h1).imp fun b2 H2 q2 => ?_⟩
  obtain ⟨a2, z2, rfl, _, x2, k2, q2, h2⟩ := q2
  refine ⟨z2, a1, a2, σ, rfl, k2, q1.ext x2, q2, (Out.bind h2).imp fun b3 H3 q3 => ?_⟩
  obtain ⟨a3, z3, rfl, _, x3, k3, q3, h3⟩ := q3
  cases a3 with
  | bl c =>
    refine ⟨c, encA_bl q3, ?_⟩
    cases c with
    | true =>
      rw [if_pos rfl]
      refine ⟨env, z3, rfl, k3, v.ext (x1.trans (x2.trans x3)), (Out.bind h3).imp fun b4 H4 q4 => ?_⟩
      obtain ⟨a4, z4, rfl, _, x4, k4, q4, h4⟩ := q4
      exact ⟨z4, a2, a4, σ, rfl, k4, q2.ext (x3.trans x4), q4, h4⟩
    | false =>
      rw [if_neg Bool.false_ne_true]
      exact h3 z3 _ rfl (Ext.refl z3) k3 (.of (.bl false))
  | _ => exact h3.elim
theorem s_chain {op op' : CmpOp} {o p : D → D → Sto → Res D} {a b c : Expr} {pos : Pos} {f g h : Env → Sto → Res D} (ho : OpR X (compareOp op) (rOp X.K M W o)) (hp : OpR X (compareOp op') (rOp X.K M W p)) (ha : SE X M W a f) (hb : SE X M W b g) (hc : SE X M W c h)
    (hm : lastMarks [op, op'] [b, c] = false := by with_unfolding_all rfl) : SE X M W (.Compare a [op, op'] [b, c] pos) (chainF o p f g h) :=
  pe_imp (pe_chain ho hp ha hb hc hm) fun _ _ _ h => tchain_of h
theorem st_chain {op op' : CmpOp} {o p : D → D → Sto → Res D} {a b c : Expr} {pos : Pos} {f g h : Env → Sto → Res D} (ho : OpR X (compareOp op) (rOp X.K M W o)) (hp : OpR X (compareOp op') (rOp X.K M W p)) (ha : SE X M W a f) (hb : SE X M W b g) (hc : SE X M W c h)
    (hm : lastMarks [op, op'] [b, c] = false := by with_unfolding_all rfl) : ST X M W (.Compare a [op, op'] [b, c] pos) (isB (chainF o p f g h)) := by
  refine pt_imp (pt_chain ho hp ha hb hc hm) fun σ H Q hh => ?_
  obtain ⟨env, z, rfl, k, v, hh⟩ := hh
  refine tchain_of ⟨env, z, rfl, k, v, (Out.bind hh).imp fun b H1 q => ?_⟩
  obtain ⟨a, z1, rfl, _, x, k1, q, h1⟩ := q
  cases a with
  | bl c => exact ⟨c, encA_bl q, h1 z1 c rfl (Ext.refl z1) k1 rfl⟩
  | _ => exact h1.elim
/-! ### -x -/
def negF (f : Env → Sto → Res D) : Env → Sto → Res D := fun env S => (f env S).bind fun d S1 => match d with
  | .int i => .ok (.int (-i)) S1
  | _ => .bad
theorem s_neg {a : Expr} {pos : Pos} {f : Env → Sto → Res D} (ha : SE X M W a f) : SE X M W (.UnaryOp .USub a pos) (negF f) := by
  refine pe_imp (pe_un un_neg ha) fun σ H Q h => ?_
  obtain ⟨env, z, rfl, k, v, h⟩ := h
  refine ⟨env, z, rfl, k, v, (Out.bind h).imp fun b H1 q => ?_⟩
  obtain ⟨a, z1, rfl, _, x, k1, q, h1⟩ := q
  cases a with
  | int c => exact ⟨c, encA_int q, out_int k1 h1⟩
  | _ => exact h1.elim
/-! ### built-ins by values -/
def rCl (K : PySem.W.Frag) (M : Lm) (W : WX) (m : Fn) : List V → Hp → VK → Prop := fun xs H Q => ∃ z as σ, z.H = H ∧ SOk K M z ∧ EncAs K M z as xs ∧ Out K M (EncA K M) W σ z Q (m as z.S)
theorem tcb_of {m : Fn} {g : Env → Sto → Res (List D)} {σ : St} {H : Hp} {Q : VK} (h : tE K M W (callF m g) σ H Q) : tCB (rCl K M W m) (tAs K M W g) σ H Q := by
  obtain ⟨env, z, rfl, k, v, h⟩ := h
  refine ⟨env, z, rfl, k, v, (Out.bind h).imp fun b H1 q => ?_⟩
  obtain ⟨a, z1, rfl, _, x, k1, q, h1⟩ := q
  exact ⟨z1, a, σ, rfl, k1, q, h1⟩
theorem s_callB {id : String} {m : Fn} {x : Str} {p pos : Pos} {e : Expr} {es : List Expr} {g : Env → Sto → Res (List D)} (hc : CallR X (.builtin id) (rCl X.K M W m)) (hm : X.mg x = none) (ha : SA X M W (e :: es) g) (hg : Gl X x := by rfl) (hv : bootBuiltins x = some (.builtin id) := by decide +kernel)
    (hn : x ≠ "__name__" := by decide) (hdb : (x == ("__debug__" : Str)) = false := by decide) (he : starEach (e :: es) X.env = (false, eval e X.env) :: starEach es X.env := by rfl) (hpl : (backTo pos (starEach es X.env)).any (·.1) = false := by rfl) :
    SE X M W (.Call (.Name x p) (e :: es) [] pos) (callF m g) := pe_imp (pe_callB hc hg hm hv ha hn hdb he hpl) fun _ _ _ h => tcb_of h
theorem s_callTy {T : String} {m : Fn} {x : Str} {p pos : Pos} {e : Expr} {es : List Expr} {g : Env → Sto → Res (List D)} (hc : CallR X (.type T) (rCl X.K M W m)) (hm : X.mg x = none) (ha : SA X M W (e :: es) g) (hg : Gl X x := by rfl) (hv : bootBuiltins x = some (.type T) := by decide +kernel)
    (hn : x ≠ "__name__" := by decide) (hdb : (x == ("__debug__" : Str)) = false := by decide) (he : starEach (e :: es) X.env = (false, eval e X.env) :: starEach es X.env := by rfl) (hpl : (backTo pos (starEach es X.env)).any (·.1) = false := by rfl) :
    SE X M W (.Call (.Name x p) (e :: es) [] pos) (callF m g) := pe_imp (pe_callTy hc hg hm hv ha hn hdb he hpl) fun _ _ _ h => tcb_of h
theorem call_of {f : Value} {m : Fn} (h : ∀ (as : List D) (xs : List V) (z : Sg) (σ' : St) (Q : VK), SOk X.K M z → EncAs X.K M z as xs → Out X.K M (EncA X.K M) W σ' z Q (m as z.S) → ∃ r, CallR X f r ∧ r xs z.H Q) : CallR X f (rCl X.K M W m) := by
  intro pins s σ H xs us Q I rx hh
  obtain ⟨z, as, σ', rfl, k, qa, h1⟩ := hh
  obtain ⟨r, h2, h3⟩ := h as xs z σ' Q k qa h1
  exact h2 pins s σ z.H xs us Q I rx h3
theorem encAs0 {z : Sg} {vs : List V} (h : EncAs K M z [] vs) : vs = [] := by
  cases h
  rfl
def lenM : Fn := fun as S => match as with
  | [d] => match see d S with
    | .str s => if s.length ≤ LINE then .ok (.int s.length) S else .bad
    | .tup l => .ok (.int l.length) S
    | .lst l => if (getL d S).isSome then .ok (.int l.length) S else .bad
    | _ => .bad
  | _ => .bad
theorem see_lst {d : D} {S : Sto} {l : List D} (h : getL d S = some l) : see d S = .lst l := by
  cases d with
  | lst l' =>
    cases h
    rfl
  | ref n =>
    unfold getL at h
    unfold see
    dsimp only at h ⊢
    split at h
    · rename_i e
      cases h
      rw [e]
    · cases h
  | _ => cases h
theorem see_nref {d : D} {S : Sto} (h : ∀ n, d ≠ .ref n) : see d S = d := by
  cases d <;> first | rfl | exact absurd rfl (h _)
theorem see_str {d : D} {S : Sto} {s : List Nat} (h : see d S = .str s) : d = .str s := by
  cases d with
  | ref n =>
    unfold see at h
    dsimp only at h
    split at h <;> cases h
  | _ => exact h
theorem see_tup {d : D} {S : Sto} {s : List D} (h : see d S = .tup s) : d = .tup s := by
  cases d with
  | ref n =>
    unfold see at h
    dsimp only at h
    split at h <;> cases h
  | _ => exact h
theorem len_ok : CallR X (.builtin "len") (rCl X.K M W lenM) := call_of fun as xs z σ' Q k qa h => by
  match as, qa, h with
  | [], _, h => exact h.elim
  | [d], qa, h =>
    obtain ⟨v, rfl, q⟩ := encAs1 qa
    unfold lenM at h
    dsimp only at h
    cases e : see d z.S with
    | str s =>
      rw [e] at h
      have := see_str e
      subst this
      rw [encA_str q]
      dsimp only at h
      by_cases c : s.length ≤ LINE
      · rw [if_pos c] at h
        refine ⟨_, call_len_str, _, rfl, ?_, ?_⟩
        · show s.toArray.size ≤ _
          rw [List.size_toArray, ← line_eq]
          exact c
        · have := out_int k h
          show Q (.int ((s.toArray.size : Nat) : Int)) z.H
          rw [List.size_toArray]
          exact this
      · rw [if_neg c] at h
        exact h.elim
    | tup l =>
      rw [e] at h
      have := see_tup e
      subst this
      obtain ⟨a, vs, rfl, hs, hl⟩ := encA_tup q
      refine ⟨_, call_len_seq, a, vs, rfl, .inr hs, ?_⟩
      rw [← hl.length]
      exact out_int k h
    | lst l =>
      rw [e] at h
      dsimp only at h
      cases g : getL d z.S with
      | none =>
        rw [g] at h
        exact h.elim
      | some l' =>
        rw [g] at h
        have e2 := see_lst g
        rw [e] at e2
        cases e2
        obtain ⟨a, vs, rfl, hs, hl⟩ := getL_ok k q g
        refine ⟨_, call_len_seq, a, vs, rfl, .inl hs, ?_⟩
        rw [← hl.length]
        exact out_int k h
    | _ =>
      rw [e] at h
      exact h.elim
  | _ :: _ :: _, _, h => exact h.elim
def absM : Fn := fun as S => match as with
  | [.int i] => .ok (.int (if i < 0 then -i else i)) S
  | _ => .bad
theorem abs_ok : CallR X (.builtin "abs") (rCl X.K M W absM) := call_of fun as xs z σ' Q k qa h => by
  unfold absM at h
  split at h
  · obtain ⟨v, rfl, q⟩ := encAs1 qa
    rw [encA_int q]
    exact ⟨_, call_abs, _, rfl, out_int k h⟩
  · exact h.elim
def max2M : Fn := fun as S => match as with
  | [.int i, .int j] => .ok (.int (if j > i then j else i)) S
  | _ => .bad
theorem max2_ok (hc : X.calm = true) : CallR X (.builtin "max") (rCl X.K M W max2M) := call_of fun as xs z σ' Q k qa h => by
  unfold max2M at h
  split at h
  · obtain ⟨v, w, rfl, q, q2⟩ := encAs2 qa
    rw [encA_int q, encA_int q2]
    exact ⟨_, call_max2 hc, _, _, rfl, out_int k h⟩
  · exact h.elim
def min2M : Fn := fun as S => match as with
  | [.int i, .int j] => .ok (.int (if j < i then j else i)) S
  | _ => .bad
theorem min2_ok (hc : X.calm = true) : CallR X (.builtin "min") (rCl X.K M W min2M) := call_of fun as xs z σ' Q k qa h => by
  unfold min2M at h
  split at h
  · obtain ⟨v, w, rfl, q, q2⟩ := encAs2 qa
    rw [encA_int q, encA_int q2]
    exact ⟨_, call_min2 hc, _, _, rfl, out_int k h⟩
  · exact h.elim
def intM : Fn := fun as S => match as with
  | [.int i] => .ok (.int i) S
  | [.bl b] => .ok (.int (if b then 1 else 0)) S
  | [.str s] => match PySem.intText? ⟨s.toArray⟩ with
    | some n => if s.length ≤ 640 then .ok (.int n) S else .bad
    | none => .bad
  | _ => .bad
theorem int_ok : CallR X (.type "int") (rCl X.K M W intM) := call_of fun as xs z σ' Q k qa h => by
  unfold intM at h
  split at h
  · obtain ⟨v, rfl, q⟩ := encAs1 qa
    rw [encA_int q]
    exact ⟨_, call_int1, .inl ⟨_, rfl, out_int k h⟩⟩
  · obtain ⟨v, rfl, q⟩ := encAs1 qa
    rw [encA_bl q]
    exact ⟨_, call_int1, .inr ⟨_, rfl, out_int k h⟩⟩
  · rename_i s
    obtain ⟨v, rfl, q⟩ := encAs1 qa
    rw [encA_str q]
    cases e : PySem.intText? ⟨s.toArray⟩ with
    | none =>
      rw [e] at h
      exact h.elim
    | some n =>
      rw [e] at h
      dsimp only at h
      by_cases c : s.length ≤ 640
      · rw [if_pos c] at h
        refine ⟨_, call_int_str, _, n, rfl, e, ?_, out_int k h⟩
        show s.toArray.size ≤ 640
        rw [List.size_toArray]
        exact c
      · rw [if_neg c] at h
        exact h.elim
  · exact h.elim
/-- the signs of a whole number -/
def strI (i : Int) : List Nat := (Str.ofString (toString i)).cps.toList
def strM : Fn := fun as S => match as with
  | [.int i] => if i.natAbs.log2 < 1920 then .ok (.str (strI i)) S else .bad
  | _ => .bad
theorem str_ok : CallR X (.type "str") (rCl X.K M W strM) := call_of fun as xs z σ' Q k qa h => by
  unfold strM at h
  split at h
  · rename_i i
    obtain ⟨v, rfl, q⟩ := encAs1 qa
    rw [encA_int q]
    by_cases c : i.natAbs.log2 < 1920
    · rw [if_pos c] at h
      refine ⟨_, call_str_int, i, rfl, c, ?_⟩
      have := out_str k h
      unfold strI at this
      simpa using this
    · rw [if_neg c] at h
      exact h.elim
  · exact h.elim
def listM : Fn := fun as S => match as with
  | [.tup l] => .ok (.lst l) S
  | [d] => match getL d S with
    | some l => .ok (.lst l) S
    | none => .bad
  | _ => .bad
theorem list_ok : CallR X (.type "list") (rCl X.K M W listM) := call_of fun as xs z σ' Q k qa h => by
  unfold listM at h
  split at h
  · obtain ⟨v, rfl, q⟩ := encAs1 qa
    obtain ⟨a, vs, rfl, hs, hl⟩ := encA_tup q
    exact ⟨_, call_list_of, a, vs, rfl, .inr hs, out_lst k hl h⟩
  · obtain ⟨v, rfl, q⟩ := encAs1 qa
    rename_i d _
    cases g : getL d z.S with
    | none =>
      rw [g] at h
      exact h.elim
    | some l =>
      rw [g] at h
      obtain ⟨a, vs, rfl, hs, hl⟩ := getL_ok k q g
      exact ⟨_, call_list_of, a, vs, rfl, .inl hs, out_lst k hl h⟩
  · exact h.elim
def tupleM : Fn := fun as S => match as with
  | [.tup l] => .ok (.tup l) S
  | [d] => match getL d S with
    | some l => .ok (.tup l) S
    | none => .bad
  | _ => .bad
theorem tuple_ok : CallR X (.type "tuple") (rCl X.K M W tupleM) := call_of fun as xs z σ' Q k qa h => by
  unfold tupleM at h
  split at h
  · obtain ⟨v, rfl, q⟩ := encAs1 qa
    obtain ⟨a, vs, rfl, hs, hl⟩ := encA_tup q
    exact ⟨_, call_tuple_of, a, vs, rfl, .inr ⟨hs, out_same k q h⟩⟩
  · obtain ⟨v, rfl, q⟩ := encAs1 qa
    rename_i d _
    cases g : getL d z.S with
    | none =>
      rw [g] at h
      exact h.elim
    | some l =>
      rw [g] at h
      obtain ⟨a, vs, rfl, hs, hl⟩ := getL_ok k q g
      exact ⟨_, call_tuple_of, a, vs, rfl, .inl ⟨hs, out_tup k hl h⟩⟩
  · exact h.elim
def allBl : List D → Option (List Bool)
  | [] => some []
  | .bl b :: l => (allBl l).map (b :: ·)
  | _ => none
theorem allBl_enc {H : Hp} {ow : Addr → Prop} : ∀ {l : List D} {vs : List V} {bs : List Bool}, allBl l = some bs → EncL K M H ow l vs → vs = bs.map V.bl
  | [], _, bs, h, e => by
    cases e
    cases h
    rfl
  | d :: l, _, bs, h, e => by
    cases e with
    | cons a b =>
      cases d with
      | bl c =>
        unfold allBl at h
        cases r : allBl l with
        | none =>
          rw [r] at h
          cases h
        | some bs' =>
          rw [r] at h
          cases h
          cases a
          rw [allBl_enc r b]
          rfl
      | _ => cases h
def boolsM (f : List Bool → Bool) : Fn := fun as S => match as with
  | [d] => match getL d S with
    | some l => match allBl l with
      | some bs => .ok (.bl (f bs)) S
      | none => .bad
    | none => .bad
  | _ => .bad
def allM : Fn := boolsM fun bs => bs.all id
def anyM : Fn := boolsM fun bs => bs.any id
theorem bools_ok {id : String} {f : List Bool → Bool} (hr : CallR X (.builtin id) (fun vs H Q => ∃ (a : Addr) (bs : List Bool), vs = [V.ref a] ∧ SqL X.K H a (bs.map V.bl) ∧ Q (.bl (f bs)) H)) : CallR X (.builtin id) (rCl X.K M W (boolsM f)) := call_of fun as xs z σ' Q k qa h => by
  unfold boolsM at h
  split at h
  · obtain ⟨v, rfl, q⟩ := encAs1 qa
    rename_i d
    cases g : getL d z.S with
    | none =>
      rw [g] at h
      exact h.elim
    | some l =>
      rw [g] at h
      dsimp only at h
      cases r : allBl l with
      | none =>
        rw [r] at h
        exact h.elim
      | some bs =>
        rw [r] at h
        obtain ⟨a, vs, rfl, hs, hl⟩ := getL_ok k q g
        rw [allBl_enc r hl] at hs
        exact ⟨_, hr, a, bs, rfl, hs, out_bl k h⟩
  · exact h.elim
theorem all_ok (hc : X.calm = true) : CallR X (.builtin "all") (rCl X.K M W allM) := bools_ok (cr_all hc)
theorem any_ok (hc : X.calm = true) : CallR X (.builtin "any") (rCl X.K M W anyM) := bools_ok (cr_any hc)
def allIn : List D → Option (List Int)
  | [] => some []
  | .int b :: l => (allIn l).map (b :: ·)
  | _ => none
theorem allIn_enc {H : Hp} {ow : Addr → Prop} : ∀ {l : List D} {vs : List V} {bs : List Int}, allIn l = some bs → EncL K M H ow l vs → vs = bs.map V.int
  | [], _, bs, h, e => by
    cases e
    cases h
    rfl
  | d :: l, _, bs, h, e => by
    cases e with
    | cons a b =>
      cases d with
      | int c =>
        unfold allIn at h
        cases r : allIn l with
        | none =>
          rw [r] at h
          cases h
        | some bs' =>
          rw [r] at h
          cases h
          cases a
          rw [allIn_enc r b]
          rfl
      | _ => cases h
def sumM : Fn := fun as S => match as with
  | [d] => match getL d S with
    | some l => match allIn l with
      | some bs => .ok (.int bs.sum) S
      | none => .bad
    | none => .bad
  | _ => .bad
theorem sum_ok (hc : X.calm = true) : CallR X (.builtin "sum") (rCl X.K M W sumM) := call_of fun as xs z σ' Q k qa h => by
  unfold sumM at h
  split at h
  · obtain ⟨v, rfl, q⟩ := encAs1 qa
    rename_i d
    cases g : getL d z.S with
    | none =>
      rw [g] at h
      exact h.elim
    | some l =>
      rw [g] at h
      dsimp only at h
      cases r : allIn l with
      | none =>
        rw [r] at h
        exact h.elim
      | some bs =>
        rw [r] at h
        obtain ⟨a, vs, rfl, hs, hl⟩ := getL_ok k q g
        rw [allIn_enc r hl] at hs
        exact ⟨_, cr_sum hc, a, bs, rfl, hs, out_int k h⟩
  · exact h.elim
/-! ### isinstance -/
def tyOf (d : D) (S : Sto) : Option (Option Ty) := match d with
  | .non => some none
  | .bl _ => some (some .bool)
  | .int _ => some (some .int)
  | .str _ => some (some .str)
  | .tup _ => some (some .tuple)
  | .lst _ => some (some .list)
  | .dic _ => some (some .dict)
  | .ref n => match S[n]? with
    | some (.lst _ _) => some (some .list)
    | some (.dic _ _) => some (some .dict)
    | some (.arr _) => some (some .list)
    | none => none
  | _ => none
def tyIs : Option Ty → Ty → Bool
  | none, _ => false
  | some .bool, .int => true
  | some a, b => decide (a = b)
def tyNm : Option Ty → String
  | none => "NoneType"
  | some t => t.name
theorem tyIs_kit (a : Option Ty) (b : Ty) : PySem.W.kitOne K (.type (tyNm a)) (.type b.name) = some (tyIs a b) := by
  refine kit_ty ?_
  cases a with
  | none => cases b <;> decide +kernel
  | some a => cases a <;> cases b <;> decide +kernel
theorem tyOf_x {d : D} {v : V} {t : Option Ty} (k : SOk K M z) (q : EncA K M z d v) (h : tyOf d z.S = some t) (hd : ∀ l, d ≠ .tup l) : TyX K z.H v (.type (tyNm t)) := by
  cases d with
  | non =>
    cases h
    rw [encA_non q]
    exact .base .non
  | bl b =>
    cases h
    rw [encA_bl q]
    exact .base (.bl b)
  | int b =>
    cases h
    rw [encA_int q]
    exact .base (.int b)
  | str b =>
    cases h
    rw [encA_str q]
    exact .base (.str _)
  | tup l => exact absurd rfl (hd l)
  | lst l =>
    cases h
    cases q with
    | of q =>
      cases q with
      | lst r _ =>
        rcases r with ⟨r | ⟨o, r⟩, _⟩ | ⟨_, _, r, _⟩
        · exact .base (.lst r)
        · exact .base (.frz r)
        · exact .kList r rfl
  | dic l =>
    cases h
    cases q with
    | of q =>
      cases q with
      | dic r _ _ => exact .base (.dK r)
  | ref n =>
    unfold tyOf at h
    dsimp only at h
    cases r : z.S[n]? with
    | none =>
      rw [r] at h
      cases h
    | some o =>
      rw [r] at h
      cases o with
      | lst fz l =>
        cases h
        obtain ⟨a, vs, rfl, _, h1, _⟩ := ref_lst k q r
        exact .base (.lst h1)
      | dic fz l =>
        cases h
        obtain ⟨a, vs, rfl, _, h1, _⟩ := ref_dic k q r
        exact .base (.dK h1)
      | arr l =>
        cases h
        obtain ⟨_, _, a, vs, rfl, _, h1, _⟩ := ref_arr k q r
        exact .base (.lst h1)
  | _ => cases h
theorem tyOf_tup {l : List D} {v : V} (q : EncA K M z (.tup l) v) : TyX K z.H v (.type "tuple") := by
  obtain ⟨a, vs, rfl, hs, _⟩ := encA_tup q
  rcases hs with (r | ⟨o, r⟩) | ⟨o, its, n, h1, h2, _⟩
  · exact .base (.tup r)
  · exact .fTuple r
  · exact .kTuple h1 h2
theorem tyOf_ok {d : D} {v : V} {t : Option Ty} (k : SOk K M z) (q : EncA K M z d v) (h : tyOf d z.S = some t) : TyX K z.H v (.type (tyNm t)) := by
  by_cases c : ∃ l, d = .tup l
  · obtain ⟨l, rfl⟩ := c
    cases h
    exact tyOf_tup q
  · exact tyOf_x k q h fun l e => c ⟨l, e⟩
def rIsiA (K : PySem.W.Frag) : List V → Hp → VK → Prop := fun xs H Q => ∃ (x : V) (tp : Addr) (cs : List V) (t : Value) (us : List Value) (b : Bool), xs = [x, .ref tp] ∧ SqT K H tp cs ∧ Paired ClsV cs us ∧ TyX K H x t ∧ PySem.W.kitAny K t us = some b ∧ Q (.bl b) H
theorem call_isiA : CallR X (.builtin "isinstance") (rIsiA X.K) := by
  intro pins s σ H xs us Q I r h
  obtain ⟨x, tp, cs, t, ws, b, rfl, hT, k, ty, e, q⟩ := h
  obtain ⟨u1, u2, rfl, r1, r2⟩ := vals2 r
  cases (show u2 = Value.ref tp from r2)
  obtain ⟨P, Z, p, hx⟩ := kit_of I r1 ty
  obtain ⟨its, rv, ⟨o, h1, h2, n, h3⟩, _⟩ := I.tuple hT
  have e3 := ClsV.all k rv
  subst e3
  obtain ⟨oc, od, dt, sl⟩ := o
  simp only at h2 h3
  subst h2 h3
  exact PySem.W.kia_tup Z I.kIn p h1 e hx fun tk => ⟨.bl b, H, I.tok tk, rfl, q⟩
def isiM : Fn := fun as S => match as with
  | [d, .ty t] => match tyOf d S with
    | some a => .ok (.bl (tyIs a t)) S
    | none => .bad
  | [d, .tup [.ty t, .ty u]] => match tyOf d S with
    | some a => .ok (.bl (tyIs a t || tyIs a u)) S
    | none => .bad
  | _ => .bad
theorem isi_ok : CallR X (.builtin "isinstance") (rCl X.K M W isiM) := call_of fun as xs z σ' Q k qa h => by
  unfold isiM at h
  split at h
  · rename_i d t
    obtain ⟨v, w, rfl, q, q2⟩ := encAs2 qa
    cases e : tyOf d z.S with
    | none =>
      rw [e] at h
      exact h.elim
    | some a =>
      rw [e] at h
      have ew : w = .ty t.name := by
        cases q2 with
        | of q2 =>
          cases q2
          rfl
      subst ew
      exact ⟨_, call_isi, v, _, _, _, _, rfl, .ty _, tyOf_ok k q e, tyIs_kit a t, out_bl k h⟩
  · rename_i d t u
    obtain ⟨v, w, rfl, q, q2⟩ := encAs2 qa
    cases e : tyOf d z.S with
    | none =>
      rw [e] at h
      exact h.elim
    | some a =>
      rw [e] at h
      obtain ⟨p, vs, rfl, hs, hl⟩ := encA_tup q2
      have evs : vs = [.ty t.name, .ty u.name] := by
        cases hl with
        | cons a b =>
          cases b with
          | cons c d =>
            cases d
            cases a
            cases c
            rfl
      subst evs
      refine ⟨_, call_isiA, v, p, _, _, [.type t.name, .type u.name], tyIs a t || tyIs a u, rfl, hs, .cons (.ty _) (.cons (.ty _) .nil), tyOf_ok k q e, ?_, out_bl k h⟩
      refine kitAny_cons (tyIs_kit a t) (fun e1 => ?_) (fun e1 => by rw [e1]; rfl)
      rw [e1, Bool.false_or]
      refine kitAny_cons (tyIs_kit a u) (fun e2 => ?_) (fun e2 => e2)
      rw [e2]
      exact kitAny_nil
  · exact h.elim
end
end Sm
/-! Sm8: an object in the making; displays, dicts, subscripts, stores. -/
namespace Sm
open PySem PySem.Spec PyProof.Rows L2
section
variable {K : PySem.W.Frag} {M : Lm} {z z' zc zd : Sg} {p : Addr}
/-- from z on, while what is at p is in the making -/
structure GX (p : Addr) (z z' : Sg) : Prop where
  keep : ∀ a o, z.H a = some o → ¬ z.ow a → (∀ ps, o ≠ .tbl ps) → z'.H a = some o
  nw : ∀ a, Solid z.H a → ¬ z.ow a → ¬ z'.ow a
  tup : ∀ a xs, z.H a = some (.tup xs) → z'.H a = some (.tup xs)
  frz : ∀ a o u, z.H a = some (.frz o u) → z'.H a = some (.frz o u)
  xds : ∀ a fs, z.H a = some (.xd fs) → z'.H a = some (.xd fs)
  pre : ∃ T, z'.R = z.R ++ T
  grow : z.S.length ≤ z'.S.length
  gh : z'.G = p :: z.G
  gk : ∀ g ∈ z.G, z'.H g = z.H g
theorem GX.wk (g : GX p z z') : Wk z z' := ⟨⟨g.keep, g.nw, g.tup, g.frz, g.xds⟩, g.pre, g.grow⟩
theorem GX.mv (g : GX p z z') : Mv z.H z'.H z.ow z'.ow := ⟨g.keep, g.nw, g.tup, g.frz, g.xds⟩
theorem GX.step (g : GX p z zc) (x : Ext zc zd) : GX p z zd where
  keep := fun a o h n t => x.keep a o (g.keep a o h n t) (g.nw a ⟨_, h, t⟩ n) t
  nw := fun a h n => x.nw a (let ⟨o, q, t⟩ := h; ⟨o, g.keep a o q n t, t⟩) (g.nw a h n)
  tup := fun a xs h => x.tup a xs (g.tup a xs h)
  frz := fun a o u h => x.frz a o u (g.frz a o u h)
  xds := fun a fs h => x.xds a fs (g.xds a fs h)
  pre := by
    obtain ⟨T, h⟩ := g.pre
    obtain ⟨T', h'⟩ := x.pre
    exact ⟨T ++ T', by rw [h', h, List.append_assoc]⟩
  grow := Nat.le_trans g.grow x.grow
  gh := x.gh.trans g.gh
  gk := fun a h => (x.gk a (by rw [g.gh]; exact List.mem_cons_of_mem _ h)).trans (g.gk a h)
def Sg.mk1 (z : Sg) (p : Addr) (o : HO) : Sg := { z with H := upd z.H p o, G := p :: z.G }
def LD (o : HO) : Prop := (∃ xs, o = .lst xs) ∨ ∃ kvs, o = .dK kvs
theorem ow_mk1 {o : HO} {a : Addr} (h : (z.mk1 p o).ow a) : z.ow a ∨ a = p := by
  rcases h with h | h
  · exact .inl (.inl h)
  · rcases List.mem_cons.mp h with h | h
    · exact .inr h
    · exact .inl (.inr h)
theorem gx_start {o : HO} (np : z.H p = none) (k : SOk K M z) : GX p z (z.mk1 p o) where
  keep := (ext_put (o := o) np k).keep
  nw := fun a h n q => by
    rcases ow_mk1 q with q | q
    · exact n q
    · obtain ⟨w, e, _⟩ := h
      rw [q, np] at e
      cases e
  tup := (ext_put (o := o) np k).tup
  frz := (ext_put (o := o) np k).frz
  xds := (ext_put (o := o) np k).xds
  pre := ⟨[], (List.append_nil _).symm⟩
  grow := Nat.le_refl _
  gh := rfl
  gk := (ext_put (o := o) np k).gk
theorem sok_mk1 {o : HO} (ho : LD o) (np : z.H p = none) (k : SOk K M z) : SOk K M (z.mk1 p o) where
  len := k.len
  nd := k.nd
  gR := fun g hg => by
    rcases List.mem_cons.mp hg with h | h
    · rw [h]
      exact not_R (z := z) np k
    · exact k.gR g h
  gT := fun g hg => by
    rcases List.mem_cons.mp hg with h | h
    · rw [h]
      exact ⟨o, upd_same, ho⟩
    · obtain ⟨xs, h1, h2⟩ := k.gT g h
      exact ⟨xs, ((ext_put (o := o) np k).gk g h).trans h1, h2⟩
  aux := k.aux.mvR (gx_start np k).mv (gx_start (o := o) np k).pre (gx_start (o := o) np k).grow (tabs_put k.aux.tab np)
  obj := fun n u a h1 h2 => by
    have q := k.obj n u a h1 h2
    have m := (gx_start (o := o) np k).mv
    have ne : ∀ w, z.H a = some w → (z.mk1 p o).H a = some w := fun w h => by
      show upd z.H p o a = _
      rw [upd_ne (ne_of_none h np)]
      exact h
    cases u with
    | lst fz l =>
      obtain ⟨vs, h, e⟩ := q
      exact ⟨vs, ne _ h, e.mv m⟩
    | dic fz l =>
      obtain ⟨vs, h, e⟩ := q
      exact ⟨vs, ne _ h, e.mv m⟩
    | arr l =>
      obtain ⟨ha, vs, h, e⟩ := q
      exact ⟨ha, vs, ne _ h, e.mvR (gx_start (o := o) np k).mv (gx_start (o := o) np k).pre (gx_start (o := o) np k).grow⟩
/-- what is in the making is written -/
def Sg.wr1 (z : Sg) (p : Addr) (o : HO) : Sg := { z with H := upd z.H p o }
theorem mv_wr1 {o : HO} (hp : p ∈ z.G) (k : SOk K M z) : Mv z.H (z.wr1 p o).H z.ow (z.wr1 p o).ow := by
  obtain ⟨w, hw, hk⟩ := k.gT p hp
  have nep : ∀ a v, z.H a = some v → LD v ∨ a ≠ p := fun a v h => by
    by_cases e : a = p
    · subst e
      rw [hw] at h
      cases h
      exact .inl hk
    · exact .inr e
  refine ⟨fun a u h n _ => ?_, fun a _ n => n, fun a xs h => ?_, fun a u w h => ?_, fun a fs h => ?_⟩
  · show upd z.H p o a = _
    rw [upd_ne (fun e => n (by rw [e]; exact .inr hp))]
    exact h
  · show upd z.H p o a = _
    rw [upd_ne ((nep a _ h).resolve_left fun r => by rcases r with ⟨_, r⟩ | ⟨_, r⟩ <;> cases r)]
    exact h
  · show upd z.H p o a = _
    rw [upd_ne ((nep a _ h).resolve_left fun r => by rcases r with ⟨_, r⟩ | ⟨_, r⟩ <;> cases r)]
    exact h
  · show upd z.H p o a = _
    rw [upd_ne ((nep a _ h).resolve_left fun r => by rcases r with ⟨_, r⟩ | ⟨_, r⟩ <;> cases r)]
    exact h
theorem sok_wr1 {o : HO} (ho : LD o) (hp : p ∈ z.G) (k : SOk K M z) : SOk K M (z.wr1 p o) where
  len := k.len
  nd := k.nd
  gR := k.gR
  gT := fun g hg => by
    by_cases e : g = p
    · rw [e]
      exact ⟨o, upd_same, ho⟩
    · obtain ⟨xs, h1, h2⟩ := k.gT g hg
      exact ⟨xs, by
        show upd z.H p o g = _
        rw [upd_ne e]
        exact h1, h2⟩
  aux := k.aux.mvR (mv_wr1 hp k) ⟨[], (List.append_nil _).symm⟩ (Nat.le_refl _) (by
    obtain ⟨w, hw, hk⟩ := k.gT p hp
    exact tabs_wr k.aux.tab hw hk)
  obj := fun n u a h1 h2 => by
    have q := k.obj n u a h1 h2
    have m := mv_wr1 (o := o) hp k
    have ne : a ≠ p := fun e => k.gR p hp (by rw [← e]; exact List.mem_of_getElem? h2)
    have kp : ∀ w, z.H a = some w → (z.wr1 p o).H a = some w := fun w h => by
      show upd z.H p o a = _
      rw [upd_ne ne]
      exact h
    cases u with
    | lst fz l =>
      obtain ⟨vs, h, e⟩ := q
      exact ⟨vs, kp _ h, e.mv m⟩
    | dic fz l =>
      obtain ⟨vs, h, e⟩ := q
      exact ⟨vs, kp _ h, e.mv m⟩
    | arr l =>
      obtain ⟨ha, vs, h, e⟩ := q
      exact ⟨ha, vs, kp _ h, e.mvR (z' := z.wr1 p o) m ⟨[], (List.append_nil _).symm⟩ (Nat.le_refl _)⟩
theorem GX.wr {o : HO} (g : GX p z zc) (np : z.H p = none) (k : SOk K M z) (kc : SOk K M zc) : GX p z (zc.wr1 p o) := by
  have hp : p ∈ zc.G := by rw [g.gh]; exact List.mem_cons_self
  have m := mv_wr1 (o := o) hp kc
  refine ⟨fun a u h n t => m.keep a u (g.keep a u h n t) (g.nw a ⟨_, h, t⟩ n) t, fun a h n => m.nw a (let ⟨o, q, t⟩ := h; ⟨o, g.keep a o q n t, t⟩) (g.nw a h n), fun a xs h => m.tup a xs (g.tup a xs h), fun a u w h => m.frz a u w (g.frz a u w h), fun a fs h => m.xds a fs (g.xds a fs h), g.pre, g.grow, g.gh, fun a h => ?_⟩
  · show upd zc.H p o a = _
    obtain ⟨u, h1, _⟩ := k.gT a h
    rw [upd_ne (ne_of_none h1 np)]
    exact g.gk a h
/-- made -/
def Sg.done (z : Sg) (G : List Addr) : Sg := { z with G := G }
theorem ow_done {z z' : Sg} (e : z'.G = p :: z.G) {a : Addr} (h : (z'.done z.G).ow a) : z'.ow a := by
  rcases h with h | h
  · exact .inl h
  · exact .inr (by rw [e]; exact List.mem_cons_of_mem _ h)
theorem GX.ext (g : GX p z zc) : Ext z (zc.done z.G) where
  keep := g.keep
  nw := fun a h n q => g.nw a h n (ow_done g.gh q)
  tup := g.tup
  frz := g.frz
  xds := g.xds
  pre := g.pre
  grow := g.grow
  gh := rfl
  gk := g.gk
theorem GX.less (g : GX p z zc) : Mv zc.H (zc.done z.G).H zc.ow (zc.done z.G).ow := Mv.less fun a h => ow_done g.gh h
theorem GX.sok (g : GX p z zc) (k : SOk K M zc) : SOk K M (zc.done z.G) where
  len := k.len
  nd := k.nd
  gR := fun a h => k.gR a (by rw [g.gh]; exact List.mem_cons_of_mem _ h)
  gT := fun a h => k.gT a (by rw [g.gh]; exact List.mem_cons_of_mem _ h)
  aux := k.aux.mvR g.less ⟨[], (List.append_nil _).symm⟩ (Nat.le_refl _) k.aux.tab
  obj := fun n u a h1 h2 => by
    have q := k.obj n u a h1 h2
    cases u with
    | lst fz l =>
      obtain ⟨vs, h, e⟩ := q
      exact ⟨vs, h, e.mv g.less⟩
    | dic fz l =>
      obtain ⟨vs, h, e⟩ := q
      exact ⟨vs, h, e.mv g.less⟩
    | arr l =>
      obtain ⟨ha, vs, h, e⟩ := q
      exact ⟨ha, vs, h, e.mvR (z' := zc.done z.G) g.less ⟨[], (List.append_nil _).symm⟩ (Nat.le_refl _)⟩
theorem GX.now (g : GX p z zc) (np : z.H p = none) (k : SOk K M z) (kc : SOk K M zc) : ¬ (zc.done z.G).ow p := by
  have hp : p ∈ zc.G := by rw [g.gh]; exact List.mem_cons_self
  rintro (⟨n, o, h1, _, h3⟩ | h)
  · exact kc.gR p hp (List.mem_of_getElem? h3)
  · obtain ⟨o, e, _⟩ := k.gT p h
    rw [np] at e
    cases e
/-- made, and one's own -/
theorem GX.own (g : GX p z zc) (np : z.H p = none) (k : SOk K M z) (kc : SOk K M zc) {b : Ob} (hb : ObE K M zc p b) : Ext z { H := zc.H, S := zc.S ++ [b], R := zc.R ++ [p], G := z.G } ∧ SOk K M { H := zc.H, S := zc.S ++ [b], R := zc.R ++ [p], G := z.G } ∧
    EncA K M { H := zc.H, S := zc.S ++ [b], R := zc.R ++ [p], G := z.G } (.ref zc.S.length) (.ref p) := by
  have hp : p ∈ zc.G := by rw [g.gh]; exact List.mem_cons_self
  have pR := kc.gR p hp
  have owl : ∀ a, ({ H := zc.H, S := zc.S ++ [b], R := zc.R ++ [p], G := z.G } : Sg).ow a → zc.ow a := by
    rintro a (⟨n, o, h1, h2, h3⟩ | h)
    · have h1' : (zc.S ++ [b])[n]? = some o := h1
      have h3' : (zc.R ++ [p])[n]? = some a := h3
      by_cases hn : n < zc.S.length
      · rw [List.getElem?_append_left hn] at h1'
        rw [List.getElem?_append_left (by rw [kc.len]; exact hn)] at h3'
        exact .inl ⟨n, o, h1', h2, h3'⟩
      · rw [List.getElem?_append_right (by rw [kc.len]; omega)] at h3'
        have : a ∈ [p] := List.mem_of_getElem? h3'
        have : a = p := by simpa using this
        rw [this]
        exact .inr hp
    · exact .inr (by rw [g.gh]; exact List.mem_cons_of_mem _ h)
  have less : Mv zc.H zc.H zc.ow ({ H := zc.H, S := zc.S ++ [b], R := zc.R ++ [p], G := z.G } : Sg).ow := Mv.less owl
  refine ⟨⟨g.keep, fun a h n q => g.nw a h n (owl a q), g.tup, g.frz, g.xds, ?_, ?_, rfl, g.gk⟩, ⟨?_, ?_, fun a h q => ?_, fun a h => kc.gT a (by rw [g.gh]; exact List.mem_cons_of_mem _ h), fun n u a h1 h2 => ?_, kc.aux.mvR less ⟨[p], rfl⟩ ?_ kc.aux.tab⟩, .ref ?_ ?_⟩
  · obtain ⟨T, e⟩ := g.pre
    exact ⟨T ++ [p], by
      show zc.R ++ [p] = _
      rw [e, List.append_assoc]⟩
  · show z.S.length ≤ (zc.S ++ [b]).length
    rw [List.length_append]
    exact Nat.le_trans g.grow (Nat.le_add_right _ _)
  · show (zc.R ++ [p]).length = (zc.S ++ [b]).length
    rw [List.length_append, List.length_append, kc.len]
    rfl
  · show (zc.R ++ [p]).Nodup
    rw [List.nodup_append]
    refine ⟨kc.nd, by simp, fun a ha c hc e => ?_⟩
    have : c = p := by simpa using hc
    rw [this] at e
    rw [e] at ha
    exact pR ha
  · have q' : a ∈ zc.R ++ [p] := q
    rcases List.mem_append.mp q' with q' | q'
    · exact kc.gR a (by rw [g.gh]; exact List.mem_cons_of_mem _ h) q'
    · have e : a = p := by simpa using q'
      obtain ⟨o, e2, _⟩ := k.gT a h
      rw [e, np] at e2
      cases e2
  · have h1' : (zc.S ++ [b])[n]? = some u := h1
    have h2' : (zc.R ++ [p])[n]? = some a := h2
    by_cases hn : n < zc.S.length
    · rw [List.getElem?_append_left hn] at h1'
      rw [List.getElem?_append_left (by rw [kc.len]; exact hn)] at h2'
      have q := kc.obj n u a h1' h2'
      cases u with
      | lst fz l =>
        obtain ⟨vs, h, e⟩ := q
        exact ⟨vs, h, e.mv less⟩
      | dic fz l =>
        obtain ⟨vs, h, e⟩ := q
        exact ⟨vs, h, e.mv less⟩
      | arr l =>
        obtain ⟨ha, vs, h, e⟩ := q
        exact ⟨ha, vs, h, e.mvR (z' := { H := zc.H, S := zc.S ++ [b], R := zc.R ++ [p], G := z.G }) less ⟨[p], rfl⟩ (by
          show zc.S.length ≤ (zc.S ++ [b]).length
          rw [List.length_append]
          exact Nat.le_add_right _ _)⟩
    · rw [List.getElem?_append_right (by rw [kc.len]; omega)] at h2'
      have e1 : a ∈ [p] := List.mem_of_getElem? h2'
      have e1 : a = p := by simpa using e1
      rw [List.getElem?_append_right (by omega)] at h1'
      have e2 : u ∈ [b] := List.mem_of_getElem? h1'
      have e2 : u = b := by simpa using e2
      rw [e1, e2]
      cases b with
      | lst fz l =>
        obtain ⟨vs, h, e⟩ := hb
        exact ⟨vs, h, e.mv less⟩
      | dic fz l =>
        obtain ⟨vs, h, e⟩ := hb
        exact ⟨vs, h, e.mv less⟩
      | arr l =>
        obtain ⟨ha, vs, h, e⟩ := hb
        exact ⟨ha, vs, h, e.mvR (z' := { H := zc.H, S := zc.S ++ [Ob.arr l], R := zc.R ++ [p], G := z.G }) less ⟨[p], rfl⟩ (by
          show zc.S.length ≤ (zc.S ++ [Ob.arr l]).length
          rw [List.length_append]
          exact Nat.le_add_right _ _)⟩
  · show zc.S.length ≤ (zc.S ++ [b]).length
    rw [List.length_append]
    exact Nat.le_add_right _ _
  · show (zc.R ++ [p])[zc.S.length]? = some p
    rw [← kc.len, List.getElem?_append_right (Nat.le_refl _), Nat.sub_self]
    rfl
  · show zc.S.length < (zc.S ++ [b]).length
    rw [List.length_append]
    exact Nat.lt_succ_self _
end
/-! ### what is put into a tuple or a list: a tree (one's own object is changed no more) -/
def frz1 (d : D) (S : Sto) : Res D := match d with
  | .fn => .bad
  | .ref n => match S[n]? with
    | some (.lst _ l) => .ok (.lst l) (S.set n (.lst true l))
    | some (.dic _ l) => .ok (.dic l) (S.set n (.dic true l))
    | _ => .bad
  | d => .ok d S
def frzL : List D → Sto → Res (List D)
  | [], S => .ok [] S
  | d :: l, S => (frz1 d S).bind fun e S1 => (frzL l S1).bind fun r S2 => .ok (e :: r) S2
section
variable {K : PySem.W.Frag} {M : Lm} {z z' : Sg}
def Sg.st (z : Sg) (S : Sto) : Sg := { z with S := S }
theorem st_frz {n : Nat} {u b : Ob} (k : SOk K M z) (hn : z.S[n]? = some u) (hb : b.live = false) (hu : ∀ a, ObE K M z a u → ObE K M z a b) : Ext z (z.st (z.S.set n b)) ∧ SOk K M (z.st (z.S.set n b)) := by
  have owl : ∀ a, (z.st (z.S.set n b)).ow a → z.ow a := by
    rintro a (⟨m, o, h1, h2, h3⟩ | h)
    · have h1' : (z.S.set n b)[m]? = some o := h1
      by_cases e : m = n
      · subst e
        rw [List.getElem?_set_self (List.getElem?_eq_some_iff.mp hn).1] at h1'
        cases h1'
        rw [hb] at h2
        cases h2
      · rw [List.getElem?_set_ne (Ne.symm e)] at h1'
        exact .inl ⟨m, o, h1', h2, h3⟩
    · exact .inr h
  have less : Mv z.H z.H z.ow (z.st (z.S.set n b)).ow := Mv.less owl
  refine ⟨⟨fun _ _ h _ _ => h, fun a _ q r => q (owl a r), fun _ _ h => h, fun _ _ _ h => h, fun _ _ h => h, ⟨[], (List.append_nil _).symm⟩, ?_, rfl, fun _ _ => rfl⟩, ⟨?_, k.nd, k.gR, k.gT, fun m o a h1 h2 => ?_, k.aux.mvR less ⟨[], (List.append_nil _).symm⟩ ?_ k.aux.tab⟩⟩
  · show z.S.length ≤ (z.S.set n b).length
    rw [List.length_set]
    exact Nat.le_refl _
  · show z.R.length = (z.S.set n b).length
    rw [List.length_set]
    exact k.len
  · have h1' : (z.S.set n b)[m]? = some o := h1
    have tr : ∀ o, ObE K M z a o → ObE K M (z.st (z.S.set n b)) a o := fun o q => by
      cases o with
      | lst fz l =>
        obtain ⟨vs, h, e⟩ := q
        exact ⟨vs, h, e.mv less⟩
      | dic fz l =>
        obtain ⟨vs, h, e⟩ := q
        exact ⟨vs, h, e.mv less⟩
      | arr l =>
        obtain ⟨ha, vs, h, e⟩ := q
        exact ⟨ha, vs, h, e.mvR (z' := z.st (z.S.set n b)) less ⟨[], (List.append_nil _).symm⟩ (by
          show z.S.length ≤ (z.S.set n b).length
          rw [List.length_set]
          exact Nat.le_refl _)⟩
    by_cases e : m = n
    · subst e
      rw [List.getElem?_set_self (List.getElem?_eq_some_iff.mp hn).1] at h1'
      cases h1'
      exact tr _ (hu a (k.obj m u a hn h2))
    · rw [List.getElem?_set_ne (Ne.symm e)] at h1'
      exact tr _ (k.obj m o a h1' h2)
  · show z.S.length ≤ (z.S.set n b).length
    rw [List.length_set]
    exact Nat.le_refl _
theorem not_dead {n : Nat} {a : Addr} {o : Ob} (k : SOk K M z) (h1 : z.S[n]? = some o) (h2 : z.R[n]? = some a) (hl : o.live = false) : ¬ z.ow a := by
  rintro (⟨m, u, q1, q2, q3⟩ | g)
  · have := nodup_at k.nd q3 h2
    subst this
    rw [h1] at q1
    cases q1
    rw [hl] at q2
    cases q2
  · exact k.gR a g (List.mem_of_getElem? h2)
theorem frz1_ok {d d' : D} {S' : Sto} {v : V} (k : SOk K M z) (q : EncA K M z d v) (e : frz1 d z.S = .ok d' S') : ∃ z', z'.H = z.H ∧ z'.S = S' ∧ Ext z z' ∧ SOk K M z' ∧ Enc K M z'.H z'.ow d' v := by
  by_cases hd : ∃ n, d = .ref n
  · obtain ⟨n, rfl⟩ := hd
    unfold frz1 at e
    dsimp only at e
    cases r : z.S[n]? with
    | none =>
      rw [r] at e
      cases e
    | some o =>
      rw [r] at e
      cases o with
      | lst fz l =>
        cases e
        obtain ⟨x, k'⟩ := st_frz (b := .lst true l) k r rfl (fun a h => h)
        obtain ⟨a, vs, rfl, ha, hv, hl⟩ := ref_lst k q r
        refine ⟨z.st (z.S.set n (.lst true l)), rfl, rfl, x, k', .lst (.inl ⟨.inl hv, not_dead (n := n) (o := .lst true l) k' ?_ ha rfl⟩) (hl.mv x.mv)⟩
        exact List.getElem?_set_self (List.getElem?_eq_some_iff.mp r).1
      | dic fz l =>
        cases e
        obtain ⟨x, k'⟩ := st_frz (b := .dic true l) k r rfl (fun a h => h)
        obtain ⟨a, vs, rfl, ha, hv, hl⟩ := ref_dic k q r
        refine ⟨z.st (z.S.set n (.dic true l)), rfl, rfl, x, k', .dic hv (not_dead (n := n) (o := .dic true l) k' ?_ ha rfl) (hl.mv x.mv)⟩
        exact List.getElem?_set_self (List.getElem?_eq_some_iff.mp r).1
      | arr l => cases e
  · have hn : ∀ n, d ≠ .ref n := fun n e => hd ⟨n, e⟩
    have nf : d ≠ .fn := fun h => by
      subst h
      cases e
    have e2 : frz1 d z.S = .ok d z.S := by cases d <;> first | rfl | exact absurd rfl (hn _) | exact absurd rfl nf
    rw [e2] at e
    cases e
    exact ⟨z, rfl, rfl, Ext.refl z, k, q.enc hn nf⟩
theorem frzL_ok : ∀ {l l' : List D} {S' : Sto} {vs : List V} {z : Sg}, SOk K M z → EncAs K M z l vs → frzL l z.S = .ok l' S' → ∃ z', z'.H = z.H ∧ z'.S = S' ∧ Ext z z' ∧ SOk K M z' ∧ EncL K M z'.H z'.ow l' vs
  | [], _, _, _, z, k, .nil, e => by
    cases e
    exact ⟨z, rfl, rfl, Ext.refl z, k, .nil⟩
  | d :: l, l', S', _, z, k, .cons a b, e => by
    unfold frzL at e
    cases r : frz1 d z.S with
    | ok d1 S1 =>
      rw [r] at e
      obtain ⟨z1, h1, h2, x1, k1, q1⟩ := frz1_ok k a r
      subst h2
      have e' : (frzL l z1.S).bind (fun r S2 => Res.ok (d1 :: r) S2) = .ok l' S' := e
      cases r2 : frzL l z1.S with
      | ok l2 S2 =>
        rw [r2] at e'
        cases e'
        obtain ⟨z2, h3, h4, x2, k2, q2⟩ := frzL_ok k1 (b.ext x1) r2
        exact ⟨z2, h3.trans h1, h4, x1.trans x2, k2, .cons (q1.mv x2.mv) q2⟩
      | ex _ _ =>
        rw [r2] at e'
        cases e'
      | bad =>
        rw [r2] at e'
        cases e'
    | ex _ _ =>
      rw [r] at e
      cases e
    | bad =>
      rw [r] at e
      cases e
end
section
variable {X : Cx} {M : Lm} {W : WX} {K : PySem.W.Frag} {z : Sg}
theorem frz1_nex {d : D} {S : Sto} {e : D} {S' : Sto} : frz1 d S ≠ .ex e S' := fun h => by
  unfold frz1 at h
  split at h
  · cases h
  · split at h <;> cases h
  · cases h
theorem frzL_nex : ∀ {l : List D} {S : Sto} {e : D} {S' : Sto}, frzL l S ≠ .ex e S'
  | [], _, _, _, h => by cases h
  | d :: l, S, e, S', h => by
    unfold frzL at h
    cases r : frz1 d S with
    | ok d1 S1 =>
      rw [r] at h
      have h' : (frzL l S1).bind (fun r S2 => Res.ok (d1 :: r) S2) = .ex e S' := h
      cases r2 : frzL l S1 with
      | ok l2 S2 =>
        rw [r2] at h'
        cases h'
      | ex _ _ => exact frzL_nex r2
      | bad =>
        rw [r2] at h'
        cases h'
    | ex _ _ => exact frz1_nex r
    | bad =>
      rw [r] at h
      cases h
/-- (a, b, ..) -/
def tupF (g : Env → Sto → Res (List D)) : Env → Sto → Res D := fun env S => (g env S).bind fun l S1 => (frzL l S1).bind fun l S2 => if l.length ≤ LINE then .ok (.tup l) S2 else .bad
/-- [a, b, ..] that nobody changes -/
def lstF (g : Env → Sto → Res (List D)) : Env → Sto → Res D := fun env S => (g env S).bind fun l S1 => (frzL l S1).bind fun l S2 => if l.length ≤ LINE then .ok (.lst l) S2 else .bad
/-- [a, b, ..] of one's own -/
def lstO (g : Env → Sto → Res (List D)) : Env → Sto → Res D := fun env S => (g env S).bind fun l S1 => (frzL l S1).bind fun l S2 => if l.length ≤ LINE then .ok (.ref S2.length) (S2 ++ [.lst false l]) else .bad
theorem disp_of {g : Env → Sto → Res (List D)} {mk : List D → Sto → Res D} {σ : St} {H : Hp} {Q : VK} {T : List V → Hp → Prop} (h : tE K M W (fun env S => (g env S).bind fun l S1 => (frzL l S1).bind fun l S2 => if l.length ≤ LINE then mk l S2 else .bad) σ H Q)
    (hm : ∀ z l vs, SOk K M z → EncL K M z.H z.ow l vs → l.length ≤ LINE → Out K M (EncA K M) W σ z Q (mk l z.S) → T vs z.H) : tAs K M W g σ H T := by
  obtain ⟨env, z, rfl, k, v, h⟩ := h
  refine ⟨env, z, rfl, k, v, (Out.bind h).imp fun vs H1 q => ?_⟩
  obtain ⟨l, z1, rfl, _, x, k1, q, h1⟩ := q
  cases r : frzL l z1.S with
  | ok l2 S2 =>
    rw [r] at h1
    obtain ⟨z2, e1, e2, x2, k2, q2⟩ := frzL_ok k1 q r
    subst e2
    have h1' : Out K M (EncA K M) W σ z1 Q (if l2.length ≤ LINE then mk l2 z2.S else .bad) := h1
    by_cases c : l2.length ≤ LINE
    · rw [if_pos c] at h1'
      have := hm z2 l2 vs k2 q2 c (Out.rebase x2 h1')
      rw [e1] at this
      exact this
    · rw [if_neg c] at h1'
      exact h1'.elim
  | ex _ _ => exact absurd r frzL_nex
  | bad =>
    rw [r] at h1
    exact h1.elim
theorem s_tup {es : List Expr} {x1 : Nat} {pos : Pos} {g : Env → Sto → Res (List D)} (h : SA X M W es g) : SE X M W (.Tuple es x1 pos) (tupF g) := by
  refine pe_imp (pe_tup h) fun σ H Q hh => ?_
  refine disp_of (T := fun xs H1 => xs.length ≤ sizeLine ∧ ∀ p, H1 p = none → Q (.ref p) (upd H1 p (.tup xs))) hh fun z l vs k q c ho => ⟨by
    rw [← q.length, ← line_eq]
    exact c, out_tup k q ho⟩
theorem s_lst {es : List Expr} {pos : Pos} {g : Env → Sto → Res (List D)} (h : SA X M W es g) : SE X M W (.List es pos) (lstF g) := by
  refine pe_imp (pe_lst h) fun σ H Q hh => ?_
  refine disp_of (T := fun xs H1 => xs.length ≤ sizeLine ∧ ∀ p, H1 p = none → Q (.ref p) (upd H1 p (.lst xs))) hh fun z l vs k q c ho => ⟨by
    rw [← q.length, ← line_eq]
    exact c, out_lst k q ho⟩
theorem s_lstO {es : List Expr} {pos : Pos} {g : Env → Sto → Res (List D)} (h : SA X M W es g) : SE X M W (.List es pos) (lstO g) := by
  refine pe_imp (pe_lst h) fun σ H Q hh => ?_
  refine disp_of (T := fun xs H1 => xs.length ≤ sizeLine ∧ ∀ p, H1 p = none → Q (.ref p) (upd H1 p (.lst xs))) hh fun z l vs k q c ho => ⟨by
    rw [← q.length, ← line_eq]
    exact c, fun p np => ?_⟩
  have hb : ObE X.K M (z.push p (.lst vs) (.lst false l)) p (.lst false l) := ⟨vs, upd_same, q.mv (ext_push np k).mv⟩
  exact ho (z.push p (.lst vs) (.lst false l)) (.ref p) rfl (ext_push np k) (sok_push np k hb) (encA_push k)
end
end Sm
/-! Sm9: comprehensions, dict displays. -/
namespace Sm
open PySem PySem.Spec PyProof.Rows L2
def wipeE (env : Env) : List Nat → Env
  | [] => env
  | v :: vs => (wipeE env vs).set v none
theorem wipe_ok {K : PySem.W.Frag} {M : Lm} {z : Sg} {env : Env} {σ : St} (h : EnvOk K M z env σ) : ∀ vs : List Nat, EnvOk K M z (wipeE env vs) (wipe σ vs)
  | [] => h
  | v :: vs => by
    have ih := wipe_ok h vs
    refine ⟨?_, fun i d e => ?_⟩
    · show ((wipeE env vs).set v none).length = ((wipe σ vs).set v none).length
      rw [List.length_set, List.length_set]
      exact ih.1
    · have e' : ((wipeE env vs).set v none)[i]? = some (some d) := e
      by_cases hi : v = i
      · subst hi
        by_cases hv : v < (wipeE env vs).length
        · rw [List.getElem?_set_self hv] at e'
          cases e'
        · rw [List.getElem?_eq_none (by simpa using hv)] at e'
          cases e'
      · rw [List.getElem?_set_ne hi] at e'
        obtain ⟨w, h1, h2⟩ := ih.2 i d e'
        refine ⟨w, ?_, h2⟩
        show ((wipe σ vs).set v none)[i]? = _
        rw [List.getElem?_set_ne hi]
        exact h1
/-! the target's slots -/
mutual
def Tgt.ix : Tgt → List Nat
  | .one i => [i]
  | .many ts => Tgt.ixs ts
def Tgt.ixs : List Tgt → List Nat
  | [] => []
  | t :: ts => t.ix ++ Tgt.ixs ts
end
/-- the target's rule with what it leaves of the other slots -/
def TgOk2 (K : PySem.W.Frag) (M : Lm) (g : TG) (t : Tgt) : Prop := ∀ (z : Sg) (env env' : Env) (σ : St) (d : D) (v : V) (Q : St → Hp → Prop), SOk K M z → EnvOk K M z env σ → EncA K M z d v → t.put d env = some env' →
  (∀ σ', EnvOk K M z env' σ' → σ'.length = σ.length → (∀ i, i ∉ t.ix → σ'[i]? = σ[i]?) → Q σ' z.H) → g v σ z.H Q
def TgsOk2 (K : PySem.W.Frag) (M : Lm) (g : TGs) (ts : List Tgt) : Prop := ∀ (z : Sg) (env env' : Env) (σ : St) (l : List D) (vs : List V) (Q : St → Hp → Prop), SOk K M z → EnvOk K M z env σ → EncL K M z.H z.ow l vs → Tgt.puts ts l env = some env' →
  (∀ σ', EnvOk K M z env' σ' → σ'.length = σ.length → (∀ i, i ∉ Tgt.ixs ts → σ'[i]? = σ[i]?) → Q σ' z.H) → g vs σ z.H Q
/-- a comprehension's target: one rule for every block -/
structure SG2 {ι : Type} (X : ι → Cx) (K : PySem.W.Frag) (M : Lm) (e : Expr) (t : Tgt) : Prop where
  ex : ∃ g, (∀ i, PG (X i) e g) ∧ TgOk2 K M g t
structure SGs2 {ι : Type} (X : ι → Cx) (K : PySem.W.Frag) (M : Lm) (es : List Expr) (ts : List Tgt) : Prop where
  ex : ∃ g, (∀ i, PGs (X i) es g) ∧ TgsOk2 K M g ts
section
variable {ι : Type} {X : ι → Cx} {K : PySem.W.Frag} {M : Lm}
theorem sg2_name (i : Nat) {x : Str} {pos : Pos} (h : ∀ j, PG (X j) (.Name x pos) (gName i)) : SG2 X K M (.Name x pos) (.one i) :=
  ⟨_, h, fun z env env' σ d v Q k ve q e h => h _ (by
    have e' : env.set i (some d) = env' := Option.some.inj e
    rw [← e']
    exact ve.set i q) (List.length_set ..) fun j hj => List.getElem?_set_ne (fun e => hj (by rw [e]; exact List.mem_singleton_self _))⟩
theorem sgs2_nil : SGs2 X K M [] [] := ⟨_, fun _ => pgs_nil, fun z env env' σ l vs Q k ve q e h => by
  cases q with
  | nil => exact ⟨rfl, h _ (by
      have e' : env = env' := Option.some.inj e
      rw [← e']
      exact ve) rfl fun _ _ => rfl⟩
  | cons a b => cases e⟩
theorem sgs2_cons {e : Expr} {es : List Expr} {t : Tgt} {ts : List Tgt} (h1 : SG2 X K M e t) (h2 : SGs2 X K M es ts) (hs : ∀ i, (assignEach (e :: es) (X i).env).map (·.2) = assign e (X i).env :: (assignEach es (X i).env).map (·.2) := by intro _; rfl) : SGs2 X K M (e :: es) (t :: ts) := by
  obtain ⟨g, h1, o1⟩ := h1.ex
  obtain ⟨g2, h2, o2⟩ := h2.ex
  refine ⟨_, fun i => pgs_cons (h1 i) (h2 i) (hs i), fun z env env' σ l vs Q k ve q e h => ?_⟩
  cases q with
  | nil => cases e
  | cons a b =>
    rename_i d v l vs
    unfold Tgt.puts at e
    cases r : t.put d env with
    | none =>
      rw [r] at e
      cases e
    | some env1 =>
      rw [r] at e
      exact ⟨v, vs, rfl, o1 z env env1 σ d v _ k ve (.of a) r fun σ1 v1 n1 i1 => o2 z env1 env' σ1 l vs Q k v1 b e fun σ2 v2 n2 i2 => h σ2 v2 (n2.trans n1) fun i hi => by
        have hi' : i ∉ t.ix ++ Tgt.ixs ts := hi
        rw [List.mem_append, not_or] at hi'
        exact (i2 i hi'.2).trans (i1 i hi'.1)⟩
theorem puts_len : ∀ (ts : List Tgt) (l : List D) (env env' : Env), Tgt.puts ts l env = some env' → ts.length = l.length := by
  intro ts
  induction ts with
  | nil =>
    intro l env env' e
    cases l with
    | nil => rfl
    | cons _ _ => cases e
  | cons t ts ih =>
    intro l env env' e
    cases l with
    | nil => cases e
    | cons d l =>
      unfold Tgt.puts at e
      cases r : t.put d env with
      | none =>
        rw [r] at e
        cases e
      | some env1 =>
        rw [r] at e
        rw [List.length_cons, List.length_cons, ih l env1 env' e]
theorem sg2_tup {es : List Expr} {kk : Nat} {pos : Pos} {ts : List Tgt} (hc : ∀ i, (X i).calm = true) (hK : ∀ i, (X i).K = K) (h : SGs2 X K M es ts)
    (hn : ∀ i, (assignEach es (X i).env).length = ts.length := by intro _; rfl) (hst : ∀ i, (assignEach es (X i).env).findIdx? (·.1) = none := by intro _; rfl) : SG2 X K M (.Tuple es kk pos) (.many ts) := by
  obtain ⟨g, h1, o1⟩ := h.ex
  refine ⟨gTL K ts.length g, fun i => by
    have := pg_tl (k := kk) (pos := pos) (hc i) (h1 i) (hn i) (hst i)
    rw [hK i] at this
    exact this, fun z env env' σ d v Q k ve q e h => ?_⟩
  cases d with
  | tup l =>
    cases q with
    | of q =>
      cases q with
      | tup hs hl' =>
        rename_i a vs
        have e' : Tgt.puts ts l env = some env' := e
        exact ⟨a, vs, rfl, .inl hs, by rw [← hl'.length, ← puts_len ts l env env' e'], o1 z env env' σ l vs Q k ve hl' e' h⟩
  | lst l =>
    cases q with
    | of q =>
      cases q with
      | lst hs hl' =>
        rename_i a vs
        have e' : Tgt.puts ts l env = some env' := e
        exact ⟨a, vs, rfl, .inr hs.rl.sq, by rw [← hl'.length, ← puts_len ts l env env' e'], o1 z env env' σ l vs Q k ve hl' e' h⟩
  | _ => cases e
end
/-! ### comprehensions -/
def lcL (t : Tgt) (c : Env → Sto → Res Bool) (e : Env → Sto → Res D) (g : Option Nat) (o : Option Ob) (env : Env) : List D → Sto → Res (List D)
  | [], S => match g with
    | none => .ok [] S
    | some n => if S[n]? = o then .ok [] S else .bad
  | d :: r, S =>
    let go : Res (List D) := match t.put d env with
      | none => .bad
      | some env1 => match c env1 S with
        | .ok true S1 => match e env1 S1 with
          | .ok v S2 => match frz1 v S2 with
            | .ok w S3 => (lcL t c e g o env r S3).bind fun l S4 => .ok (w :: l) S4
            | _ => .bad
          | _ => .bad
        | .ok false S1 => lcL t c e g o env r S1
        | _ => .bad
    match g with
    | none => go
    | some n => if S[n]? = o then go else .bad
/-- [e for t in it if c] -/
def lcG (own : List Nat) (it : Env → Sto → Res Itm) (t : Tgt) (c : Env → Sto → Res Bool) (e : Env → Sto → Res D) : Env → Sto → Res (List D) := fun env S => (it env S).bind fun J S1 => if J.l.length ≤ LINE then lcL t c e J.g J.o (wipeE env own) J.l S1 else .bad
def lcF (own : List Nat) (it : Env → Sto → Res Itm) (t : Tgt) (c : Env → Sto → Res Bool) (e : Env → Sto → Res D) : Env → Sto → Res D := fun env S => (lcG own it t c e env S).bind fun l S1 => .ok (.lst l) S1
def lcO (own : List Nat) (it : Env → Sto → Res Itm) (t : Tgt) (c : Env → Sto → Res Bool) (e : Env → Sto → Res D) : Env → Sto → Res D := fun env S => (lcG own it t c e env S).bind fun l S1 => .ok (.ref S1.length) (S1 ++ [.lst false l])
def yesF : Env → Sto → Res Bool := fun _ S => .ok true S
def W0 : WX := fun _ _ _ _ => False
/-- a block of X -/
structure Blk where
  s : Shared
  H : Hp
  C : Addr
  cl : List (Str × Addr)
  fp : List Addr
abbrev blkOf (X : Cx) (scope : Scope) (b : Blk) : Cx := X.blk b.s b.H scope (compEnvC scope b.cl b.C X.env) b.fp
section
variable {X : Cx} {M : Lm} {W : WX}
theorem tlc_of {own : List Nat} {it : Env → Sto → Res Itm} {t : Tgt} {c : Env → Sto → Res Bool} {e : Env → Sto → Res D} {g : TG} (og : TgOk2 X.K M g t) (hix : ∀ i ∈ t.ix, i ∈ own) {σ : St} {H : Hp} {Q : VK} {fin : List D → Sto → Res D}
    (hfin : ∀ (p : Addr) (z zc : Sg) (l : List D) (vs : List V), z.H p = none → SOk X.K M z → SOk X.K M zc → GX p z zc → zc.H p = some (.lst vs) → EncL X.K M zc.H zc.ow l vs → Out X.K M (EncA X.K M) W σ z Q (fin l zc.S) → Q (.ref p) zc.H)
    (h : tE X.K M W (fun env S => (lcG own it t c e env S).bind fin) σ H Q) : tLc (tI X.K M W it) g (tT X.K M W0 c) (tE X.K M W0 e) own σ H Q := by
  obtain ⟨env, z, rfl, k, v, h⟩ := h
  unfold lcG at h
  dsimp only at h
  have hb : Out X.K M (EncA X.K M) W σ z Q ((it env z.S).bind fun J S1 => (if J.l.length ≤ LINE then lcL t c e J.g J.o (wipeE env own) J.l S1 else .bad).bind fin) := by
    cases r : it env z.S with
    | ok a S =>
      rw [r] at h
      exact h
    | ex a S =>
      rw [r] at h
      exact h
    | bad =>
      rw [r] at h
      exact h
  refine ⟨env, z, rfl, k, v, (Out.bind hb).imp fun J H1 q => ?_⟩
  obtain ⟨I, z1, rfl, _, x1, k1, ⟨ok1, hJ⟩, h1⟩ := q
  intro p np
  by_cases hln : I.l.length ≤ LINE
  rotate_left
  · have h1' : Out X.K M (EncA X.K M) W σ z1 Q ((if I.l.length ≤ LINE then lcL t c e I.g I.o (wipeE env own) I.l z1.S else .bad).bind fin) := h1
    rw [if_neg hln] at h1'
    exact h1'.elim
  have h1' : Out X.K M (EncA X.K M) W σ z1 Q ((if I.l.length ≤ LINE then lcL t c e I.g I.o (wipeE env own) I.l z1.S else .bad).bind fin) := h1
  rw [if_pos hln] at h1'
  clear h1 h hb
  have v1 := v.ext x1
  -- the invariant
  let Inv2 : Nat → Hp → Prop := fun i H => i ≤ I.l.length ∧ ∃ zc acc vs, zc.H = H ∧ SOk X.K M zc ∧ GX p z1 zc ∧ H p = some (.lst vs) ∧ EncL X.K M zc.H zc.ow acc vs ∧ acc.length ≤ i ∧
    Out X.K M (EncA X.K M) W σ z1 Q ((lcL t c e I.g I.o (wipeE env own) (I.l.drop i) zc.S).bind fun l S => fin (acc ++ l) S)
  refine ⟨fun i m H => m = I.l.length - i ∧ Inv2 i H, ⟨I.l.length, rfl, Nat.zero_le _, z1.mk1 p (.lst []), [], [], rfl, sok_mk1 (.inl ⟨_, rfl⟩) np k1, gx_start np k1, upd_same, .nil, Nat.le_refl _, h1'⟩, ?_⟩
  rintro i m H ⟨rfl, hi, zc, acc, vs, rfl, kc, gx, hp, hacc, hal, ho⟩
  by_cases hlt : i < I.l.length
  · have hd : I.l.drop i = I.l[i] :: I.l.drop (i + 1) := List.drop_eq_getElem_cons hlt
    rw [hd] at ho
    have hok : I.ok zc.S ∧ Out X.K M (EncA X.K M) W σ z1 Q (Res.bind (match t.put I.l[i] (wipeE env own) with
      | none => .bad
      | some env1 => match c env1 zc.S with
        | .ok true S1 => match e env1 S1 with
          | .ok v S2 => match frz1 v S2 with
            | .ok w S3 => (lcL t c e I.g I.o (wipeE env own) (I.l.drop (i + 1)) S3).bind fun l S4 => .ok (w :: l) S4
            | _ => .bad
          | _ => .bad
        | .ok false S1 => lcL t c e I.g I.o (wipeE env own) (I.l.drop (i + 1)) S1
        | _ => .bad : Res (List D)) fun l S => fin (acc ++ l) S) := by
      unfold lcL at ho
      cases hg : I.g with
      | none =>
        rw [hg] at ho
        exact ⟨fun n q => (by rw [hg] at q; cases q), ho⟩
      | some n =>
        rw [hg] at ho
        dsimp only at ho
        by_cases e : zc.S[n]? = I.o
        · rw [if_pos e] at ho
          exact ⟨fun n' q => (by
            rw [hg] at q
            cases q
            exact e), ho⟩
        · rw [if_neg e] at ho
          exact ho.elim
    obtain ⟨hok, ho⟩ := hok
    obtain ⟨go, yl⟩ := (hJ zc gx.wk kc hok i).1 _ (List.getElem?_eq_getElem hlt)
    refine .inr ⟨go, Inv2 (i + 1), fun H' q => ⟨I.l.length - (i + 1), by omega, rfl, q⟩, fun w H3 y => ?_⟩
    obtain ⟨z3, rfl, eS, x3, k3, e3⟩ := yl w H3 y
    have gx3 := gx.step x3
    have hp3 : z3.H p = some (.lst vs) := by
      rw [x3.gk p (by rw [gx.gh]; exact List.mem_cons_self)]
      exact hp
    have v3 : EnvOk X.K M z3 (wipeE env own) (wipe σ own) := wipe_ok (v1.mvR gx3.mv gx3.pre gx3.grow) own
    cases r : t.put I.l[i] (wipeE env own) with
    | none =>
      rw [r] at ho
      exact ho.elim
    | some env1 =>
      rw [r] at ho
      refine og z3 (wipeE env own) env1 (wipe σ own) _ w _ k3 v3 e3 r fun σ2 v2 len2 same2 => ⟨?_, ?_⟩
      · apply List.ext_getElem?
        intro j
        have wl : ∀ (σ τ : St) (vs : List Nat), σ.length = τ.length → (∀ i : Nat, i ∉ vs → σ[i]? = τ[i]?) → ∀ i : Nat, (wipe σ vs)[i]? = (wipe τ vs)[i]? := by
          intro σ τ vs hl hs
          have inn : ∀ (vs : List Nat) (σ : St) (i : Nat), i ∈ vs → (wipe σ vs)[i]? = if i < σ.length then some none else none := by
            intro vs
            induction vs with
            | nil => intro σ i h; cases h
            | cons u us ih =>
              intro σ i h
              show ((wipe σ us).set u none)[i]? = _
              by_cases hu : u = i
              · subst hu
                by_cases hl : u < σ.length
                · rw [if_pos hl, List.getElem?_set_self (by rw [wipe_length]; exact hl)]
                · rw [if_neg hl, List.getElem?_eq_none]
                  rw [List.length_set, wipe_length]
                  omega
              · rw [List.getElem?_set_ne hu]
                exact ih σ i ((List.mem_cons.mp h).resolve_left (Ne.symm hu))
          intro i
          by_cases hi : i ∈ vs
          · rw [inn vs σ i hi, inn vs τ i hi, hl]
          · have out : ∀ (vs : List Nat) (σ : St), i ∉ vs → (wipe σ vs)[i]? = σ[i]? := fun vs σ h => wipe_out h
            rw [out vs σ hi, out vs τ hi]
            exact hs i hi
        have wl2 : (wipe σ own).length = σ.length := wipe_length σ own
        rw [wl σ2 σ own (len2.trans wl2) (fun i hi => (same2 i (fun q => hi (hix i q))).trans (wipe_out hi)) j]
      · rw [← eS] at ho
        dsimp only at ho
        refine ⟨env1, z3, rfl, k3, v2, ?_⟩
        cases rc : c env1 z3.S with
        | bad =>
          rw [rc] at ho
          exact ho.elim
        | ex _ _ =>
          rw [rc] at ho
          exact ho.elim
        | ok b S1 =>
          rw [rc] at ho
          intro z4 b4 e4 x4 k4 hb
          subst e4
          subst hb
          have gx4 := gx3.step x4
          have hp4 : z4.H p = some (.lst vs) := by
            rw [x4.gk p (by rw [gx3.gh]; exact List.mem_cons_self)]
            exact hp3
          cases b with
          | false =>
            rw [if_neg Bool.false_ne_true]
            exact ⟨hlt, z4, acc, vs, rfl, k4, gx4, hp4, hacc.mv ((x3.trans x4).mv), Nat.le_trans hal (Nat.le_succ i), ho⟩
          | true =>
            rw [if_pos rfl]
            dsimp only at ho
            refine ⟨env1, z4, rfl, k4, v2.ext x4, ?_⟩
            cases re : e env1 z4.S with
            | bad =>
              rw [re] at ho
              exact ho.elim
            | ex _ _ =>
              rw [re] at ho
              exact ho.elim
            | ok d S2 =>
              rw [re] at ho
              intro z5 y5 e5 x5 k5 q5
              subst e5
              dsimp only at ho
              cases rf : frz1 d z5.S with
              | bad =>
                rw [rf] at ho
                exact ho.elim
              | ex _ _ =>
                rw [rf] at ho
                exact ho.elim
              | ok d' S3 =>
                rw [rf] at ho
                dsimp only at ho
                obtain ⟨z6, e6, e7, x6, k6, q6⟩ := frz1_ok k5 q5 rf
                subst e7
                have gx5 := gx4.step x5
                have gx6 := gx5.step x6
                have hp5 : z5.H p = some (.lst vs) := by
                  rw [x5.gk p (by rw [gx4.gh]; exact List.mem_cons_self)]
                  exact hp4
                have acc6 : EncL X.K M z6.H z6.ow acc vs := hacc.mv ((x3.trans (x4.trans (x5.trans x6))).mv)
                have pG : p ∈ z6.G := by rw [gx6.gh]; exact List.mem_cons_self
                have m6 := mv_wr1 (o := .lst (vs ++ [y5])) pG k6
                refine ⟨vs, hp5, ?_, hlt, z6.wr1 p (.lst (vs ++ [y5])), acc ++ [d'], vs ++ [y5], by rw [← e6]; rfl, sok_wr1 (.inl ⟨_, rfl⟩) pG k6, gx6.wr np k1 k6, upd_same, (acc6.mv m6).app (EncL.one (q6.mv m6)), ?_, ?_⟩
                · rw [← acc6.length, ← line_eq]
                  omega
                · rw [List.length_append, List.length_singleton]
                  omega
                · show Out X.K M (EncA X.K M) W σ z1 Q ((lcL t c e I.g I.o (wipeE env own) (I.l.drop (i + 1)) z6.S).bind fun l S => fin (acc ++ [d'] ++ l) S)
                  cases rr : lcL t c e I.g I.o (wipeE env own) (I.l.drop (i + 1)) z6.S with
                  | ok l S4 =>
                    rw [rr] at ho
                    show Out X.K M (EncA X.K M) W σ z1 Q (fin (acc ++ [d'] ++ l) S4)
                    rw [List.append_assoc]
                    exact ho
                  | ex _ _ =>
                    rw [rr] at ho
                    exact ho
                  | bad =>
                    rw [rr] at ho
                    exact ho
  · have ed : I.l.drop i = [] := List.drop_eq_nil_of_le (by omega)
    rw [ed] at ho
    have hok : I.ok zc.S ∧ Out X.K M (EncA X.K M) W σ z1 Q (fin (acc ++ []) zc.S) := by
      unfold lcL at ho
      cases hg : I.g with
      | none =>
        rw [hg] at ho
        exact ⟨fun n q => (by rw [hg] at q; cases q), ho⟩
      | some n =>
        rw [hg] at ho
        dsimp only at ho
        by_cases e : zc.S[n]? = I.o
        · rw [if_pos e] at ho
          exact ⟨fun n' q => (by
            rw [hg] at q
            cases q
            exact e), ho⟩
        · rw [if_neg e] at ho
          exact ho.elim
    obtain ⟨hok, ho⟩ := hok
    rw [List.append_nil] at ho
    exact .inl ⟨(hJ zc gx.wk kc hok i).2 (by omega), hfin p z1 zc acc vs np k1 kc gx hp hacc ho⟩
theorem fin_lst {Q : VK} {σ : St} (p : Addr) (z zc : Sg) (l : List D) (vs : List V) (np : z.H p = none) (k : SOk X.K M z) (kc : SOk X.K M zc) (gx : GX p z zc) (hp : zc.H p = some (.lst vs)) (hl : EncL X.K M zc.H zc.ow l vs) (h : Out X.K M (EncA X.K M) W σ z Q (Res.ok (.lst l) zc.S)) : Q (.ref p) zc.H :=
  h (zc.done z.G) (.ref p) rfl gx.ext (gx.sok kc) (.of (.lst (.inl ⟨.inl hp, gx.now np k kc⟩) (hl.mv gx.less)))
theorem fin_own {Q : VK} {σ : St} (p : Addr) (z zc : Sg) (l : List D) (vs : List V) (np : z.H p = none) (k : SOk X.K M z) (kc : SOk X.K M zc) (gx : GX p z zc) (hp : zc.H p = some (.lst vs)) (hl : EncL X.K M zc.H zc.ow l vs) (h : Out X.K M (EncA X.K M) W σ z Q (Res.ok (.ref zc.S.length) (zc.S ++ [.lst false l]))) : Q (.ref p) zc.H := by
  obtain ⟨x, k2, e2⟩ := gx.own np k kc (b := .lst false l) ⟨vs, hp, hl⟩
  exact h { H := zc.H, S := zc.S ++ [.lst false l], R := zc.R ++ [p], G := z.G } (.ref p) rfl x k2 e2
def STs (X : Cx) (M : Lm) (W : WX) (ifs : List Expr) (c : Env → Sto → Res Bool) : Prop := PTs X ifs (tT X.K M W c)
theorem sts_nil : STs X M W [] yesF := ⟨fun pins s σ H Q I h => pts_nil.run pins s σ H Q I (by
  obtain ⟨env, z, rfl, k, v, h⟩ := h
  exact h z true rfl (Ext.refl z) k rfl)⟩
theorem sts_one {e : Expr} {c : Env → Sto → Res Bool} (h : ST X M W e c) : STs X M W [e] c := pts_one h
section
variable {elt tg iter : Expr} {ifs : List Expr} {scope : Scope} {own : List (Str × Nat)} {pos : Pos} {it : Env → Sto → Res Itm} {t : Tgt} {c : Env → Sto → Res Bool} {e : Env → Sto → Res D}
theorem s_lc (own : List (Str × Nat)) (hc : X.calm = true) (hN : X.N.Nodup) (hi : SI X M W tg iter it) (ok : BlkOk X.N X.env.scope scope own) (hg : SG2 (blkOf X scope) X.K M tg t) (ht : ∀ b, STs (blkOf X scope b) M W0 ifs c) (he : ∀ b, SE (blkOf X scope b) M W0 elt e)
    (hix : ∀ i ∈ t.ix, i ∈ own.map (·.2) := by decide) (hs : ∀ x, foldedSetIterable iter X.env x = pure x := by intro _; rfl) : SE X M W (.ListComp elt [⟨tg, iter, ifs, 0⟩] scope pos) (lcF (own.map (·.2)) it t c e) := by
  obtain ⟨g, hg, og⟩ := hg.ex
  exact pe_imp (pe_lc (own := own) (tt := tT X.K M W0 c) (te := tE X.K M W0 e) hc hN hi ok (fun s H C cl fp => hg ⟨s, H, C, cl, fp⟩) (fun s H C cl fp => ht ⟨s, H, C, cl, fp⟩) (fun s H C cl fp => he ⟨s, H, C, cl, fp⟩) hs) fun σ H Q h => tlc_of og hix fin_lst h
theorem s_lcO (own : List (Str × Nat)) (hc : X.calm = true) (hN : X.N.Nodup) (hi : SI X M W tg iter it) (ok : BlkOk X.N X.env.scope scope own) (hg : SG2 (blkOf X scope) X.K M tg t) (ht : ∀ b, STs (blkOf X scope b) M W0 ifs c) (he : ∀ b, SE (blkOf X scope b) M W0 elt e)
    (hix : ∀ i ∈ t.ix, i ∈ own.map (·.2) := by decide) (hs : ∀ x, foldedSetIterable iter X.env x = pure x := by intro _; rfl) : SE X M W (.ListComp elt [⟨tg, iter, ifs, 0⟩] scope pos) (lcO (own.map (·.2)) it t c e) := by
  obtain ⟨g, hg, og⟩ := hg.ex
  exact pe_imp (pe_lc (own := own) (tt := tT X.K M W0 c) (te := tE X.K M W0 e) hc hN hi ok (fun s H C cl fp => hg ⟨s, H, C, cl, fp⟩) (fun s H C cl fp => ht ⟨s, H, C, cl, fp⟩) (fun s H C cl fp => he ⟨s, H, C, cl, fp⟩) hs) fun σ H Q h => tlc_of og hix fin_own h
theorem tasg_of {f : Env → Sto → Res D} {i : Nat} {tt : TE} {D : Ends} {σ : St} {H : Hp} (hi : ∀ Q, tE X.K M W f σ H Q → tt σ H Q) (h : tS X.K M W (setF i f) D σ H) : tAsg tt (gName i) D σ H := by
  obtain ⟨env, z, rfl, k, v, h⟩ := h
  refine hi _ ⟨env, z, rfl, k, v, (Out.thn v h).imp fun b H1 q => ?_⟩
  obtain ⟨a, z1, rfl, _, x, k1, q, v1, h1⟩ := q
  exact h1 z1 _ rfl (Ext.refl z1) k1 (v1.set i q)
theorem ss_setLc (i : Nat) (own : List (Str × Nat)) {y : Str} {py spos : Pos} (hc : X.calm = true) (hN : X.N.Nodup) (hi : SI X M W tg iter it) (ok : BlkOk X.N X.env.scope scope own) (hg : SG2 (blkOf X scope) X.K M tg t) (ht : ∀ b, STs (blkOf X scope b) M W0 ifs c) (he : ∀ b, SE (blkOf X scope b) M W0 elt e)
    (hsw : swapsWith (.ListComp elt [⟨tg, iter, ifs, 0⟩] scope pos) (some (.Name y py)) spos.line X.env = pure true) (hy : X.N[i]? = some y := by rfl) (hyl : X.env.scope.names.lookup y = some .local := by rfl)
    (hix : ∀ i ∈ t.ix, i ∈ own.map (·.2) := by decide) (hs : ∀ x, foldedSetIterable iter X.env x = pure x := by intro _; rfl) : SS X M W (.Assign [.Name y py] (.ListComp elt [⟨tg, iter, ifs, 0⟩] scope pos) spos) (setF i (lcF (own.map (·.2)) it t c e)) := by
  obtain ⟨g, hg, og⟩ := hg.ex
  exact ps_imp (ps_setLc (own := own) (tt := tT X.K M W0 c) (te := tE X.K M W0 e) hc hN hy hyl hsw hi ok (fun s H C cl fp => hg ⟨s, H, C, cl, fp⟩) (fun s H C cl fp => ht ⟨s, H, C, cl, fp⟩) (fun s H C cl fp => he ⟨s, H, C, cl, fp⟩) hs) fun D σ H h => tasg_of (fun Q h => tlc_of og hix fin_lst h) h
theorem ss_setLcO (i : Nat) (own : List (Str × Nat)) {y : Str} {py spos : Pos} (hc : X.calm = true) (hN : X.N.Nodup) (hi : SI X M W tg iter it) (ok : BlkOk X.N X.env.scope scope own) (hg : SG2 (blkOf X scope) X.K M tg t) (ht : ∀ b, STs (blkOf X scope b) M W0 ifs c) (he : ∀ b, SE (blkOf X scope b) M W0 elt e)
    (hsw : swapsWith (.ListComp elt [⟨tg, iter, ifs, 0⟩] scope pos) (some (.Name y py)) spos.line X.env = pure true) (hy : X.N[i]? = some y := by rfl) (hyl : X.env.scope.names.lookup y = some .local := by rfl)
    (hix : ∀ i ∈ t.ix, i ∈ own.map (·.2) := by decide) (hs : ∀ x, foldedSetIterable iter X.env x = pure x := by intro _; rfl) : SS X M W (.Assign [.Name y py] (.ListComp elt [⟨tg, iter, ifs, 0⟩] scope pos) spos) (setF i (lcO (own.map (·.2)) it t c e)) := by
  obtain ⟨g, hg, og⟩ := hg.ex
  exact ps_imp (ps_setLc (own := own) (tt := tT X.K M W0 c) (te := tE X.K M W0 e) hc hN hy hyl hsw hi ok (fun s H C cl fp => hg ⟨s, H, C, cl, fp⟩) (fun s H C cl fp => ht ⟨s, H, C, cl, fp⟩) (fun s H C cl fp => he ⟨s, H, C, cl, fp⟩) hs) fun D σ H h => tasg_of (fun Q h => tlc_of og hix fin_own h) h
end
end
end Sm
/-! Sm10: subscripts, slices, stores, methods, repr. -/
namespace Sm
open PySem PySem.Spec PyProof.Rows L2
section
variable {X : Cx} {M : Lm} {W : WX} {K : PySem.W.Frag} {z : Sg}
theorem atI_enc {H : Hp} {ow : Addr → Prop} {l : List D} {vs : List V} {k : Int} {d : D} (h : EncL K M H ow l vs) (e : atI l k = some d) : ∃ v, atI vs k = some v ∧ Enc K M H ow d v := by
  unfold atI at e ⊢
  rw [← h.length]
  cases r : ixN l.length k with
  | none =>
    rw [r] at e
    cases e
  | some j =>
    rw [r] at e
    exact h.get e
def lookD : List (D × D) → D → Option D
  | [], _ => none
  | (a, b) :: l, k => if a = k then some b else lookD l k
theorem dkey_inj {a b : D} {q : Key} (h : dkey a = some q) (h' : dkey b = some q) : a = b := by
  cases a <;> first
    | (cases h; done)
    | skip
  all_goals cases b <;> first
    | (cases h'; done)
    | skip
  all_goals (simp only [dkey, Option.some.injEq] at h h'; subst h; first | (injection h' with e; subst e; rfl) | (injection h'; done) | (injection h' with e; injection e with e; have := congrArg Array.toList e; simp at this; rw [this]))
theorem lookD_enc {H : Hp} {ow : Addr → Prop} {k : D} {q : Key} (hk : dkey k = some q) : ∀ {l : List (D × D)} {kvs : List (Key × V)}, EncP K M H ow l kvs →
    (∀ d, lookD l k = some d → ∃ v, valV kvs q = some v ∧ Enc K M H ow d v) ∧ (lookD l k = none → valV kvs q = none)
  | _, _, .nil => ⟨fun d e => (by cases e), fun _ => rfl⟩
  | _, _, .cons (k := k0) (q := q0) h0 e t => by
    have ih := lookD_enc hk t
    by_cases c : k0 = k
    · subst c
      rw [hk] at h0
      cases h0
      refine ⟨fun d e' => ?_, fun e' => ?_⟩
      · unfold lookD at e'
        rw [if_pos rfl] at e'
        cases e'
        exact ⟨_, valV_pos rfl, e⟩
      · unfold lookD at e'
        rw [if_pos rfl] at e'
        cases e'
    · have nq : ¬ q0 = q := fun r => by
        subst r
        exact c (dkey_inj h0 hk)
      refine ⟨fun d e' => ?_, fun e' => ?_⟩
      · unfold lookD at e'
        rw [if_neg c] at e'
        obtain ⟨v, h1, h2⟩ := ih.1 d e'
        exact ⟨v, (valV_neg nq).trans h1, h2⟩
      · unfold lookD at e'
        rw [if_neg c] at e'
        exact (valV_neg nq).trans (ih.2 e')
/-- the pairs of a dict -/
def getP (d : D) (S : Sto) : Option (List (D × D)) := match d with
  | .dic l => some l
  | .ref n => match S[n]? with
    | some (.dic _ l) => some l
    | _ => none
  | _ => none
theorem getP_ok {d : D} {v : V} {l : List (D × D)} (k : SOk K M z) (q : EncA K M z d v) (e : getP d z.S = some l) : ∃ a kvs, v = .ref a ∧ z.H a = some (.dK kvs) ∧ EncP K M z.H z.ow l kvs := by
  cases d with
  | dic l' =>
    cases q with
    | of q =>
      cases q with
      | dic r n h =>
        cases e
        exact ⟨_, _, rfl, r, h⟩
  | ref n =>
    have e' : (match z.S[n]? with
      | some (.dic _ l) => some l
      | _ => none) = some l := e
    cases r : z.S[n]? with
    | none =>
      rw [r] at e'
      cases e'
    | some o =>
      rw [r] at e'
      cases o with
      | lst fz l => cases e'
      | arr l => cases e'
      | dic fz l' =>
        have e2 : some l' = some l := e'
        cases e2
        obtain ⟨a, kvs, rfl, _, h1, h2⟩ := ref_dic k q r
        exact ⟨a, kvs, rfl, h1, h2⟩
  | _ => cases e
def ixL {α : Type} (o : Option α) (f : α → Res D) : Res D := match o with
  | some a => f a
  | none => .bad
/-- a[i] -/
def ixD (a i : D) (S : Sto) : Res D := match a with
  | .tup l => match i with
    | .int k => ixL (atI l k) fun d => .ok d S
    | _ => .bad
  | .str s => match i with
    | .int k => if s.length ≤ LINE then ixL (atI s k) fun c => .ok (.str [c]) S else .bad
    | _ => .bad
  | a => match getL a S, i with
    | some l, .int k => ixL (atI l k) fun d => .ok d S
    | some _, _ => .bad
    | none, i => ixL (getP a S) fun l => ixL (dkey i) fun _ => ixL (lookD l i) fun d => .ok d S
def rIxP : R2 := fun x y H Q => ∃ (a : Addr) (kvs : List (Key × V)) (k : Key) (v : V), x = .ref a ∧ y = kV k ∧ H a = some (.dK kvs) ∧ valV kvs k = some v ∧ Q v H
theorem ix_dic (hu : X.A.units + 1 < cLine) : IxR X rIxP := by
  intro value slice pins s σ H x y v u Q I rx ry h hs
  obtain ⟨a, kvs, k, w, rfl, rfl, hd, hv, q⟩ := h
  obtain rfl : v = Value.ref a := rx
  have g : DGet H a (kV k) (some w) := by
    rw [← hv]
    exact DGet.k hd
  exact tail_any (ops := [.ref a, u]) (dict_typeIs I g) PySem.F.slot_dict_getitem.lookup (d_getItem hu I g ry fun w' s3 I3 rw' => ⟨w, H, I3, rw', q⟩) hs
theorem key_enc {i : D} {v : V} {q : Key} (e : EncA K M z i v) (h : dkey i = some q) : v = kV q := by
  cases i with
  | int j =>
    cases h
    exact encA_int e
  | str s =>
    cases h
    exact encA_str e
  | _ => cases h
theorem ix_ok (hu : X.A.units + 1 < cLine) : IxR X (rOp X.K M W ixD) := by
  intro value slice pins s σ H x y v u Q I rx ry hh hs
  obtain ⟨z, a, i, σ', rfl, k, qa, qi, h⟩ := hh
  have lists : ∀ l, getL a z.S = some l → ixD a i z.S = (match i with | .int j => ixL (atI l j) fun d => Res.ok d z.S | _ => .bad) → wpAny (model X.prog X.w) X.A (subscriptTail value slice v u) (EP X pins σ Q) X.xe s := by
    intro l hl e
    rw [e] at h
    cases i with
    | int j =>
      dsimp only at h
      cases r : atI l j with
      | none =>
        rw [r] at h
        exact h.elim
      | some d =>
        rw [r] at h
        obtain ⟨p, vs, rfl, h1, h2⟩ := getL_ok k qa hl
        obtain ⟨w, w1, w2⟩ := atI_enc h2 r
        rw [encA_int qi] at ry
        exact ix_list value slice pins s σ z.H _ _ v u Q I rx ry ⟨p, vs, j, w, rfl, rfl, h1, w1, out_same k (.of w2) h⟩ hs
    | _ => exact h.elim
  have dicts : ∀ l, getP a z.S = some l → ixD a i z.S = (ixL (dkey i) fun _ => ixL (lookD l i) fun d => Res.ok d z.S) → wpAny (model X.prog X.w) X.A (subscriptTail value slice v u) (EP X pins σ Q) X.xe s := by
    intro l hl e
    rw [e] at h
    cases hk : dkey i with
    | none =>
      rw [hk] at h
      exact h.elim
    | some q =>
      rw [hk] at h
      have h' : Out X.K M (EncA X.K M) W σ' z Q (ixL (lookD l i) fun d => Res.ok d z.S) := h
      cases r : lookD l i with
      | none =>
        rw [r] at h'
        exact h'.elim
      | some d =>
        rw [r] at h'
        obtain ⟨p, kvs, rfl, h1, h2⟩ := getP_ok k qa hl
        obtain ⟨w, w1, w2⟩ := (lookD_enc hk h2).1 d r
        exact ix_dic hu value slice pins s σ z.H _ _ v u Q I rx ry ⟨p, kvs, q, w, rfl, key_enc qi hk, h1, w1, out_same k (.of w2) h'⟩ hs
  cases a with
  | tup l =>
    cases i with
    | int j =>
      have h' : Out X.K M (EncA X.K M) W σ' z Q (ixL (atI l j) fun d => Res.ok d z.S) := h
      cases r : atI l j with
      | none =>
        rw [r] at h'
        exact h'.elim
      | some d =>
        rw [r] at h'
        obtain ⟨p, vs, rfl, h1, h2⟩ := encA_tup qa
        obtain ⟨w, w1, w2⟩ := atI_enc h2 r
        rw [encA_int qi] at ry
        exact ix_tup value slice pins s σ z.H _ _ v u Q I rx ry ⟨p, vs, j, w, rfl, rfl, h1, w1, out_same k (.of w2) h'⟩ hs
    | _ => exact h.elim
  | str t =>
    cases i with
    | int j =>
      have h' : Out X.K M (EncA X.K M) W σ' z Q (if t.length ≤ LINE then ixL (atI t j) fun c => Res.ok (.str [c]) z.S else .bad) := h
      by_cases c : t.length ≤ LINE
      · rw [if_pos c] at h'
        cases r : atI t j with
        | none =>
          rw [r] at h'
          exact h'.elim
        | some d =>
          rw [r] at h'
          rw [encA_int qi] at ry
          rw [encA_str qa] at rx
          exact ix_str value slice pins s σ z.H _ _ v u Q I rx ry ⟨_, j, d, rfl, rfl, by
            show t.toArray.size ≤ _
            rw [List.size_toArray, ← line_eq]
            exact c, by simpa using r, out_str k h'⟩ hs
      · rw [if_neg c] at h'
        exact h'.elim
    | _ => exact h.elim
  | lst l => exact lists l rfl (by cases i <;> rfl)
  | dic l => exact dicts l rfl (by cases i <;> rfl)
  | ref n =>
    cases hl : getL (.ref n) z.S with
    | some l => exact lists l hl (by
        show (match getL (.ref n) z.S, i with
          | some l, .int k => ixL (atI l k) fun d => Res.ok d z.S
          | some _, _ => .bad
          | none, i => ixL (getP (.ref n) z.S) fun l => ixL (dkey i) fun _ => ixL (lookD l i) fun d => .ok d z.S) = _
        rw [hl]
        cases i <;> rfl)
    | none =>
      have e : ixD (.ref n) i z.S = ixL (getP (.ref n) z.S) fun l => ixL (dkey i) fun _ => ixL (lookD l i) fun d => Res.ok d z.S := by
        show (match getL (.ref n) z.S, i with
          | some l, .int k => ixL (atI l k) fun d => Res.ok d z.S
          | some _, _ => .bad
          | none, i => ixL (getP (.ref n) z.S) fun l => ixL (dkey i) fun _ => ixL (lookD l i) fun d => .ok d z.S) = _
        rw [hl]
      cases hp : getP (.ref n) z.S with
      | none =>
        rw [e, hp] at h
        exact h.elim
      | some l => exact dicts l hp (by rw [e, hp]; rfl)
  | _ => exact h.elim
theorem s_ix {a b : Expr} {pos : Pos} {f g : Env → Sto → Res D} (hu : X.A.units + 1 < cLine) (ha : SE X M W a f) (hb : SE X M W b g) (hs : PlainIx b := by exact fun _ _ => rfl) : SE X M W (.Subscript a b pos) (binF ixD f g) :=
  pe_imp (pe_ix (ix_ok hu) ha hb hs) fun _ _ _ h => top_of h
/-! ### slices -/
def cutL {α : Type} (l : List α) (lo hi : Option Int) : List α := (l.drop (HT.sIx l.length 0 lo)).take (HT.sIx l.length l.length hi - HT.sIx l.length 0 lo)
theorem cut_enc {H : Hp} {ow : Addr → Prop} {l : List D} {vs : List V} (h : EncL K M H ow l vs) (lo hi : Option Int) : EncL K M H ow (cutL l lo hi) (cutV vs lo hi) := by
  unfold cutL cutV
  rw [← h.length]
  exact (h.drop _).take _
def cutD (a : D) (lo hi : Option Int) (S : Sto) : Res D := match a with
  | .tup l => .ok (.tup (cutL l lo hi)) S
  | .str s => if s.length ≤ LINE then .ok (.str (cutL s lo hi)) S else .bad
  | a => ixL (getL a S) fun l => .ok (.lst (cutL l lo hi)) S
def partF (f : Env → Sto → Res D) : Env → Sto → Res (Option Int) := fun env S => (f env S).bind fun d S1 => match d with
  | .int i => .ok (some i) S1
  | _ => .bad
def noPart : Env → Sto → Res (Option Int) := fun _ S => .ok none S
def SP' (X : Cx) (M : Lm) (W : WX) (e : Option Expr) (f : Env → Sto → Res (Option Int)) : Prop := PO X e (tG X.K M (fun _ a b => a = b) W f)
theorem sp_none : SP' X M W none noPart := ⟨fun pins s σ H Q I h => po_none.run pins s σ H Q I (by
  obtain ⟨env, z, rfl, k, v, h⟩ := h
  exact h z none rfl (Ext.refl z) k rfl)⟩
theorem sp_some {e : Expr} {f : Env → Sto → Res D} (h : SE X M W e f) : SP' X M W (some e) (partF f) := ⟨fun pins s σ H Q I hh => (po_some h).run pins s σ H Q I (by
  obtain ⟨env, z, rfl, k, v, hh⟩ := hh
  refine ⟨env, z, rfl, k, v, (Out.bind hh).imp fun b H1 q => ?_⟩
  obtain ⟨a, z1, rfl, _, x, k1, q, h1⟩ := q
  cases a with
  | int c => exact ⟨c, encA_int q, h1 z1 _ rfl (Ext.refl z1) k1 rfl⟩
  | _ => exact h1.elim)⟩
def rCut (K : PySem.W.Frag) (M : Lm) (W : WX) : V → Option Int → Option Int → Hp → VK → Prop := fun x lo hi H Q => ∃ z a σ, z.H = H ∧ SOk K M z ∧ EncA K M z a x ∧ Out K M (EncA K M) W σ z Q (cutD a lo hi z.S)
theorem cut_ok : SlR X (rCut X.K M W) := by
  intro pins s σ H x v vl vu lo hi sl Q I rx hs pl pu hh
  obtain ⟨z, a, σ', rfl, k, qa, h⟩ := hh
  have lists : ∀ l, getL a z.S = some l → cutD a lo hi z.S = .ok (.lst (cutL l lo hi)) z.S → ∃ T id, typeLookup (.type T) "__getitem__" = pure (some (.builtin id)) ∧ s.TypeIs v T ∧ wpAny (model X.prog X.w) X.A (getItem v (.ref sl)) (EP X pins σ Q) X.xe s := by
    intro l hl e
    rw [e] at h
    obtain ⟨p, vs, rfl, h1, h2⟩ := getL_ok k qa hl
    exact sl_list pins s σ z.H _ v vl vu lo hi sl Q I rx hs pl pu ⟨p, vs, rfl, h1, out_lst k (cut_enc h2 lo hi) h⟩
  cases a with
  | tup l =>
    have h' : Out X.K M (EncA X.K M) W σ' z Q (.ok (.tup (cutL l lo hi)) z.S) := h
    obtain ⟨p, vs, rfl, h1, h2⟩ := encA_tup qa
    refine sl_tupA pins s σ z.H _ v vl vu lo hi sl Q I rx hs pl pu ⟨p, vs, rfl, h1, fun c => ?_, fun _ => out_tup k (cut_enc h2 lo hi) h'⟩
    have e : cutL l lo hi = l := by
      unfold cutL
      rw [h2.length, c.1, c.2, Nat.sub_zero, ← h2.length]
      show (List.drop 0 l).take l.length = l
      rw [List.drop_zero, List.take_length]
    rw [e] at h'
    exact out_same k qa h'
  | str t =>
    have h' : Out X.K M (EncA X.K M) W σ' z Q (if t.length ≤ LINE then Res.ok (.str (cutL t lo hi)) z.S else .bad) := h
    by_cases c : t.length ≤ LINE
    · rw [if_pos c] at h'
      rw [encA_str qa] at rx
      refine sl_str pins s σ z.H _ v vl vu lo hi sl Q I rx hs pl pu ⟨_, rfl, by
        show t.toArray.size ≤ _
        rw [List.size_toArray, ← line_eq]
        exact c, ?_⟩
      have := out_str k h'
      unfold cutS
      show Q (.str ⟨((t.toArray.toList.drop (HT.sIx t.toArray.size 0 lo)).take (HT.sIx t.toArray.size t.toArray.size hi - HT.sIx t.toArray.size 0 lo)).toArray⟩) z.H
      rw [List.size_toArray, List.toList_toArray]
      exact this
    · rw [if_neg c] at h'
      exact h'.elim
  | lst l => exact lists l rfl rfl
  | ref n =>
    cases hl : getL (.ref n) z.S with
    | none =>
      have h' : Out X.K M (EncA X.K M) W σ' z Q (ixL (getL (.ref n) z.S) fun l => .ok (.lst (cutL l lo hi)) z.S) := h
      rw [hl] at h'
      exact h'.elim
    | some l => exact lists l hl (by
        show (ixL (getL (.ref n) z.S) fun l => Res.ok (.lst (cutL l lo hi)) z.S) = _
        rw [hl]
        rfl)
  | _ => exact h.elim
def sliceF (f : Env → Sto → Res D) (lo hi : Env → Sto → Res (Option Int)) : Env → Sto → Res D := fun env S => (f env S).bind fun a S1 => (lo env S1).bind fun l S2 => (hi env S2).bind fun h S3 => cutD a l h S3
theorem s_slice {e : Expr} {lo hi : Option Expr} {p2 pos : Pos} {f : Env → Sto → Res D} {fl fh : Env → Sto → Res (Option Int)} (he : SE X M W e f) (hl : SP' X M W lo fl) (hh : SP' X M W hi fh) : SE X M W (.Subscript e (.Slice lo hi none p2) pos) (sliceF f fl fh) := by
  refine pe_imp (pe_slice (cut_ok (M := M) (W := W)) he hl hh) fun σ H Q h => ?_
  obtain ⟨env, z, rfl, k, v, h⟩ := h
  refine ⟨env, z, rfl, k, v, (Out.bind h).imp fun b H1 q => ?_⟩
  obtain ⟨a, z1, rfl, _, x, k1, q, h1⟩ := q
  refine ⟨env, z1, rfl, k1, v.ext x, (Out.bind h1).imp fun b2 H2 q2 => ?_⟩
  obtain ⟨a2, z2, rfl, _, x2, k2, rfl, h2⟩ := q2
  refine ⟨env, z2, rfl, k2, (v.ext x).ext x2, (Out.bind h2).imp fun b3 H3 q3 => ?_⟩
  obtain ⟨a3, z3, rfl, _, x3, k3, rfl, h3⟩ := q3
  exact ⟨z3, a, σ, rfl, k3, (q.ext x2).ext x3, h3⟩
/-- xs[::-1] of a list -/
def revF (f : Env → Sto → Res D) : Env → Sto → Res D := fun env S => (f env S).bind fun a S1 => ixL (getL a S1) fun l => .ok (.lst l.reverse) S1
theorem s_rev {e : Expr} {kk : Nat} {p1 p2 p3 pos : Pos} {f : Env → Sto → Res D} (he : SE X M W e f) : SE X M W (.Subscript e (.Slice none none (some (.UnaryOp .USub (.Constant (.int 1) kk p1) p2)) p3) pos) (revF f) := by
  refine pe_imp (pe_revL he) fun σ H Q h => ?_
  obtain ⟨env, z, rfl, k, v, h⟩ := h
  refine ⟨env, z, rfl, k, v, (Out.bind h).imp fun b H1 q => ?_⟩
  obtain ⟨a, z1, rfl, _, x, k1, q, h1⟩ := q
  cases r : getL a z1.S with
  | none =>
    rw [r] at h1
    exact h1.elim
  | some l =>
    rw [r] at h1
    obtain ⟨p, vs, rfl, g1, g2⟩ := getL_ok k1 q r
    exact ⟨p, vs, rfl, g1, out_lst k1 g2.rev h1⟩
/-! ### a[i] = v -/
def putP : List (D × D) → D → D → List (D × D)
  | [], k, v => [(k, v)]
  | (a, b) :: l, k, v => if a = k then (a, v) :: l else (a, b) :: putP l k v
/-- the keys are unlike -/
def keysOk : List (D × D) → Bool
  | [] => true
  | (a, _) :: l => decide (lookD l a = none) && keysOk l
def setIn (n : Nat) (i w : D) (S1 : Sto) : Res Unit := match S1[n]? with
  | some (.lst false l) => match i with
    | .int k => match ixN l.length k with
      | some j => .ok () (S1.set n (.lst false (l.set j w)))
      | none => .bad
    | _ => .bad
  | some (.dic false l) => match dkey i with
    | some _ => if (keysOk l && decide (l.length < LINE)) = true then .ok () (S1.set n (.dic false (putP l i w))) else .bad
    | none => .bad
  | _ => .bad
def setD (a i v : D) (S : Sto) : Res Unit := match a with
  | .ref n => (frz1 v S).bind (setIn n i)
  | _ => .bad
theorem look_any {H : Hp} {ow : Addr → Prop} {k : D} {q : Key} (hk : dkey k = some q) {l : List (D × D)} {kvs : List (Key × V)} (h : EncP K M H ow l kvs) : (kvs.any fun kv => decide (kv.1 = q)) = (lookD l k).isSome := by
  rw [valV_any]
  have := lookD_enc hk h
  cases r : lookD l k with
  | none => rw [this.2 r]; rfl
  | some d =>
    obtain ⟨v, h1, _⟩ := this.1 d r
    rw [h1]
    rfl
theorem map_same {q : Key} {y : V} : ∀ {kvs : List (Key × V)}, valV kvs q = none → kvs.map (fun kv => if kv.1 = q then (kv.1, y) else kv) = kvs
  | [], _ => rfl
  | p :: r, h => by
    by_cases c : p.1 = q
    · rw [valV_pos c] at h
      cases h
    · rw [valV_neg c] at h
      rw [List.map_cons, if_neg c, map_same h]
theorem putP_enc {H : Hp} {ow : Addr → Prop} {k w : D} {q : Key} {y : V} (hk : dkey k = some q) (hw : Enc K M H ow w y) : ∀ {l : List (D × D)} {kvs : List (Key × V)}, EncP K M H ow l kvs → keysOk l = true → EncP K M H ow (putP l k w) (putK kvs q y)
  | _, _, .nil, _ => .cons hk hw .nil
  | _, _, .cons (k := k0) (d := d0) (q := q0) (v := v0) (l := l) (vs := kvs) h0 e t, ok => by
    have ok' : lookD l k0 = none ∧ keysOk l = true := by
      unfold keysOk at ok
      rw [Bool.and_eq_true] at ok
      exact ⟨of_decide_eq_true ok.1, ok.2⟩
    have ih := putP_enc hk hw t ok'.2
    by_cases c : k0 = k
    · subst c
      rw [hk] at h0
      cases h0
      unfold putP putK
      rw [if_pos rfl, List.any_cons, decide_eq_true (show (q, v0).1 = q from rfl), Bool.true_or, if_pos rfl, List.map_cons, if_pos rfl, map_same ((lookD_enc hk t).2 ok'.1)]
      exact .cons hk hw t
    · have nq : ¬ (q0, v0).1 = q := fun r => by
        have r' : q0 = q := r
        subst r'
        exact c (dkey_inj h0 hk)
      have e2 : putK ((q0, v0) :: kvs) q y = (q0, v0) :: putK kvs q y := by
        unfold putK
        rw [List.any_cons, decide_eq_false nq, Bool.false_or]
        split
        · rw [List.map_cons, if_neg nq]
        · rfl
      unfold putP
      rw [if_neg c, e2]
      exact .cons h0 e ih
theorem encP_length {H : Hp} {ow : Addr → Prop} : ∀ {l : List (D × D)} {kvs : List (Key × V)}, EncP K M H ow l kvs → l.length = kvs.length
  | _, _, .nil => rfl
  | _, _, .cons _ _ t => by rw [List.length_cons, List.length_cons, encP_length t]
theorem putP_len : ∀ (l : List (D × D)) (k v : D), (putP l k v).length ≤ l.length + 1
  | [], _, _ => Nat.le_refl _
  | (a, b) :: l, k, v => by
    unfold putP
    split
    · exact Nat.le_succ _
    · rw [List.length_cons, List.length_cons]
      have := putP_len l k v
      omega
def rPut (K : PySem.W.Frag) (M : Lm) (W : WX) : TSet := fun o i v H Q => ∃ z a b c σ, z.H = H ∧ SOk K M z ∧ EncA K M z a o ∧ EncA K M z b i ∧ EncA K M z c v ∧ Out K M (fun _ (_ : Unit) (_ : Unit) => True) W σ z (fun _ H => Q H) (setD a b c z.S)
theorem put_ok (hu : X.A.units + 1 < cLine) : PSet X (rPut X.K M W) := by
  intro pins s σ H o i v ov iv u Q I ro ri rv hh
  obtain ⟨z, a, b, c, σ', rfl, k, qa, qb, qc, h⟩ := hh
  cases a with
  | ref n =>
    have h0 : Out X.K M (fun _ (_ : Unit) (_ : Unit) => True) W σ' z (fun _ H => Q H) ((frz1 c z.S).bind (setIn n b)) := h
    clear h
    cases rf : frz1 c z.S with
    | bad =>
      rw [rf] at h0
      exact h0.elim
    | ex _ _ => exact absurd rf frz1_nex
    | ok w S1 =>
      rw [rf] at h0
      obtain ⟨z1, e1, e2, x1, k1, q1⟩ := frz1_ok k qc rf
      subst e2
      have qa1 := qa.ext x1
      have qb1 := qb.ext x1
      have h1 := Out.rebase x1 h0
      dsimp only [Res.bind] at h1
      unfold setIn at h1
      rw [← e1] at I
      cases hn : z1.S[n]? with
      | none =>
        rw [hn] at h1
        exact h1.elim
      | some u =>
        rw [hn] at h1
        cases u with
        | arr l => exact h1.elim
        | lst fz l =>
          cases fz with
          | true => exact h1.elim
          | false =>
            dsimp only at h1
            cases b with
            | int j =>
              dsimp only at h1
              cases hj : ixN l.length j with
              | none =>
                rw [hj] at h1
                exact h1.elim
              | some m =>
                rw [hj] at h1
                obtain ⟨p, vs, rfl, hp, hv, hl⟩ := ref_lst k1 qa1 hn
                rw [encA_int qb1] at ri
                have hx := ext_wrt (o := .lst (vs.set m v)) (b := .lst false (l.set m w)) k1 hn hp rfl
                refine set_list pins s σ z1.H _ _ v ov iv _ Q I ro ri rv ⟨p, vs, j, m, rfl, rfl, hv, by rw [← hl.length]; exact hj, ?_⟩
                exact h1 (z1.wrt n p (.lst (vs.set m v)) (.lst false (l.set m w))) () rfl hx (sok_wrt k1 hn hp rfl ⟨vs.set m v, upd_same, (hl.set q1 m).mv hx.mv⟩) trivial
            | _ => exact h1.elim
        | dic fz l =>
          cases fz with
          | true => exact h1.elim
          | false =>
            dsimp only at h1
            cases hk : dkey b with
            | none =>
              rw [hk] at h1
              exact h1.elim
            | some q =>
              rw [hk] at h1
              dsimp only at h1
              by_cases ck : (keysOk l && decide (l.length < LINE)) = true
              · rw [if_pos ck] at h1
                rw [Bool.and_eq_true] at ck
                obtain ⟨p, kvs, rfl, hp, hv, hl⟩ := ref_dic k1 qa1 hn
                have ei : i = kV q := key_enc qb1 hk
                subst ei
                have hx := ext_wrt (o := .dK (putK kvs q v)) (b := .dic false (putP l b w)) k1 hn hp rfl
                obtain rfl : ov = Value.ref p := ro
                refine d_setItem hu I (DPut.k (v := v) hv (by
                  rw [← encP_length hl, ← line_eq]
                  exact of_decide_eq_true ck.2)) ri rv fun s4 I4 => ⟨_, I4, ?_⟩
                exact h1 (z1.wrt n p (.dK (putK kvs q v)) (.dic false (putP l b w))) () rfl hx (sok_wrt k1 hn hp rfl ⟨putK kvs q v, upd_same, (putP_enc hk q1 hl ck.1).mv hx.mv⟩) trivial
              · rw [if_neg ck] at h1
                exact h1.elim
  | _ => exact h.elim
def putF (o i e : Env → Sto → Res D) : Env → Sto → SR := fun env S => (e env S).thn env fun v S1 => (o env S1).thn env fun a S2 => (i env S2).thn env fun b S3 => (setD a b v S3).thn env fun _ S4 => .nx env S4
theorem ss_put {o i e : Expr} {pos pos' : Pos} {fo fi fe : Env → Sto → Res D} (hu : X.A.units + 1 < cLine) (ho : SE X M W o fo) (hi : SE X M W i fi) (he : SE X M W e fe)
    (ha : ∀ v, assign (.Subscript o i pos') X.env v = (do
      let ov ← holding [v] (eval o X.env)
      let iv ← holding [v, ov] (eval i X.env)
      standAt pos'
      holding [v, ov, iv] (setItem ov iv v)
      release [v, ov, iv] []) := by intro _; rfl)
    (hs : swapsWithSole [.Subscript o i pos'] e pos.line X.env = pure false := by rfl) (hw : swappedStores [.Subscript o i pos'] e X.env = pure none := by rfl)
    (h1 : (assignEach [.Subscript o i pos'] X.env).map (·.2) = [assign (.Subscript o i pos') X.env] := by rfl) : SS X M W (.Assign [.Subscript o i pos'] e pos) (putF fo fi fe) := by
  refine ps_imp (ps_asg he (pg_sub ho hi (put_ok (M := M) (W := W) hu) ha) hs hw h1) fun D σ H h => ?_
  obtain ⟨env, z, rfl, k, v, h⟩ := h
  refine ⟨env, z, rfl, k, v, (Out.thn v h).imp fun b H1 q => ?_⟩
  obtain ⟨a1, z1, rfl, _, x1, k1, q1, v1, h1⟩ := q
  refine ⟨env, z1, rfl, k1, v1, (Out.thn v1 h1).imp fun b H2 q => ?_⟩
  obtain ⟨a2, z2, rfl, _, x2, k2, q2, v2, h2⟩ := q
  refine ⟨env, z2, rfl, k2, v2, (Out.thn v2 h2).imp fun b H3 q => ?_⟩
  obtain ⟨a3, z3, rfl, _, x3, k3, q3, v3, h3⟩ := q
  refine ⟨z3, a2, a3, a1, σ, rfl, k3, q2.ext x3, q3, (q1.ext x2).ext x3, (Out.thn v3 h3).imp fun b H4 q => ?_⟩
  obtain ⟨a4, z4, rfl, _, x4, k4, _, v4, h4⟩ := q
  exact h4 z4 σ rfl (Ext.refl z4) k4 v4
end
end Sm
/-! Sm11: what is walked; methods. -/
namespace Sm
open PySem PySem.Spec PyProof.Rows L2
section
variable {X : Cx} {M : Lm} {W : WX} {K : PySem.W.Frag} {z : Sg}
/-! ### what is walked: any sequence -/
def sgL (s : List Nat) : List D := s.map fun c => .str [c]
def itS (f : Env → Sto → Res D) : Env → Sto → Res Itm := fun env S => (f env S).bind fun d S1 => match d with
  | .lst l => .ok ⟨l, none, none⟩ S1
  | .tup l => .ok ⟨l, none, none⟩ S1
  | .str s => .ok ⟨sgL s, none, none⟩ S1
  | .ref n => match S1[n]? with
    | some (.lst fz l) => .ok ⟨l, some n, some (.lst fz l)⟩ S1
    | _ => .bad
  | _ => .bad
def iSeq (K : PySem.W.Frag) (te : TE) : TI := fun σ H R => te σ H fun v H1 => (∃ a, v = .ref a ∧ (∃ xs, SqL K H1 a xs) ∧ R (Itl K a) H1) ∨ (∃ a, v = .ref a ∧ (∃ xs, SqT K H1 a xs) ∧ R (Itt K a) H1) ∨ (∃ x, v = .str x ∧ R (Its x) H1)
theorem pi_seq {tg l : Expr} {tl : TE} (hl : PE X l tl) : PI X tg l (iSeq X.K tl) := by
  refine ⟨fun pins s σ H R I h => ?_⟩
  refine thn (hl.run pins s σ H _ I h) fun v s1 ⟨x, H1, I1, r1, q1⟩ => ?_
  rcases q1 with ⟨a, e, ⟨xs, hq⟩, q⟩ | ⟨a, e, ⟨xs, hq⟩, q⟩ | ⟨y, e, q⟩
  · subst e
    cases r1
    obtain ⟨its, rv, p, hz⟩ := I1.list hq
    refine wpAny_pyIter_list p.isList ⟨s1.heap.objs.size, [s1.heap.objs.size], _, _, H1, rfl, I1.kept (t' := s1.toks) fun b o e => Heap.get?_push_of_some _ e, turn_list a _, ⟨_, Heap.get?_push_size _ rfl, rfl, rfl⟩, fun b hb => ?_, q⟩
    have e : b = s1.heap.objs.size := by simpa using hb
    subst e
    exact I1.fpOk (Nat.le_refl _) (I1.hok.fresh (Nat.le_refl _))
  · subst e
    cases r1
    obtain ⟨its, rv, p, hz⟩ := I1.tuple hq
    refine wpAny_pyIter_tuple (show s1.heap.IsTuple a its.toArray from p) ⟨s1.heap.objs.size, [s1.heap.objs.size], _, _, H1, rfl, I1.kept (t' := s1.toks) fun b o e => Heap.get?_push_of_some _ e, turn_tuple a _, ⟨_, Heap.get?_push_size _ rfl, rfl, rfl⟩, fun b hb => ?_, q⟩
    have e : b = s1.heap.objs.size := by simpa using hb
    subst e
    exact I1.fpOk (Nat.le_refl _) (I1.hok.fresh (Nat.le_refl _))
  · subst e
    obtain ⟨t, rfl⟩ := r1
    cases ha : y.cps.all (· < 128)
    · exact wpAny_pyIter_wide ha (pi_one (tk := s1.toks) I1 _ (turn_str _ y t "str_iterator" (.inr rfl)) ⟨_, Heap.get?_push_size _ rfl, rfl, rfl⟩ q)
    · exact wpAny_pyIter_ascii ha (pi_one (tk := s1.toks) I1 _ (turn_str _ y t "str_ascii_iterator" (.inl rfl)) ⟨_, Heap.get?_push_size _ rfl, rfl, rfl⟩ q)
theorem sgL_get {s : List Nat} {i : Nat} {d : D} (h : (sgL s)[i]? = some d) : ∃ c, s[i]? = some c ∧ d = .str [c] := by
  unfold sgL at h
  rw [List.getElem?_map] at h
  cases r : s[i]? with
  | none =>
    rw [r] at h
    cases h
  | some c =>
    rw [r] at h
    exact ⟨c, rfl, (Option.some.inj h).symm⟩
theorem si_seq {tg e : Expr} {f : Env → Sto → Res D} (h : SE X M W e f) : SI X M W tg e (itS f) := by
  refine ⟨fun pins s σ H R I q => (pi_seq h).run pins s σ H R I ?_⟩
  obtain ⟨env, z, rfl, k, v, h⟩ := q
  refine ⟨env, z, rfl, k, v, (Out.bind h).imp fun b H1 q => ?_⟩
  obtain ⟨d, z1, rfl, _, x, k1, q, h1⟩ := q
  cases d with
  | lst l =>
    cases q with
    | of q =>
      cases q with
      | lst r hl =>
        rename_i a vs
        refine .inl ⟨a, rfl, ⟨vs, r.rl.sq⟩, h1 z1 _ rfl (Ext.refl _) k1 ⟨fun n z => (by cases z), fun z2 x2 k2 _ i => ?_⟩⟩
        have q1 : SqL X.K z2.H a vs := (x2.mv.rl r).rl.sq
        have q2 := hl.mv x2.mv
        refine ⟨fun d hd => ?_, fun hi => ⟨vs, q1, by rw [← q2.length]; exact hi⟩⟩
        obtain ⟨w, w1, w2⟩ := q2.get hd
        refine ⟨⟨vs, w, q1, w1⟩, fun u H3 y => ?_⟩
        obtain ⟨rfl, y⟩ := y
        have e2 : u = w := Option.some.inj ((y vs q1).symm.trans w1)
        subst e2
        exact ⟨z2, rfl, rfl, Ext.refl _, k2, .of w2⟩
  | tup l =>
    cases q with
    | of q =>
      cases q with
      | tup r hl =>
        rename_i a vs
        refine .inr (.inl ⟨a, rfl, ⟨vs, r⟩, h1 z1 _ rfl (Ext.refl _) k1 ⟨fun n z => (by cases z), fun z2 x2 k2 _ i => ?_⟩⟩)
        have q1 := x2.mv.sqT r
        have q2 := hl.mv x2.mv
        refine ⟨fun d hd => ?_, fun hi => ⟨vs, q1, by rw [← q2.length]; exact hi⟩⟩
        obtain ⟨w, w1, w2⟩ := q2.get hd
        refine ⟨⟨vs, w, q1, w1⟩, fun u H3 y => ?_⟩
        obtain ⟨rfl, y⟩ := y
        have e2 : u = w := Option.some.inj ((y vs q1).symm.trans w1)
        subst e2
        exact ⟨z2, rfl, rfl, Ext.refl _, k2, .of w2⟩
  | str t =>
    refine .inr (.inr ⟨_, encA_str q, h1 z1 _ rfl (Ext.refl _) k1 ⟨fun n z => (by cases z), fun z2 x2 k2 _ i => ?_⟩⟩)
    refine ⟨fun d hd => ?_, fun hi => ?_⟩
    · obtain ⟨c, hc, rfl⟩ := sgL_get hd
      have hlt : i < t.length := (List.getElem?_eq_some_iff.mp hc).1
      refine ⟨by
        show i < t.toArray.size
        rw [List.size_toArray]
        exact hlt, fun u H3 y => ?_⟩
      obtain ⟨rfl, c', y, rfl⟩ := y
      have y' : t.toArray[i]? = some c' := y
      rw [List.getElem?_toArray, hc] at y'
      cases y'
      exact ⟨z2, rfl, rfl, Ext.refl _, k2, .of (.str [c])⟩
    · show t.toArray.size ≤ i
      rw [List.size_toArray]
      have hi' : (sgL t).length ≤ i := hi
      unfold sgL at hi'
      rw [List.length_map] at hi'
      exact hi'
  | ref n =>
    have h1' : Out X.K M _ W σ z1 R (match z1.S[n]? with
      | some (.lst fz l) => Res.ok ⟨l, some n, some (.lst fz l)⟩ z1.S
      | _ => Res.bad : Res Itm) := h1
    cases r : z1.S[n]? with
    | none =>
      rw [r] at h1'
      exact h1'.elim
    | some o =>
      rw [r] at h1'
      cases o with
      | dic fz l => exact h1'.elim
      | arr l => exact h1'.elim
      | lst fz l =>
        obtain ⟨a, vs, rfl, ha, hv, hl⟩ := ref_lst k1 q r
        have en : z1.R[n]? = some a := ha
        refine .inl ⟨a, rfl, ⟨vs, SqL.of hv⟩, h1' z1 _ rfl (Ext.refl _) k1 ⟨fun m e => (by
          cases e
          exact r), fun z2 x2 k2 ok2 i => ?_⟩⟩
        obtain ⟨vs2, hv2, hl2⟩ := k2.obj n _ a (ok2 n rfl) (x2.rAt en)
        refine ⟨fun d hd => ?_, fun hi => ⟨vs2, SqL.of hv2, by rw [← hl2.length]; exact hi⟩⟩
        obtain ⟨w, w1, w2⟩ := hl2.get hd
        refine ⟨⟨vs2, w, SqL.of hv2, w1⟩, fun u H3 y => ?_⟩
        obtain ⟨rfl, y⟩ := y
        have e2 : u = w := Option.some.inj ((y vs2 (SqL.of hv2)).symm.trans w1)
        subst e2
        exact ⟨z2, rfl, rfl, Ext.refl _, k2, .of w2⟩
  | _ => exact h1.elim
/-- range(a, b, c) -/
def itR3 (f : Env → Sto → Res (List D)) : Env → Sto → Res Itm := fun env S => (f env S).bind fun d S1 => match d with
  | [.int i, .int j, .int c] => if (decide (c ≠ 0) && (decide (c.natAbs < 1073741824) && Builtin.Range.small i j c)) = true then .ok ⟨stepL i c (Builtin.Range.rangeSize i j c).toNat, none, none⟩ S1 else .bad
  | _ => .bad
where stepL (i c : Int) : Nat → List D
  | 0 => []
  | n + 1 => .int i :: stepL (i + c) c n
theorem stepL_get (n : Nat) : ∀ (lo c : Int) (i : Nat) (d : D), (itR3.stepL lo c n)[i]? = some d → i < n ∧ d = .int (lo + i * c) := by
  induction n with
  | zero =>
    intro lo c i d h
    simp [itR3.stepL] at h
  | succ n ih =>
    intro lo c i d h
    cases i with
    | zero =>
      simp [itR3.stepL] at h
      subst h
      exact ⟨Nat.succ_pos n, by simp⟩
    | succ i =>
      simp [itR3.stepL] at h
      obtain ⟨h1, h2⟩ := ih (lo + c) c i d h
      refine ⟨by omega, ?_⟩
      rw [h2]
      congr 1
      have : ((i + 1 : Nat) : Int) * c = i * c + c := by
        rw [Int.natCast_add, Int.add_mul]
        simp
      omega
theorem stepL_length (n : Nat) : ∀ lo c : Int, (itR3.stepL lo c n).length = n := by
  induction n with
  | zero => intro lo c; rfl
  | succ n ih => intro lo c; rw [itR3.stepL, List.length_cons, ih]

theorem stepR_ok {z1 : Sg} (lo c : Int) (n : Nat) : ItOk K M z1 (Itc lo c n) ⟨itR3.stepL lo c n, none, none⟩ := fun z2 x2 k2 _ i => by
  refine ⟨fun d hd => ?_, fun hi => by
    rw [stepL_length] at hi
    exact hi⟩
  obtain ⟨h1, h2⟩ := stepL_get n lo c i d hd
  refine ⟨h1, fun u H3 y => ?_⟩
  obtain ⟨rfl, rfl⟩ := y
  exact ⟨z2, rfl, rfl, Ext.refl _, k2, by
    rw [h2]
    exact .of (.int _)⟩
theorem size_nonneg {i j c : Int} : 0 ≤ Builtin.Range.rangeSize i j c := by
  unfold Builtin.Range.rangeSize
  split
  · split
    · rename_i h1 h2
      have := Int.ediv_nonneg (show 0 ≤ j - i - 1 by omega) (show 0 ≤ c by omega)
      omega
    · exact Int.le_refl _
  · split
    · rename_i h1 h2
      have := Int.ediv_nonneg (show 0 ≤ i - j - 1 by omega) (show 0 ≤ -c by omega)
      omega
    · exact Int.le_refl _
theorem si_range3 {tg a b c : Expr} {p pos : Pos} {f : Env → Sto → Res (List D)} (ha : SA X M W [a, b, c] f) (hm : X.mg "range" = none) (hg : Gl X "range" := by rfl) (hs : starEach [a, b, c] X.env = (false, eval a X.env) :: starEach [b, c] X.env := by rfl)
    (hpl : (backTo pos (starEach [b, c] X.env)).any (·.1) = false := by rfl) : SI X M W tg (.Call (.Name "range" p) [a, b, c] [] pos) (itR3 f) := by
  refine ⟨fun pins s σ H R I q => (pi_range3 hg hm ha hs hpl).run pins s σ H R I ?_⟩
  obtain ⟨env, z, rfl, k, v, h⟩ := q
  refine ⟨env, z, rfl, k, v, (Out.bind h).imp fun b H1 q => ?_⟩
  obtain ⟨d, z1, rfl, _, x, k1, q, h1⟩ := q
  match d, q, h1 with
  | [.int i, .int j, .int c], q, h1 =>
    obtain ⟨w1, w2, w3, rfl, e1, e2, e3⟩ := encAs3 q
    rw [encA_int e1, encA_int e2, encA_int e3]
    have h1' : Out X.K M _ W σ z1 R (if (decide (c ≠ 0) && (decide (c.natAbs < 1073741824) && Builtin.Range.small i j c)) = true then Res.ok (⟨itR3.stepL i c (Builtin.Range.rangeSize i j c).toNat, none, none⟩ : Itm) z1.S else Res.bad) := h1
    by_cases cc : (decide (c ≠ 0) && (decide (c.natAbs < 1073741824) && Builtin.Range.small i j c)) = true
    · rw [if_pos cc] at h1'
      rw [Bool.and_eq_true, Bool.and_eq_true] at cc
      exact ⟨i, j, c, _, rfl, ⟨of_decide_eq_true cc.1, of_decide_eq_true cc.2.1, cc.2.2, (Int.toNat_of_nonneg size_nonneg).symm⟩, h1' z1 _ rfl (Ext.refl _) k1 ⟨fun n z => (by cases z), stepR_ok i c _⟩⟩
    · rw [if_neg cc] at h1'
      exact h1'.elim
/-! ### enumerate, zip -/
def enumL : Nat → List D → List D
  | _, [] => []
  | n, d :: l => .tup [.int n, d] :: enumL (n + 1) l
theorem enumL_get : ∀ (l : List D) (n i : Nat) (d : D), (enumL n l)[i]? = some d → ∃ x, l[i]? = some x ∧ d = .tup [.int (n + i : Nat), x]
  | [], n, i, d, h => by simp [enumL] at h
  | y :: l, n, 0, d, h => by
    simp [enumL] at h
    exact ⟨y, rfl, by rw [← h]; rfl⟩
  | y :: l, n, i + 1, d, h => by
    simp only [enumL, List.getElem?_cons_succ] at h
    obtain ⟨x, h1, h2⟩ := enumL_get l (n + 1) i d h
    refine ⟨x, by simpa using h1, ?_⟩
    rw [h2, show n + 1 + i = n + (i + 1) by omega]
theorem enumL_length : ∀ (l : List D) (n : Nat), (enumL n l).length = l.length
  | [], _ => rfl
  | _ :: l, n => by rw [enumL, List.length_cons, List.length_cons, enumL_length l (n + 1)]
/-- the new pair of a turn -/
theorem pair_new {z2 : Sg} {T : Addr} {a b : D} {x y : V} (np : z2.H T = none) (k2 : SOk K M z2) (ha : Enc K M z2.H z2.ow a x) (hb : Enc K M z2.H z2.ow b y) :
    ∃ z3, z3.H = upd z2.H T (.tup [x, y]) ∧ z3.S = z2.S ∧ Ext z2 z3 ∧ SOk K M z3 ∧ EncA K M z3 (.tup [a, b]) (.ref T) :=
  ⟨z2.put T (.tup [x, y]), rfl, rfl, ext_put np k2, sok_put np k2, .of (.tup (SqT.of at_put) ((EncL.cons ha (.cons hb .nil)).mv (ext_put np k2).mv))⟩
def itE (f : Env → Sto → Res (List D)) : Env → Sto → Res Itm := fun env S => (f env S).bind fun d S1 => match d with
  | [.lst l] => .ok ⟨enumL 0 l, none, none⟩ S1
  | [.ref n] => match S1[n]? with
    | some (.lst fz l) => .ok ⟨enumL 0 l, some n, some (.lst fz l)⟩ S1
    | _ => .bad
  | _ => .bad
theorem encA_lst {l : List D} {v : V} (q : EncA K M z (.lst l) v) : ∃ a vs, v = .ref a ∧ RL K z.H z.ow a vs ∧ EncL K M z.H z.ow l vs := by
  cases q with
  | of q =>
    cases q with
    | lst r hl => exact ⟨_, _, rfl, r, hl⟩
theorem si_enum {e : Expr} {p pos tpos : Pos} {elts : List Expr} {kk : Nat} {f : Env → Sto → Res (List D)} (ha : SA X M W [e] f) (hm : X.mg "enumerate" = none) (hg : Gl X "enumerate" := by rfl) (hs : starEach [e] X.env = [(false, eval e X.env)] := by rfl) :
    SI X M W (.Tuple elts kk tpos) (.Call (.Name "enumerate" p) [e] [] pos) (itE f) := by
  refine ⟨fun pins s σ H R I q => (pi_enum hg hm ha hs).run pins s σ H R I ?_⟩
  obtain ⟨env, z, rfl, k, v, h⟩ := q
  refine ⟨env, z, rfl, k, v, (Out.bind h).imp fun b H1 q => ?_⟩
  obtain ⟨d, z1, rfl, _, x, k1, q, h1⟩ := q
  match d, q, h1 with
  | [.lst l], q, h1 =>
    obtain ⟨w, rfl, e⟩ := encAs1 q
    obtain ⟨a, vs, rfl, r, hl⟩ := encA_lst e
    refine ⟨a, vs, rfl, r.rl.sq, h1 z1 _ rfl (Ext.refl _) k1 ⟨fun n z => (by cases z), fun z2 x2 k2 _ i => ?_⟩⟩
    have q1 : SqL X.K z2.H a vs := (x2.mv.rl r).rl.sq
    have q2 := hl.mv x2.mv
    refine ⟨fun d hd => ?_, fun hi => ⟨vs, q1, by
      have hi' : (enumL 0 l).length ≤ i := hi
      rw [enumL_length] at hi'
      rw [← q2.length]
      exact hi'⟩⟩
    obtain ⟨y, hy, rfl⟩ := enumL_get l 0 i d hd
    obtain ⟨w, w1, w2⟩ := q2.get hy
    refine ⟨⟨vs, w, q1, w1⟩, fun u H3 y => ?_⟩
    obtain ⟨T, x', rfl, np, rfl, y⟩ := y
    have e2 : x' = w := Option.some.inj ((y vs q1).symm.trans w1)
    subst e2
    rw [Nat.zero_add]
    exact pair_new np k2 (.int _) w2
  | [.ref n], q, h1 =>
    obtain ⟨w, rfl, e⟩ := encAs1 q
    have h1' : Out X.K M _ W σ z1 R (match z1.S[n]? with
      | some (.lst fz l) => Res.ok ⟨enumL 0 l, some n, some (.lst fz l)⟩ z1.S
      | _ => Res.bad : Res Itm) := h1
    cases r : z1.S[n]? with
    | none =>
      rw [r] at h1'
      exact h1'.elim
    | some o =>
      rw [r] at h1'
      cases o with
      | dic fz l => exact h1'.elim
      | arr l => exact h1'.elim
      | lst fz l =>
        obtain ⟨a, vs, rfl, ha, hv, hl⟩ := ref_lst k1 e r
        have en : z1.R[n]? = some a := ha
        refine ⟨a, vs, rfl, SqL.of hv, h1' z1 _ rfl (Ext.refl _) k1 ⟨fun m e => (by
          cases e
          exact r), fun z2 x2 k2 ok2 i => ?_⟩⟩
        obtain ⟨vs2, hv2, hl2⟩ := k2.obj n _ a (ok2 n rfl) (x2.rAt en)
        refine ⟨fun d hd => ?_, fun hi => ⟨vs2, SqL.of hv2, by
          have hi' : (enumL 0 l).length ≤ i := hi
          rw [enumL_length] at hi'
          rw [← hl2.length]
          exact hi'⟩⟩
        obtain ⟨y, hy, rfl⟩ := enumL_get l 0 i d hd
        obtain ⟨w, w1, w2⟩ := hl2.get hy
        refine ⟨⟨vs2, w, SqL.of hv2, w1⟩, fun u H3 y => ?_⟩
        obtain ⟨T, x', rfl, np, rfl, y⟩ := y
        have e2 : x' = w := Option.some.inj ((y vs2 (SqL.of hv2)).symm.trans w1)
        subst e2
        rw [Nat.zero_add]
        exact pair_new np k2 (.int _) w2
/-- zip of two trees -/
def zipL : List D → List D → List D
  | a :: l, b :: r => .tup [a, b] :: zipL l r
  | _, _ => []
theorem zipL_get : ∀ (l r : List D) (i : Nat) (d : D), (zipL l r)[i]? = some d → ∃ x y, l[i]? = some x ∧ r[i]? = some y ∧ d = .tup [x, y]
  | [], r, i, d, h => by simp [zipL] at h
  | _ :: _, [], i, d, h => by simp [zipL] at h
  | a :: l, b :: r, 0, d, h => by
    simp [zipL] at h
    exact ⟨a, b, rfl, rfl, h.symm⟩
  | a :: l, b :: r, i + 1, d, h => by
    simp only [zipL, List.getElem?_cons_succ] at h ⊢
    exact zipL_get l r i d h
theorem zipL_length : ∀ (l r : List D) (i : Nat), (zipL l r).length ≤ i → l.length ≤ i ∨ r.length ≤ i
  | [], r, i, _ => .inl (Nat.zero_le _)
  | _ :: _, [], i, _ => .inr (Nat.zero_le _)
  | a :: l, b :: r, i, h => by
    rw [zipL, List.length_cons] at h
    rcases zipL_length l r (i - 1) (by omega) with q | q
    · exact .inl (by rw [List.length_cons]; omega)
    · exact .inr (by rw [List.length_cons]; omega)
def itZ (f : Env → Sto → Res (List D)) : Env → Sto → Res Itm := fun env S => (f env S).bind fun d S1 => match d with
  | [.lst l, .lst r] => .ok ⟨zipL l r, none, none⟩ S1
  | [.tup l, .tup r] => .ok ⟨zipL l r, none, none⟩ S1
  | _ => .bad
theorem si_zip {e e2 : Expr} {p pos tpos : Pos} {elts : List Expr} {kk : Nat} {f : Env → Sto → Res (List D)} (ha : SA X M W [e, e2] f) (hm : X.mg "zip" = none) (hg : Gl X "zip" := by rfl)
    (hs : starEach [e, e2] X.env = (false, eval e X.env) :: starEach [e2] X.env := by rfl) (hpl : (backTo pos (starEach [e2] X.env)).any (·.1) = false := by rfl) :
    SI X M W (.Tuple elts kk tpos) (.Call (.Name "zip" p) [e, e2] [] pos) (itZ f) := by
  refine ⟨fun pins s σ H R I q => (RZ.pi_zipA hg hm ha hs hpl).run pins s σ H R I ?_⟩
  obtain ⟨env, z, rfl, k, v, h⟩ := q
  refine ⟨env, z, rfl, k, v, (Out.bind h).imp fun b H1 q => ?_⟩
  obtain ⟨d, z1, rfl, _, x, k1, q, h1⟩ := q
  match d, q, h1 with
  | [.lst l, .lst r], q, h1 =>
    obtain ⟨w, w', rfl, e, e'⟩ := encAs2 q
    obtain ⟨a, vs, rfl, r1, hl⟩ := encA_lst e
    obtain ⟨a', vs', rfl, r2, hl'⟩ := encA_lst e'
    refine ⟨a, a', vs, vs', rfl, .inl ⟨r1.rl.sq, r2.rl.sq, h1 z1 _ rfl (Ext.refl _) k1 ⟨fun n z => (by cases z), fun z2 x2 k2 _ i => ?_⟩⟩⟩
    have q1 : SqL X.K z2.H a vs := (x2.mv.rl r1).rl.sq
    have q1' : SqL X.K z2.H a' vs' := (x2.mv.rl r2).rl.sq
    have q2 := hl.mv x2.mv
    have q2' := hl'.mv x2.mv
    refine ⟨fun d hd => ?_, fun hi => ⟨vs, vs', q1, q1', by
      rw [← q2.length, ← q2'.length]
      exact zipL_length l r i hi⟩⟩
    obtain ⟨y, y', hy, hy', rfl⟩ := zipL_get l r i d hd
    obtain ⟨w, w1, w2⟩ := q2.get hy
    obtain ⟨w', w1', w2'⟩ := q2'.get hy'
    refine ⟨⟨vs, vs', w, w', q1, q1', w1, w1'⟩, fun u H3 y => ?_⟩
    obtain ⟨T, x1, x2, rfl, np, rfl, y1, y2⟩ := y
    have e2 : x1 = w := Option.some.inj ((y1 vs q1).symm.trans w1)
    have e2' : x2 = w' := Option.some.inj ((y2 vs' q1').symm.trans w1')
    subst e2
    subst e2'
    exact pair_new np k2 w2 w2'
  | [.tup l, .tup r], q, h1 =>
    obtain ⟨w, w', rfl, e, e'⟩ := encAs2 q
    obtain ⟨a, vs, rfl, r1, hl⟩ := encA_tup e
    obtain ⟨a', vs', rfl, r2, hl'⟩ := encA_tup e'
    refine ⟨a, a', vs, vs', rfl, .inr ⟨r1, r2, h1 z1 _ rfl (Ext.refl _) k1 ⟨fun n z => (by cases z), fun z2 x2 k2 _ i => ?_⟩⟩⟩
    have q1 := x2.mv.sqT r1
    have q1' := x2.mv.sqT r2
    have q2 := hl.mv x2.mv
    have q2' := hl'.mv x2.mv
    refine ⟨fun d hd => ?_, fun hi => ⟨vs, vs', q1, q1', by
      rw [← q2.length, ← q2'.length]
      exact zipL_length l r i hi⟩⟩
    obtain ⟨y, y', hy, hy', rfl⟩ := zipL_get l r i d hd
    obtain ⟨w, w1, w2⟩ := q2.get hy
    obtain ⟨w', w1', w2'⟩ := q2'.get hy'
    refine ⟨⟨vs, vs', w, w', q1, q1', w1, w1'⟩, fun u H3 y => ?_⟩
    obtain ⟨T, x1, x2, rfl, np, rfl, y1, y2⟩ := y
    have e2 : x1 = w := Option.some.inj ((y1 vs q1).symm.trans w1)
    have e2' : x2 = w' := Option.some.inj ((y2 vs' q1').symm.trans w1')
    subst e2
    subst e2'
    exact pair_new np k2 w2 w2'
end
end Sm
/-! Sm12: methods, repr, products, globals, a, b = x, y. -/
namespace Sm
open PySem PySem.Spec PyProof.Rows L2
section
variable {X : Cx} {M : Lm} {W : WX} {K : PySem.W.Frag} {z : Sg}
/-! ### methods of built-in types -/
def hasTy (t : Ty) (d : D) (S : Sto) : Bool := match t with
  | .str => match d with
    | .str _ => true
    | _ => false
  | .list => (getL d S).isSome
  | .dict => (getP d S).isSome
  | _ => false
theorem hasTy_ok {t : Ty} {d : D} {v : V} (k : SOk K M z) (q : EncA K M z d v) (h : hasTy t d z.S = true) : tyV K t.name v z.H := by
  cases t with
  | str =>
    cases d with
    | str s =>
      rw [encA_str q]
      rfl
    | _ => cases h
  | list =>
    have h' : (getL d z.S).isSome = true := h
    cases r : getL d z.S with
    | none =>
      rw [r] at h'
      cases h'
    | some l =>
      obtain ⟨a, vs, rfl, h1, _⟩ := getL_ok k q r
      exact .inl ⟨rfl, vs, h1⟩
  | dict =>
    have h' : (getP d z.S).isSome = true := h
    cases r : getP d z.S with
    | none =>
      rw [r] at h'
      cases h'
    | some l =>
      obtain ⟨a, kvs, rfl, h1, _⟩ := getP_ok k q r
      exact .inr (.inr (.inl ⟨rfl, .inl ⟨kvs, h1⟩⟩))
  | _ => cases h
abbrev Mt := D → List D → Sto → Res D
def mtF (t : Ty) (m : Mt) (f : Env → Sto → Res D) (g : Env → Sto → Res (List D)) : Env → Sto → Res D := fun env S => (f env S).bind fun d S1 => if hasTy t d S1 = true then (g env S1).bind fun as S2 => m d as S2 else .bad
def mtF0 (t : Ty) (m : Mt) (f : Env → Sto → Res D) : Env → Sto → Res D := fun env S => (f env S).bind fun d S1 => if hasTy t d S1 = true then m d [] S1 else .bad
def rMt (K : PySem.W.Frag) (M : Lm) (W : WX) (m : Mt) : V → List V → Hp → VK → Prop := fun x xs H Q => ∃ z d as σ, z.H = H ∧ SOk K M z ∧ EncA K M z d x ∧ EncAs K M z as xs ∧ Out K M (EncA K M) W σ z Q (m d as z.S)
theorem s_mt {t : Ty} {m : Mt} {id : String} {name : Str} {o e : Expr} {es : List Expr} {apos cpos : Pos} {f : Env → Sto → Res D} {g : Env → Sto → Res (List D)} (hm : MtR X id (rMt X.K M W m)) (ho : SE X M W o f) (ha : SA X M W (e :: es) g) (pa : PlainAttrs t.name) (slot : Slot t.name name id) (hty : typeOf (.builtin id) = pure (.type "method_descriptor"))
    (hbase : attributeBase o name X.env (eval o X.env) = eval o X.env := by rfl)
    (hfew : ((backTo cpos (starEach (e :: es) X.env)).all (fun x => !x.1) && (backToKw cpos (keywordEach [] X.env)).all (fun x => x.1.isSome)
      && decide ((e :: es).length + ([] : List Keyword).length + (if ([] : List Keyword).isEmpty then 0 else 1) < 30)) = true := by rfl)
    (hline : (apos.endLine == cpos.line) = true := by rfl) (hs : starEach (e :: es) X.env = (false, eval e X.env) :: starEach es X.env := by rfl) (hplain : (backTo cpos (starEach es X.env)).any (·.1) = false := by rfl) :
    SE X M W (.Call (.Attribute o name apos) (e :: es) [] cpos) (mtF t m f g) := by
  refine pe_imp (pe_bm pa slot hty hm ho ha hbase hfew hline hs hplain) fun σ H Q h => ?_
  obtain ⟨env, z, rfl, k, v, h⟩ := h
  refine ⟨env, z, rfl, k, v, (Out.bind h).imp fun b H1 q => ?_⟩
  obtain ⟨d, z1, rfl, _, x, k1, q, h1⟩ := q
  by_cases c : hasTy t d z1.S = true
  · rw [if_pos c] at h1
    refine ⟨hasTy_ok k1 q c, env, z1, rfl, k1, v.ext x, (Out.bind h1).imp fun b2 H2 q2 => ?_⟩
    obtain ⟨as, z2, rfl, _, x2, k2, q2, h2⟩ := q2
    exact ⟨z2, d, as, σ, rfl, k2, q.ext x2, q2, h2⟩
  · rw [if_neg c] at h1
    exact h1.elim
theorem s_mt0 {t : Ty} {m : Mt} {id : String} {name : Str} {o : Expr} {apos cpos : Pos} {f : Env → Sto → Res D} (hm : MtR X id (rMt X.K M W m)) (ho : SE X M W o f) (pa : PlainAttrs t.name) (slot : Slot t.name name id) (hty : typeOf (.builtin id) = pure (.type "method_descriptor"))
    (hbase : attributeBase o name X.env (eval o X.env) = eval o X.env := by rfl) (hline : (apos.endLine == cpos.line) = true := by rfl) :
    SE X M W (.Call (.Attribute o name apos) [] [] cpos) (mtF0 t m f) := by
  refine pe_imp (pe_bm0 pa slot hty hm ho hbase hline) fun σ H Q h => ?_
  obtain ⟨env, z, rfl, k, v, h⟩ := h
  refine ⟨env, z, rfl, k, v, (Out.bind h).imp fun b H1 q => ?_⟩
  obtain ⟨d, z1, rfl, _, x, k1, q, h1⟩ := q
  by_cases c : hasTy t d z1.S = true
  · rw [if_pos c] at h1
    exact ⟨hasTy_ok k1 q c, z1, d, [], σ, rfl, k1, q, .nil, h1⟩
  · rw [if_neg c] at h1
    exact h1.elim
theorem mt_of {id : String} {m : Mt} (h : ∀ (d : D) (as : List D) (x : V) (xs : List V) (z : Sg) (σ' : St) (Q : VK), SOk X.K M z → EncA X.K M z d x → EncAs X.K M z as xs → Out X.K M (EncA X.K M) W σ' z Q (m d as z.S) → ∃ r, MtR X id r ∧ r x xs z.H Q) : MtR X id (rMt X.K M W m) := by
  intro pins s σ H x xs v us Q I rx rxs hh
  obtain ⟨z, d, as, σ', rfl, k, q, qs, hh⟩ := hh
  obtain ⟨r, h1, h2⟩ := h d as x xs z σ' Q k q qs hh
  exact h1 pins s σ z.H x xs v us Q I rx rxs h2
/-- xs.append(y) -/
def appIn (n : Nat) (w : D) (S1 : Sto) : Res D := match S1[n]? with
  | some (.lst false l) => if l.length < LINE then .ok .non (S1.set n (.lst false (l ++ [w]))) else .bad
  | _ => .bad
def appM : Mt := fun d as S => match d, as with
  | .ref n, [y] => (frz1 y S).bind (appIn n)
  | _, _ => .bad
theorem app_ok : MtR X "list.append" (rMt X.K M W appM) := by
  intro pins s σ H x xs v us Q I rx rxs hh
  obtain ⟨z, d, as, σ', rfl, k, qa, qs, h⟩ := hh
  match d, as, qa, qs, h with
  | .ref n, [y], qa, qs, h =>
    obtain ⟨w, rfl, qy⟩ := encAs1 qs
    have h0 : Out X.K M (EncA X.K M) W σ' z Q ((frz1 y z.S).bind (appIn n)) := h
    clear h
    cases rf : frz1 y z.S with
    | bad =>
      rw [rf] at h0
      exact h0.elim
    | ex _ _ => exact absurd rf frz1_nex
    | ok u S1 =>
      rw [rf] at h0
      obtain ⟨z1, e1, e2, x1, k1, q1⟩ := frz1_ok k qy rf
      subst e2
      have qa1 := qa.ext x1
      have h1 := Out.rebase x1 h0
      dsimp only [Res.bind] at h1
      unfold appIn at h1
      rw [← e1] at I
      cases hn : z1.S[n]? with
      | none =>
        rw [hn] at h1
        exact h1.elim
      | some o =>
        rw [hn] at h1
        cases o with
        | dic fz l => exact h1.elim
        | arr l => exact h1.elim
        | lst fz l =>
          cases fz with
          | true => exact h1.elim
          | false =>
            dsimp only at h1
            by_cases cl : l.length < LINE
            · rw [if_pos cl] at h1
              obtain ⟨p, vs, rfl, hp, hv, hl⟩ := ref_lst k1 qa1 hn
              have hx := ext_wrt (o := .lst (vs ++ [w])) (b := .lst false (l ++ [u])) k1 hn hp rfl
              refine mt_append pins s σ z1.H _ _ v us Q I rx rxs ⟨p, vs, w, rfl, rfl, hv, by rw [← hl.length, ← line_eq]; exact cl, ?_⟩
              exact h1 (z1.wrt n p (.lst (vs ++ [w])) (.lst false (l ++ [u]))) .non rfl hx (sok_wrt k1 hn hp rfl ⟨vs ++ [w], upd_same, (hl.app (.cons q1 .nil)).mv hx.mv⟩) (.of .non)
            · rw [if_neg cl] at h1
              exact h1.elim
/-- xs.extend(ys) -/
def extIn (n : Nat) (r : List D) (S1 : Sto) : Res D := match S1[n]? with
  | some (.lst false l) => if l.length + r.length ≤ LINE then .ok .non (S1.set n (.lst false (l ++ r))) else .bad
  | _ => .bad
def extM : Mt := fun d as S => match d, as with
  | .ref n, [y] => ixL (getL y S) fun r => extIn n r S
  | _, _ => .bad
theorem mt_extendR : MtM X "list.extend" (fun x vs H Q => ∃ l b xs zs, x = .ref l ∧ vs = [.ref b] ∧ H l = some (.lst xs) ∧ Rl X.K H b zs ∧ xs.length + zs.length ≤ sizeLine ∧ Q .non (upd H l (.lst (xs ++ zs)))) := by
  intro pins s σ H x vs v us Q I rx rv h
  obtain ⟨l, b, xs, zs, rfl, rfl, hH, hB, hz, q⟩ := h
  cases rx
  obtain ⟨u, rfl, ru⟩ := rv.one
  cases ru
  obtain ⟨z, its, n, r, hl, e⟩ := I.lstM hH
  obtain ⟨z2, its2, n2, r2, hl2, e2⟩ := rdM I hB
  have hsz : its.toArray.size + its2.toArray.size ≤ sizeLine := by
    rw [List.size_toArray, List.size_toArray]
    omega
  refine call_meets F.slot_list_extend ⟨_, e, rfl⟩ F.entry_list_extend (F.args_list_extend_2 _ _)
    (AutoSeq1.list_extend_list_list_0 l its.toArray n b its2.toArray n2 (by
      rw [notLongL hsz, Bool.and_false]
      exact Bool.false_ne_true) (by
      rw [List.size_toArray]
      omega) (by omega)) ⟨e, e2, .non, _, I.lset (its' := its ++ its2) hH e (by simp) (r.append r2) (by
      rw [List.length_append]
      omega), rfl, q⟩
theorem ext_ok : MtR X "list.extend" (rMt X.K M W extM) := mt_of fun d as x xs z σ' Q k qa qs h => by
  match d, as, qa, qs, h with
  | .ref n, [y], qa, qs, h =>
    obtain ⟨w, rfl, qy⟩ := encAs1 qs
    have h0 : Out X.K M (EncA X.K M) W σ' z Q (ixL (getL y z.S) fun r => extIn n r z.S) := h
    cases r : getL y z.S with
    | none =>
      rw [r] at h0
      exact h0.elim
    | some r' =>
      rw [r] at h0
      obtain ⟨b, zs, rfl, hb, hr⟩ := getL_rd k qy r
      dsimp only [ixL] at h0
      unfold extIn at h0
      cases hn : z.S[n]? with
      | none =>
        rw [hn] at h0
        exact h0.elim
      | some o =>
        rw [hn] at h0
        cases o with
        | dic fz l => exact h0.elim
        | arr l => exact h0.elim
        | lst fz l =>
          cases fz with
          | true => exact h0.elim
          | false =>
            dsimp only at h0
            by_cases cl : l.length + r'.length ≤ LINE
            · rw [if_pos cl] at h0
              obtain ⟨p, vs, rfl, hp, hv, hl⟩ := ref_lst k qa hn
              have hx := ext_wrt (o := .lst (vs ++ zs)) (b := .lst false (l ++ r')) k hn hp rfl
              exact ⟨_, mt_extendR, p, b, vs, zs, rfl, rfl, hv, hb, by rw [← hl.length, ← hr.length, ← line_eq]; exact cl,
                h0 (z.wrt n p (.lst (vs ++ zs)) (.lst false (l ++ r'))) .non rfl hx (sok_wrt k hn hp rfl ⟨vs ++ zs, upd_same, (hl.app hr).mv hx.mv⟩) (.of .non)⟩
            · rw [if_neg cl] at h0
              exact h0.elim
/-! ### texts -/
def strsOf : List D → Option (List (List Nat))
  | [] => some []
  | .str s :: l => (strsOf l).map (s :: ·)
  | _ :: _ => none
def toS (s : List Nat) : Str := ⟨s.toArray⟩
theorem strs_enc {H : Hp} {ow : Addr → Prop} : ∀ {l : List D} {vs : List V} {bs : List (List Nat)}, strsOf l = some bs → EncL K M H ow l vs → vs = (bs.map toS).map V.str
  | [], _, _, e, h => by
    cases h
    cases e
    rfl
  | d :: l, _, bs, e, h => by
    cases h with
    | cons h1 h2 =>
      cases d with
      | str s =>
        unfold strsOf at e
        cases r : strsOf l with
        | none =>
          rw [r] at e
          cases e
        | some bs' =>
          rw [r] at e
          have e' : s :: bs' = bs := Option.some.inj e
          subst e'
          cases h1
          rw [strs_enc r h2]
          rfl
      | _ => cases e
def joinM : Mt := fun d as S => match d, as with
  | .str a, [y] => match see y S with
    | .lst l => joinS a l S
    | .tup l => joinS a l S
    | _ => .bad
  | _, _ => .bad
where joinS (a : List Nat) (l : List D) (S : Sto) : Res D := ixL (strsOf l) fun ys => if (ys.map List.length).sum + ys.length * a.length ≤ LINE then .ok (.str (Txt.join (toS a) (ys.map toS)).cps.toList) S else .bad
theorem see_getL {d : D} {S : Sto} {l : List D} (h : see d S = .lst l) : getL d S = some l := by
  cases d with
  | ref n =>
    unfold see at h
    unfold getL
    dsimp only at h ⊢
    split at h
    · rename_i e
      rw [e]
      cases h
      rfl
    · cases h
    · cases h
    · cases h
  | lst l' =>
    cases h
    rfl
  | _ => cases h
theorem join_ok : MtR X "str.join" (rMt X.K M W joinM) := mt_of fun d as x xs z σ' Q k qa qs h => by
  match d, as, qa, qs, h with
  | .str a, [y], qa, qs, h =>
    obtain ⟨w, rfl, qy⟩ := encAs1 qs
    have go : ∀ l p vs, w = .ref p → (SqL X.K z.H p vs ∨ SqT X.K z.H p vs) → EncL X.K M z.H z.ow l vs → Out X.K M (EncA X.K M) W σ' z Q (joinM.joinS a l z.S) → ∃ r, MtR X "str.join" r ∧ r x [w] z.H Q := fun l p vs e hp hl h => by
      subst e
      unfold joinM.joinS at h
      cases r : strsOf l with
      | none =>
        rw [r] at h
        exact h.elim
      | some ys =>
        rw [r] at h
        dsimp only [ixL] at h
        by_cases c : (ys.map List.length).sum + ys.length * a.length ≤ LINE
        · rw [if_pos c] at h
          have e := strs_enc r hl
          subst e
          rw [encA_str qa]
          refine ⟨_, mt_join, toS a, p, ys.map toS, rfl, rfl, hp, ?_, ?_⟩
          · have e1 : ((ys.map toS).map (·.length)) = ys.map List.length := by
              rw [List.map_map]
              exact List.map_congr_left fun y _ => List.size_toArray ..
            rw [e1, List.length_map, show (toS a).length = a.length from List.size_toArray ..]
            exact c
          · have := out_str k h
            rw [Array.toArray_toList] at this
            exact this
        · rw [if_neg c] at h
          exact h.elim
    have h' : Out X.K M (EncA X.K M) W σ' z Q (match see y z.S with
      | .lst l => joinM.joinS a l z.S
      | .tup l => joinM.joinS a l z.S
      | _ => .bad) := h
    cases e : see y z.S with
    | lst l =>
      rw [e] at h'
      obtain ⟨p, vs, rfl, h1, h2⟩ := getL_ok k qy (see_getL e)
      exact go l p vs rfl (.inl h1) h2 h'
    | tup l =>
      rw [e] at h'
      have := see_tup e
      subst this
      obtain ⟨p, vs, rfl, h1, h2⟩ := encA_tup qy
      exact go l p vs rfl (.inr h1) h2 h'
    | _ =>
      rw [e] at h'
      exact h'.elim
end
end Sm
/-! Sm13: split, index, get, pop, repr, products, globals, a, b = x, y. -/
namespace Sm
open PySem PySem.Spec PyProof.Rows L2
section
variable {X : Cx} {M : Lm} {W : WX} {K : PySem.W.Frag} {z : Sg}
/-! ### split, index -/
def strD (y : Str) : D := .str y.cps.toList
theorem strD_enc {H : Hp} {ow : Addr → Prop} (y : Str) : Enc K M H ow (strD y) (.str y) := by
  have := Enc.str (K := K) (M := M) (H := H) (ow := ow) y.cps.toList
  rw [Array.toArray_toList] at this
  exact this
theorem strsD_enc {H : Hp} {ow : Addr → Prop} : ∀ ys : List Str, EncL K M H ow (ys.map strD) (ys.map V.str)
  | [] => .nil
  | y :: ys => .cons (strD_enc y) (strsD_enc ys)
def splitM : Mt := fun d as S => match d, as with
  | .str a, [.str b] => if (decide (b ≠ []) && decide (a.length + 2 ≤ LINE)) = true then .ok (.lst ((Txt.split (toS a) (toS b)).map strD)) S else .bad
  | _, _ => .bad
theorem split_ok : MtR X "str.split" (rMt X.K M W splitM) := mt_of fun d as x xs z σ' Q k qa qs h => by
  match d, as, qa, qs, h with
  | .str a, [.str b], qa, qs, h =>
    obtain ⟨w, rfl, qy⟩ := encAs1 qs
    have h' : Out X.K M (EncA X.K M) W σ' z Q (if (decide (b ≠ []) && decide (a.length + 2 ≤ LINE)) = true then .ok (.lst ((Txt.split (toS a) (toS b)).map strD)) z.S else .bad) := h
    by_cases c : (decide (b ≠ []) && decide (a.length + 2 ≤ LINE)) = true
    · rw [if_pos c] at h'
      rw [Bool.and_eq_true] at c
      rw [encA_str qa, encA_str qy]
      refine ⟨_, mt_split, toS a, toS b, rfl, rfl, ?_, ?_, out_lst k (strsD_enc _) h'⟩
      · cases b with
        | nil => exact absurd rfl (of_decide_eq_true c.1)
        | cons _ _ => rfl
      · show a.toArray.size + 2 ≤ _
        rw [List.size_toArray, ← line_eq]
        exact of_decide_eq_true c.2
    · rw [if_neg c] at h'
      exact h'.elim
/-- s.index(t), where it is found; l.index(x) -/
def indexM : Mt := fun d as S => match d, as with
  | .str a, [.str b] => match Builtin.Str.occurrences (toS a) (toS b) 0 (toS a).length 1 with
    | i :: _ => .ok (.int (i : Nat)) S
    | [] => .bad
  | _, _ => .bad
theorem sindex_ok : MtR X "str.index" (rMt X.K M W indexM) := mt_of fun d as x xs z σ' Q k qa qs h => by
  match d, as, qa, qs, h with
  | .str a, [.str b], qa, qs, h =>
    obtain ⟨w, rfl, qy⟩ := encAs1 qs
    have h' : Out X.K M (EncA X.K M) W σ' z Q (match Builtin.Str.occurrences (toS a) (toS b) 0 (toS a).length 1 with
      | i :: _ => Res.ok (.int (i : Nat)) z.S
      | [] => .bad) := h
    rw [encA_str qa, encA_str qy]
    cases r : Builtin.Str.occurrences (toS a) (toS b) 0 (toS a).length 1 with
    | nil =>
      rw [r] at h'
      exact h'.elim
    | cons i rest =>
      rw [r] at h'
      exact ⟨_, mt_sindex, toS a, toS b, i, rest, rfl, rfl, r, out_int k h'⟩
def findEq (y : D) : List D → Nat → Option Nat
  | [], _ => none
  | x :: l, n => if eqV x y = true then some n else findEq y l (n + 1)
def lindexM : Mt := fun d as S => match as with
  | [y] => match getL d S with
    | some l => if (okL 59 l && plain y S) = true then ixL (findEq (see y S) l 0) fun i => .ok (.int (i : Nat)) S else .bad
    | none => .bad
  | _ => .bad
theorem findEq_ok (y : D) : ∀ (l : List D) (n i : Nat), findEq y l n = some i → ∃ j x, i = n + j ∧ l[j]? = some x ∧ eqV x y = true ∧ ∀ m x', m < j → l[m]? = some x' → eqV x' y = false
  | [], _, _, h => by cases h
  | x :: l, n, i, h => by
    unfold findEq at h
    by_cases c : eqV x y = true
    · rw [if_pos c] at h
      cases h
      exact ⟨0, x, rfl, rfl, c, fun m x' hm => absurd hm (Nat.not_lt_zero m)⟩
    · rw [if_neg c] at h
      obtain ⟨j, x1, rfl, h1, h2, h3⟩ := findEq_ok y l (n + 1) i h
      refine ⟨j + 1, x1, by omega, h1, h2, fun m x' hm hx => ?_⟩
      cases m with
      | zero =>
        cases hx
        exact eq_false_of_ne_true c
      | succ m => exact h3 m x' (by omega) hx
theorem okL_at {n : Nat} : ∀ {l : List D} {i : Nat} {d : D}, okL n l = true → l[i]? = some d → okD n d = true
  | [], _, _, _, h => by cases h
  | x :: l, 0, _, k, h => by
    cases h
    unfold okL at k
    rw [Bool.and_eq_true] at k
    exact k.1
  | x :: l, i + 1, _, k, h => by
    unfold okL at k
    rw [Bool.and_eq_true] at k
    exact okL_at k.2 h
theorem lindex_ok (hu : X.A.units + 65 < cLine) : MtR X "list.index" (rMt X.K M W lindexM) := mt_of fun d as x xs z σ' Q k qa qs h => by
  match as, qs, h with
  | [y], qs, h =>
    obtain ⟨w, rfl, qy⟩ := encAs1 qs
    have h' : Out X.K M (EncA X.K M) W σ' z Q (match getL d z.S with
      | some l => if (okL 59 l && plain y z.S) = true then ixL (findEq (see y z.S) l 0) fun i => Res.ok (.int (i : Nat)) z.S else .bad
      | none => .bad) := h
    cases r : getL d z.S with
    | none =>
      rw [r] at h'
      exact h'.elim
    | some l =>
      rw [r] at h'
      dsimp only at h'
      by_cases c : (okL 59 l && plain y z.S) = true
      · rw [if_pos c] at h'
        rw [Bool.and_eq_true] at c
        obtain ⟨a, vs, rfl, h1, h2⟩ := getL_ok k qa r
        obtain ⟨p1, p2⟩ := plain_dp k qy c.2
        cases e : findEq (see y z.S) l 0 with
        | none =>
          rw [e] at h'
          exact h'.elim
        | some i =>
          rw [e] at h'
          obtain ⟨j, x1, ei, g1, g2, g3⟩ := findEq_ok _ l 0 i e
          rw [Nat.zero_add] at ei
          subst ei
          have hl60 : okD 60 (.lst l) = true := c.1
          refine ⟨_, mt_indexD hu, a, w, py (see y z.S), pyL l, i, py x1, rfl, rfl, .lst h1 (encL_dp l 59 vs c.1 h2), p1, shaped_of hl60, shaped_of p2, ?_, ?_, fun m z' hm hz => ?_, out_int k h'⟩
          · rw [pyL_map, List.getElem?_map, g1]
            rfl
          · rw [eqV_py x1 _ 59 60 (okL_at c.1 g1) p2]
            exact g2
          · rw [pyL_map, List.getElem?_map] at hz
            cases hm2 : l[m]? with
            | none =>
              rw [hm2] at hz
              cases hz
            | some x' =>
              rw [hm2] at hz
              cases hz
              rw [eqV_py x' _ 59 60 (okL_at c.1 hm2) p2]
              exact g3 m x' hm hm2
      · rw [if_neg c] at h'
        exact h'.elim
/-! ### repr -/
def reprD (d : D) : List Nat := (py d).shown.cps.toList
def canRepr (d : D) : Bool := (py d).showable && decide ((py d).shown.length ≤ LINE)
def reprM : Fn := fun as S => match as with
  | [d] => if (plain d S && canRepr (see d S)) = true then .ok (.str (reprD (see d S))) S else .bad
  | _ => .bad
theorem out_strD {σ : St} {Q : VK} {y : Str} (k : SOk K M z) (h : Out K M (EncA K M) W σ z Q (.ok (.str y.cps.toList) z.S)) : Q (.str y) z.H := by
  have := out_str k h
  rw [Array.toArray_toList] at this
  exact this
theorem noDict : ∀ (d : D) (n : Nat), okD n d = true → (py d).hasDict = false := fun d n h => PyData.hasDict_of_canLay _ (shaped_py d n h).1
theorem dp_scalar {d : PyData} {v : V} {H : Hp} (h : Dp K H v d) : (∃ i, v = .int i ∧ d = .int i) ∨ (∃ b, v = .bl b ∧ d = .bool b) ∨ (∃ s, v = .str s ∧ d = .str s) ∨ (v = .non ∧ d = .none) ∨ ∃ a, v = .ref a := by
  cases h with
  | int i => exact .inl ⟨i, rfl, rfl⟩
  | bl b => exact .inr (.inl ⟨b, rfl, rfl⟩)
  | str s => exact .inr (.inr (.inl ⟨s, rfl, rfl⟩))
  | non => exact .inr (.inr (.inr (.inl ⟨rfl, rfl⟩)))
  | _ => exact .inr (.inr (.inr (.inr ⟨_, rfl⟩)))
theorem call_repr (hg : X.A.guards = some []) (hu : X.A.units + 65 < cLine) : CallR X (.builtin "repr") (fun xs H Q => ∃ v d, xs = [v] ∧ Dp X.K H v d ∧ d.showable = true ∧ d.hasDict = false ∧ d.depth ≤ 60 ∧ d.shown.length ≤ sizeLine ∧ Q (.str d.shown) H) := by
  intro pins s σ H xs us Q I r h
  obtain ⟨v, d, rfl, hd, hs, hnd, hdp, hl, q⟩ := h
  obtain ⟨u, rfl, ru⟩ := vals1 r
  rcases dp_scalar hd with ⟨i, rfl, rfl⟩ | ⟨b, rfl, rfl⟩ | ⟨y, rfl, rfl⟩ | ⟨rfl, rfl⟩ | ⟨a, rfl⟩
  · obtain ⟨t, rfl⟩ := ru
    exact PySem.P.repr_of_int (of_decide_eq_true hs) ⟨.str _, H, I.tok _, ⟨_, rfl⟩, q⟩
  · cases ru
    refine PySem.P.repr_of_bool ⟨.str _, H, I.tok _, ⟨_, rfl⟩, ?_⟩
    cases b <;> exact q
  · obtain ⟨t, rfl⟩ := ru
    exact PySem.P.repr_of_str ⟨.str _, H, I.tok _, ⟨_, rfl⟩, q⟩ hl
  · cases ru
    exact PySem.P.repr_of_none ⟨.str _, H, I.tok _, ⟨_, rfl⟩, q⟩
  · obtain ⟨as, rd⟩ := Dp.reads I d _ u hd ru
    cases ru
    exact PySem.repr_of_reads' rd hs (PyData.noDict_hsm hnd) hg (by omega) (fun _ _ e => e) (fun h' u tk hk => ⟨.str _, H, I.kept hk, ⟨_, rfl⟩, q⟩) hl
theorem repr_ok (hg : X.A.guards = some []) (hu : X.A.units + 65 < cLine) : CallR X (.builtin "repr") (rCl X.K M W reprM) := call_of fun as xs z σ' Q k qa h => by
  match as, qa, h with
  | [d], qa, h =>
    obtain ⟨v, rfl, q⟩ := encAs1 qa
    have h' : Out X.K M (EncA X.K M) W σ' z Q (if (plain d z.S && canRepr (see d z.S)) = true then .ok (.str (reprD (see d z.S))) z.S else .bad) := h
    by_cases c : (plain d z.S && canRepr (see d z.S)) = true
    · rw [if_pos c] at h'
      rw [Bool.and_eq_true] at c
      obtain ⟨c1, c2⟩ := c
      unfold canRepr at c2
      rw [Bool.and_eq_true] at c2
      obtain ⟨p1, p2⟩ := plain_dp k q c1
      refine ⟨_, call_repr hg hu, v, py (see d z.S), rfl, p1, c2.1, noDict _ _ p2, (shaped_py _ _ p2).2, ?_, out_strD k h'⟩
      rw [← line_eq]
      exact of_decide_eq_true c2.2
    · rw [if_neg c] at h'
      exact h'.elim
end
end Sm
/-! Sm14: products, globals, a, b = x, y, op=, {}. -/
namespace Sm
open PySem PySem.Spec PyProof.Rows L2
section
variable {X : Cx} {M : Lm} {W : WX} {K : PySem.W.Frag} {z : Sg}
/-! ### products -/
def isN63 (n : Int) : Bool := decide (-(2 ^ 63) ≤ n) && decide (n < 2 ^ 63)
def repL {α : Type} (l : List α) : Nat → List α
  | 0 => []
  | n + 1 => l ++ repL l n
theorem repL_eq {α : Type} (l : List α) : ∀ n, repL l n = (List.replicate n l).flatten
  | 0 => rfl
  | n + 1 => by rw [repL, repL_eq l n, List.replicate_succ, List.flatten_cons]
theorem repL_enc {H : Hp} {ow : Addr → Prop} {l : List D} {vs : List V} (h : EncL K M H ow l vs) : ∀ n, EncL K M H ow (repL l n) (List.replicate n vs).flatten
  | 0 => .nil
  | n + 1 => by
    rw [repL, List.replicate_succ, List.flatten_cons]
    exact h.app (repL_enc h n)
theorem repL_length {α : Type} (l : List α) : ∀ n, (repL l n).length = l.length * n
  | 0 => rfl
  | n + 1 => by rw [repL, List.length_append, repL_length l n, Nat.mul_succ, Nat.add_comm]
def mulD (a b : D) (S : Sto) : Res D := match a, b with
  | .int i, .int j => if cMul i j = true then .ok (.int (i * j)) S else .bad
  | .str s, .int n => if (isN63 n && decide (s.length * n.toNat ≤ LINE)) = true then .ok (.str (repL s n.toNat)) S else .bad
  | .tup l, .int n => if (decide (l ≠ []) && (decide (2 ≤ n) && (decide (n ≤ 1000) && decide (l.length ≤ 1000)))) = true then .ok (.tup (repL l n.toNat)) S else .bad
  | a, .int n => match getL a S with
    | some l => if (isN63 n && decide (l.length * n.toNat ≤ LINE)) = true then .ok (.lst (repL l n.toNat)) S else .bad
    | none => .bad
  | _, _ => .bad
theorem foldl_cps (s : Array Nat) : ∀ (k : Nat) (acc : List Nat), List.foldl (fun x1 x2 => x1 ++ x2) acc.toArray (List.replicate k s) = (acc ++ repL s.toList k).toArray
  | 0, acc => by simp [repL]
  | k + 1, acc => by
    have e : acc.toArray ++ s = (acc ++ s.toList).toArray := by
      apply Array.ext'
      simp
    rw [List.replicate_succ, List.foldl_cons, e, foldl_cps s k (acc ++ s.toList), repL, List.append_assoc]
theorem op_mulS : OpR X (binaryOp .Mult) (fun x y H Q => ∃ (s : List Nat) (n : Int), x = .str ⟨s.toArray⟩ ∧ y = .int n ∧ -(2 ^ 63) ≤ n ∧ n < 2 ^ 63 ∧ s.length * n.toNat ≤ sizeLine ∧ Q (.str ⟨(repL s n.toNat).toArray⟩) H) := by
  intro pins s σ H x y v u Q I rx ry h
  obtain ⟨a, n, rfl, rfl, h1, h2, hz, q⟩ := h
  obtain ⟨t, rfl⟩ := rx
  obtain ⟨t', rfl⟩ := ry
  have hs : (⟨a.toArray⟩ : Str).length = a.length := List.size_toArray ..
  have hl := sizeLine_eq
  refine PySem.P.mul_str (by
      have c1 : ¬ n < -(2 ^ 63) := by omega
      have c2 : ¬ n ≥ 2 ^ 63 := by omega
      rw [decide_eq_false c1, decide_eq_false c2]
      rfl) (fun hn _ => ?_) (fun hn _ => ?_) ?_
  · rw [hs]
    have e : ((a.length : Int)) ≤ (2 ^ 63 - 1) / n := by
      rw [Int.le_ediv_iff_mul_le (by omega)]
      have e1 : ((a.length * n.toNat : Nat) : Int) ≤ (16777216 : Nat) := Int.ofNat_le.mpr (by rw [← hl]; exact hz)
      rw [Int.natCast_mul, Int.toNat_of_nonneg (by omega)] at e1
      omega
    omega
  · rw [hs]
    unfold Builtin.Str.tooLong
    exact decide_eq_false (by omega)
  · by_cases c : n < 1
    · rw [if_pos c]
      have e : n.toNat = 0 := by omega
      rw [e] at q
      exact ⟨Nat.zero_le _, .str _, H, I.tok _, ⟨_, rfl⟩, q⟩
    · rw [if_neg c]
      by_cases c2 : (n == 1 || (⟨a.toArray⟩ : Str).length == 0) = true
      · rw [if_pos c2]
        have e : repL a n.toNat = a := by
          rw [Bool.or_eq_true] at c2
          rcases c2 with c2 | c2
          · have : n = 1 := eq_of_beq c2
            rw [this]
            show a ++ [] = a
            exact List.append_nil a
          · rw [hs] at c2
            have : a = [] := List.eq_nil_of_length_eq_zero (eq_of_beq c2)
            rw [this, repL_eq]
            simp
        rw [e] at q
        exact ⟨.str _, H, I, ⟨_, rfl⟩, q⟩
      · rw [if_neg c2]
        have e : ∀ m : Nat, (List.replicate m a.toArray).foldl (· ++ ·) #[] = (repL a m).toArray := fun m => by
          have := foldl_cps a.toArray m []
          rw [List.nil_append] at this
          exact this
        have q' : Q (.str ⟨(List.replicate n.toNat a.toArray).foldl (· ++ ·) #[]⟩) H := by
          rw [e]
          exact q
        refine ⟨?_, .str _, H, I.tok _, ⟨_, rfl⟩, q'⟩
        show (List.foldl (fun x1 x2 => x1 ++ x2) #[] (List.replicate n.toNat a.toArray)).size ≤ sizeLine
        rw [e, List.size_toArray, repL_length]
        exact hz
theorem op_repR : OpR X (binaryOp .Mult) (fun x y H Q => ∃ l k xs, x = .ref l ∧ y = .int k ∧ Rl X.K H l xs ∧ -(2 ^ 63) ≤ k ∧ k < 2 ^ 63 ∧ xs.length * k.toNat ≤ sizeLine ∧ ∀ p, H p = none → Q (.ref p) (upd H p (.lst (List.replicate k.toNat xs).flatten))) := by
  intro pins s σ H x y v u Q I rx ry h
  obtain ⟨l, k, xs, rfl, rfl, hH, h1, h2, hz, q⟩ := h
  cases rx
  obtain ⟨t, rfl⟩ := ry
  obtain ⟨z, its, n, r, hl, e⟩ := rdM I hH
  have hlen : its.toArray.size * k.toNat ≤ sizeLine := by
    rw [List.size_toArray, ← hl]
    exact hz
  have hbig : (sizeLine : Nat) ≤ (2 ^ 63 - 1) / 8 := by decide
  have hnew : List.foldl (fun x1 x2 => x1 ++ x2) #[] (List.replicate (if its.toArray.isEmpty = true then 0 else k.toNat) its.toArray) = (List.replicate k.toNat its).flatten.toArray := by
    have f0 : ∀ m : Nat, List.foldl (fun x1 x2 => x1 ++ x2) #[] (List.replicate m its.toArray) = (List.replicate m its).flatten.toArray := fun m => by
      have := foldl_rep its m []
      rw [List.nil_append] at this
      exact this
    rw [f0]
    cases its with
    | nil => simp
    | cons a r' => rw [if_neg (by simp)]
  refine wpAny_binaryOp_repeat_ref (T := "list") (U := "int") (by decide) ⟨_, e, rfl⟩ (fun s' => typeIs_int s' k t) noFill_list_mul F.fills_int_mul F.slot_int_rmul repeat_list F.slot_int_index.lookup
    (call_meets F.slot_int_rmul (typeIs_int s k t) F.entry_int_rmul (F.args_int_rmul_2 _ _) (int___rmul___int_list k t l its.toArray n)
      ⟨e, rfl, ⟨_, e, rfl⟩, call_meets F.slot_list_mul ⟨_, e, rfl⟩ F.entry_list_mul (F.args_list_mul_2 _ _) (AutoListH.list___mul___list_int_3 l its.toArray n k t (by
        rw [fitsIndex_both h1 h2]
        exact Bool.false_ne_true) (by omega) (by
        rw [notLongL hlen]
        exact Bool.false_ne_true)) ⟨e, ?_⟩⟩)
  rw [hnew]
  exact ⟨.ref _, _, I.lnew (t' := s.toks) (r.rep k.toNat) (by
    rw [PyProof.Rows.lm_len_rep_flat, Nat.mul_comm]
    exact hz), rfl, q _ I.fresh⟩
theorem isN63_ok {n : Int} (h : isN63 n = true) : -(2 ^ 63) ≤ n ∧ n < 2 ^ 63 := by
  unfold isN63 at h
  rw [Bool.and_eq_true] at h
  exact ⟨of_decide_eq_true h.1, of_decide_eq_true h.2⟩
theorem mul_ok : OpR X (binaryOp .Mult) (rOp X.K M W mulD) := by
  intro pins s σ H x y v u Q I rx ry hh
  have hcopy := hh
  obtain ⟨z, a, b, σ', rfl, k, qa, qb, h⟩ := hh
  have lists : ∀ n, b = .int n → mulD a b z.S = (match getL a z.S with
    | some l => if (isN63 n && decide (l.length * n.toNat ≤ LINE)) = true then .ok (.lst (repL l n.toNat)) z.S else .bad
    | none => .bad) → wpAny (model X.prog X.w) X.A (binaryOp .Mult v u) (EP X pins σ Q) X.xe s := fun n e em => by
    subst e
    rw [em] at h
    cases r : getL a z.S with
    | none =>
      rw [r] at h
      exact h.elim
    | some l =>
      rw [r] at h
      dsimp only at h
      by_cases c : (isN63 n && decide (l.length * n.toNat ≤ LINE)) = true
      · rw [if_pos c] at h
        rw [Bool.and_eq_true] at c
        obtain ⟨p, vs, rfl, h1, h2⟩ := getL_rd k qa r
        have c1 := isN63_ok c.1
        rw [encA_int qb] at ry
        exact op_repR pins s σ z.H _ _ v u Q I rx ry ⟨p, n, vs, rfl, rfl, h1, c1.1, c1.2, by
          rw [← h2.length, ← line_eq]
          exact of_decide_eq_true c.2, out_lst k (repL_enc h2 _) h⟩
      · rw [if_neg c] at h
        exact h.elim
  cases b with
  | int n =>
    cases a with
    | int i => exact mul_int_ok (M := M) (W := W) pins s σ z.H _ _ v u Q I rx ry ⟨z, .int i, .int n, σ', rfl, k, qa, qb, h⟩
    | str t =>
      have h' : Out X.K M (EncA X.K M) W σ' z Q (if (isN63 n && decide (t.length * n.toNat ≤ LINE)) = true then .ok (.str (repL t n.toNat)) z.S else .bad) := h
      by_cases c : (isN63 n && decide (t.length * n.toNat ≤ LINE)) = true
      · rw [if_pos c] at h'
        rw [Bool.and_eq_true] at c
        have c1 := isN63_ok c.1
        rw [encA_str qa] at rx
        rw [encA_int qb] at ry
        exact op_mulS pins s σ z.H _ _ v u Q I rx ry ⟨t, n, rfl, rfl, c1.1, c1.2, by
          rw [← line_eq]
          exact of_decide_eq_true c.2, out_str k h'⟩
      · rw [if_neg c] at h'
        exact h'.elim
    | tup l =>
      have h' : Out X.K M (EncA X.K M) W σ' z Q (if (decide (l ≠ []) && (decide (2 ≤ n) && (decide (n ≤ 1000) && decide (l.length ≤ 1000)))) = true then .ok (.tup (repL l n.toNat)) z.S else .bad) := h
      by_cases c : (decide (l ≠ []) && (decide (2 ≤ n) && (decide (n ≤ 1000) && decide (l.length ≤ 1000)))) = true
      · rw [if_pos c] at h'
        rw [Bool.and_eq_true, Bool.and_eq_true, Bool.and_eq_true] at c
        obtain ⟨p, vs, rfl, h1, h2⟩ := encA_tup qa
        rw [encA_int qb] at ry
        have hln := h2.length
        exact op_repT pins s σ z.H _ _ v u Q I rx ry ⟨p, n, vs, rfl, rfl, h1, fun e => by
          subst e
          exact of_decide_eq_true c.1 (List.eq_nil_of_length_eq_zero hln), of_decide_eq_true c.2.1, of_decide_eq_true c.2.2.1, by
          rw [← hln]
          exact of_decide_eq_true c.2.2.2, out_tup k (repL_enc h2 _) h'⟩
      · rw [if_neg c] at h'
        exact h'.elim
    | _ => exact lists n rfl rfl
  | _ => exact (by cases a <;> exact h : False).elim
/-! ### globals -/
mutual
def kcB (K : PySem.W.Frag) : D → Value → Bool
  | .non, .none => true
  | .bl b, .bool c => b == c
  | .int i, .int j _ => i == j
  | .str s, .str t _ => s == t.cps.toList
  | .tup l, .ref a => match K.lookup a with
    | some ⟨.type T, _, .seq its _, _⟩ => (T == "tuple" && decide (its.size ≤ sizeLine)) && kcL K l its.toList
    | _ => false
  | _, _ => false
def kcL (K : PySem.W.Frag) : List D → List Value → Bool
  | [], [] => true
  | d :: l, v :: r => kcB K d v && kcL K l r
  | _, _ => false
end
mutual
theorem kcB_ok {K : PySem.W.Frag} {M : Lm} : ∀ (d : D) (u : Value), kcB K d u = true → ∃ v, RelV v u ∧ ∀ (H : Hp) (ow : Addr → Prop), Enc K M H ow d v
  | .non, u, h => by
    cases u <;> first
      | exact ⟨.non, rfl, fun _ _ => .non⟩
      | (simp [kcB] at h; done)
  | .bl b, u, h => by
    cases u with
    | bool c =>
      unfold kcB at h
      have e : b = c := eq_of_beq h
      subst e
      exact ⟨.bl b, rfl, fun _ _ => .bl b⟩
    | _ => simp [kcB] at h
  | .int i, u, h => by
    cases u with
    | int j t =>
      unfold kcB at h
      have e : i = j := eq_of_beq h
      subst e
      exact ⟨.int i, ⟨t, rfl⟩, fun _ _ => .int i⟩
    | _ => simp [kcB] at h
  | .str s, u, h => by
    cases u with
    | str y t =>
      unfold kcB at h
      have e : s = y.cps.toList := eq_of_beq h
      subst e
      exact ⟨.str y, ⟨t, rfl⟩, fun _ _ => strD_enc y⟩
    | _ => simp [kcB] at h
  | .tup l, u, h => by
    cases u with
    | ref a =>
      unfold kcB at h
      split at h
      · rename_i e
        rw [Bool.and_eq_true, Bool.and_eq_true] at h
        have eT := eq_of_beq h.1.1
        subst eT
        obtain ⟨vs, r1, r2⟩ := kcL_ok (M := M) l _ h.2
        exact ⟨.ref a, rfl, fun H ow => .tup (.inr ⟨_, _, _, e, rfl, rfl, of_decide_eq_true h.1.2, r1⟩) (r2 H ow)⟩
      · cases h
    | _ => simp [kcB] at h
  | .lst _, _, h => by simp [kcB] at h
  | .dic _, _, h => by simp [kcB] at h
  | .ref _, _, h => by simp [kcB] at h
  | .exc _ _, _, h => by simp [kcB] at h
  | .cls _, _, h => by simp [kcB] at h
  | .ty _, _, h => by simp [kcB] at h
theorem kcL_ok {K : PySem.W.Frag} {M : Lm} : ∀ (l : List D) (us : List Value), kcL K l us = true → ∃ vs, Vals vs us ∧ ∀ (H : Hp) (ow : Addr → Prop), EncL K M H ow l vs
  | [], [], _ => ⟨[], .nil, fun _ _ => .nil⟩
  | d :: l, u :: us, h => by
    unfold kcL at h
    rw [Bool.and_eq_true] at h
    obtain ⟨v, h1, h2⟩ := kcB_ok (M := M) d u h.1
    obtain ⟨vs, h3, h4⟩ := kcL_ok (M := M) l us h.2
    exact ⟨v :: vs, .cons h1 h3, fun H ow => .cons (h2 H ow) (h4 H ow)⟩
  | [], _ :: _, h => by simp [kcL] at h
  | _ :: _, [], h => by simp [kcL] at h
end
/-- a module's constant -/
def kcAt (K : PySem.W.Frag) (x : Str) (d : D) : Bool := match PySem.W.nsIn K mainGlobals x with
  | some (some u) => kcB K d u
  | _ => false
theorem s_glob {x : Str} {d : D} {u : Value} {pos : Pos} (hm : X.mg x = some u) (hk : kcB X.K d u = true) (hg : Gl X x := by rfl) (hd : (x == ("__debug__" : Str)) = false := by decide) : SE X M W (.Name x pos) (conF d) := by
  obtain ⟨v, r, e⟩ := kcB_ok (M := M) d u hk
  refine pe_imp (pe_glob hg hm r hd) fun σ H Q h => ?_
  obtain ⟨env, z, rfl, k, _, h⟩ := h
  exact h z v rfl (Ext.refl z) k (.of (e _ _))
theorem kcAt_ok {x : Str} {d : D} (h : kcAt K x d = true) : ∃ u, PySem.W.nsIn K mainGlobals x = some (some u) ∧ kcB K d u = true := by
  unfold kcAt at h
  split at h
  · rename_i e
    exact ⟨_, e, h⟩
  · cases h
/-! ### a, b = x, y -/
def parF (is : List Nat) (g : Env → Sto → Res (List D)) : Env → Sto → SR := fun env S => (g env S).thn env fun as S1 => if as.length = is.length then .nx (putAll is as env) S1 else .bad
where putAll : List Nat → List D → Env → Env
  | i :: is, a :: as, env => putAll is as (env.set i (some a))
  | _, _, env => env
theorem ss_par (i j : Nat) {x y : Str} {a b : Expr} {g : Env → Sto → Res (List D)} {px py pt pos : Pos} {kt k2 pt2} (hc : X.calm = true) (hN : X.N.Nodup) (ha : SA X M W [a, b] g) (hi : X.N[i]? = some x := by rfl) (hj : X.N[j]? = some y := by rfl) (hij : i ≠ j := by decide)
    (hx : X.env.scope.names.lookup x = some .local := by rfl) (hy : X.env.scope.names.lookup y = some .local := by rfl)
    (hw : swappedStores [.Tuple [.Name x px, .Name y py] kt pt] (.Tuple [a, b] k2 pt2) X.env = pure (some [x, y]) := by rfl)
    (hs : swapsWithSole [.Tuple [.Name x px, .Name y py] kt pt] (.Tuple [a, b] k2 pt2) pos.line X.env = pure false := by rfl) :
    SS X M W (.Assign [.Tuple [.Name x px, .Name y py] kt pt] (.Tuple [a, b] k2 pt2) pos) (parF [i, j] g) := by
  refine ps_imp (ps_par hc hN hi hj hij hx hy ha hw hs) fun D σ H h => ?_
  obtain ⟨env, z, rfl, k, v, h⟩ := h
  refine ⟨env, z, rfl, k, v, (Out.thn v h).imp fun b H1 q => ?_⟩
  obtain ⟨as, z1, rfl, _, x, k1, q, v1, h1⟩ := q
  match as, q, h1 with
  | [a1, a2], q, h1 =>
    obtain ⟨w1, w2, rfl, e1, e2⟩ := encAs2 q
    exact ⟨w1, w2, rfl, h1 z1 _ rfl (Ext.refl z1) k1 ((v1.set i e1).set j e2)⟩
  | [], q, h1 => exact h1.elim
  | [_], q, h1 => exact h1.elim
  | x1 :: x2 :: x3 :: xr, q, h1 =>
    have h2 : OutS X.K M W D z1 (if (x1 :: x2 :: x3 :: xr).length = 2 then SR.nx (parF.putAll [i, j] (x1 :: x2 :: x3 :: xr) env) z1.S else .bad) := h1
    rw [if_neg (by simp)] at h2
    exact h2.elim
theorem ss_par3 (i j l : Nat) {x y w : Str} {a b c : Expr} {g : Env → Sto → Res (List D)} {px py pw pt pos : Pos} {kt k2 pt2} (hc : X.calm = true) (hN : X.N.Nodup) (ha : SA X M W [a, b, c] g) (hi : X.N[i]? = some x := by rfl) (hj : X.N[j]? = some y := by rfl) (hl : X.N[l]? = some w := by rfl)
    (hij : i ≠ j := by decide) (hil : i ≠ l := by decide) (hjl : j ≠ l := by decide)
    (hx : X.env.scope.names.lookup x = some .local := by rfl) (hy : X.env.scope.names.lookup y = some .local := by rfl) (hz : X.env.scope.names.lookup w = some .local := by rfl)
    (hw : swappedStores [.Tuple [.Name x px, .Name y py, .Name w pw] kt pt] (.Tuple [a, b, c] k2 pt2) X.env = pure (some [x, y, w]) := by rfl)
    (hs : swapsWithSole [.Tuple [.Name x px, .Name y py, .Name w pw] kt pt] (.Tuple [a, b, c] k2 pt2) pos.line X.env = pure false := by rfl) :
    SS X M W (.Assign [.Tuple [.Name x px, .Name y py, .Name w pw] kt pt] (.Tuple [a, b, c] k2 pt2) pos) (parF [i, j, l] g) := by
  refine ps_imp (ps_par3 hc hN hi hj hl hij hil hjl hx hy hz ha hw hs) fun D σ H h => ?_
  obtain ⟨env, z, rfl, k, v, h⟩ := h
  refine ⟨env, z, rfl, k, v, (Out.thn v h).imp fun b H1 q => ?_⟩
  obtain ⟨as, z1, rfl, _, x, k1, q, v1, h1⟩ := q
  match as, q, h1 with
  | [a1, a2, a3], q, h1 =>
    obtain ⟨w1, w2, w3, rfl, e1, e2, e3⟩ := encAs3 q
    exact ⟨w1, w2, w3, rfl, h1 z1 _ rfl (Ext.refl z1) k1 (((v1.set i e1).set j e2).set l e3)⟩
  | [], q, h1 => exact h1.elim
  | [_], q, h1 => exact h1.elim
  | [_, _], q, h1 => exact h1.elim
  | x1 :: x2 :: x3 :: x4 :: xr, q, h1 =>
    have h2 : OutS X.K M W D z1 (if (x1 :: x2 :: x3 :: x4 :: xr).length = 3 then SR.nx (parF.putAll [i, j, l] (x1 :: x2 :: x3 :: x4 :: xr) env) z1.S else .bad) := h1
    rw [if_neg (by simp)] at h2
    exact h2.elim
/-- a target of any form -/
def unpF (t : Tgt) (f : Env → Sto → Res D) : Env → Sto → SR := fun env S => (f env S).thn env fun d S1 => match t.put d env with
  | some env1 => .nx env1 S1
  | none => .bad
theorem ss_unp {tg e : Expr} {pos : Pos} {t : Tgt} {f : Env → Sto → Res D} (he : SE X M W e f) (hg : SG X M tg t) (hs : swapsWithSole [tg] e pos.line X.env = pure false := by rfl) (hw : swappedStores [tg] e X.env = pure none := by rfl)
    (h1 : (assignEach [tg] X.env).map (·.2) = [assign tg X.env] := by rfl) : SS X M W (.Assign [tg] e pos) (unpF t f) := by
  obtain ⟨g, hg, og⟩ := hg.ex
  refine ps_imp (ps_asg he hg hs hw h1) fun D σ H h => ?_
  obtain ⟨env, z, rfl, k, v, h⟩ := h
  refine ⟨env, z, rfl, k, v, (Out.thn v h).imp fun b H1 q => ?_⟩
  obtain ⟨d, z1, rfl, _, x, k1, q, v1, h1⟩ := q
  cases r : t.put d env with
  | none =>
    rw [r] at h1
    exact h1.elim
  | some env1 =>
    rw [r] at h1
    exact og z1 env env1 σ d b _ k1 v1 q r fun σ1 v2 => h1 z1 σ1 rfl (Ext.refl z1) k1 v2
/-! ### x += e, ints -/
def augF (i : Nat) (op : Int → Int → Int) (f : Env → Sto → Res D) : Env → Sto → SR := fun env S => match env[i]? with
  | some (some (.int a)) => (f env S).thn env fun d S1 => match d with
    | .int b => .nx (env.set i (some (.int (op a b)))) S1
    | _ => .bad
  | _ => .bad
theorem ss_aug (i : Nat) {x : Str} {e : Expr} {op : Operator} {fo : Int → Int → Int} {f : Env → Sto → Res D} {pos' pos : Pos} (hN : X.N.Nodup) (he : SE X M W e f) (ho : PIp X op (ipI fo)) (hi : X.N[i]? = some x := by rfl) (hx : Loc X.env.scope x := by first | exact Or.inl rfl | exact Or.inr rfl)
    (hf : X.fn x = true ∨ X.env.scope.names.lookup x = some .local := by first | exact .inl rfl | exact .inr rfl) : SS X M W (.AugAssign (.Name x pos') op e pos) (augF i fo f) := by
  refine ps_imp (ps_aug hN hi hx he ho hf) fun D σ H h => ?_
  obtain ⟨env, z, rfl, k, v, h⟩ := h
  have h' : OutS X.K M W D z (match env[i]? with
    | some (some (.int a)) => (f env z.S).thn env fun d S1 => match d with
      | .int b => SR.nx (env.set i (some (.int (fo a b)))) S1
      | _ => SR.bad
    | _ => SR.bad) := h
  cases r : env[i]? with
  | none =>
    rw [r] at h'
    exact h'.elim
  | some o =>
    rw [r] at h'
    cases o with
    | none => exact h'.elim
    | some d0 =>
      cases d0 with
      | int a =>
        dsimp only at h'
        obtain ⟨w, hw, ew⟩ := v.2 i _ r
        refine ⟨w, hw, env, z, rfl, k, v, (Out.thn v h').imp fun b H1 q => ?_⟩
        obtain ⟨d, z1, rfl, _, x, k1, q, v1, h1⟩ := q
        cases d with
        | int b' => exact ⟨a, b', encA_int ew, encA_int q, h1 z1 _ rfl (Ext.refl z1) k1 (v1.set i (.of (.int _)))⟩
        | _ => exact h1.elim
      | _ => exact h'.elim
/-! ### {} -/
/-- {}: a tree -/
def dic0 : Env → Sto → Res D := fun _ S => .ok (.dic []) S
theorem s_dic0 {pos : Pos} : SE X M W (.Dict [] [] pos) dic0 := by
  refine pe_imp pe_dnewK fun σ H Q h => ?_
  obtain ⟨env, z, rfl, k, v, h⟩ := h
  exact fun p np => h (z.put p (.dK [])) (.ref p) rfl (ext_put np k) (sok_put np k) (.of (.dic at_put (now_put np k) .nil))
/-- {}: one's own -/
def dicO : Env → Sto → Res D := fun _ S => .ok (.ref S.length) (S ++ [.dic false []])
theorem s_dicO {pos : Pos} : SE X M W (.Dict [] [] pos) dicO := by
  refine pe_imp pe_dnewK fun σ H Q h => ?_
  obtain ⟨env, z, rfl, k, v, h⟩ := h
  exact fun p np => h (z.push p (.dK []) (.dic false [])) (.ref p) rfl (ext_push np k) (sok_push np k ⟨[], upd_same, .nil⟩) (encA_push k)
end
end Sm
/-! Sm15: the law's end. -/
namespace Sm
open PySem PySem.Spec PyProof.Rows L2
section
variable {P : Program} {w : World} {K : PySem.W.Frag} {M : Lm} {mg mb : Str → Option Value} {k : Nat} {fl ad : Addr} {fd : FuncData} {x : Str} {s1 : Shared} {us : List Value} {ns : List Int} {m : Fn} {S' : Sto}
theorem ints_enc {H : Hp} {ow : Addr → Prop} : ∀ ns : List Int, EncL K M H ow (ns.map D.int) (ns.map V.int)
  | [] => .nil
  | n :: ns => .cons (.int n) (ints_enc ns)
/-- what the law's call leaves -/
def Gone (s1 : Shared) (r : Result) (s2 : Shared) : Prop := r = .ok (.ret (.bool true)) ∧ OldK s1.heap s2.heap ∧ s2.os = s1.os ∧ AllBare s2.gens
/-- the makers of lambdas: code object, table, the lambdas' name -/
abbrev Mk := List (Addr × Addr × Str)
/-- the tables at the law's start -/
structure Mk0 (K : PySem.W.Frag) (cs : Mk) (hp : Heap) : Prop where
  at_ : ∀ p ∈ cs, hp.get? p.2.1 = some { cls := .none, data := .fields #[] }
  off : ∀ p ∈ cs, K.lookup p.2.1 = none
  hd : ∀ p ∈ cs, PySem.W.CodeHd hp p.1 p.2.1
def MkB (base : Heap) (mg : Str → Option Value) (cs : Mk) : Prop := ∀ p ∈ cs, LamX.TabB base mg p.1 p.2.1
theorem end_core {H : Hp} {cs : Mk} (kin : K.In s1.heap) (gl : s1.heap.Ns mainGlobals mg) (bl : s1.heap.Ns builtinsNs mb) (boot : ∀ y : Str, y ≠ "__name__" → mb y = bootBuiltins y) (nl : s1.heap.NoLimit) (nd : s1.heap.NoDigits) (gn : s1.gens = #[]) (T0 : Mk0 K cs s1.heap)
    (main : ∃ (m : Addr) (o : Obj), mg "__builtins__" = some (.ref m) ∧ m ≠ builtinsNs ∧ s1.heap.get? m = some o ∧ o.cls = .type "module" ∧ o.dict = some builtinsNs ∧ o.data = .plain) (hMt : M.tabs = cs.map (·.2)) (hMc : M.caps = []) (hMd : M.codes = [])
    (at1 : s1.heap.get? ad = some { cls := .type "list", data := .seq us.toArray }) (room : Room k callerA) (G : ∀ base : Heap, K.In base → base.Ns mainGlobals mg → MkB base mg cs → base.NoDigits → FnS P w K M mg base k fl fd [x] m)
    (bi : ∀ (s : Shared) (u : Value), BindsTo s fd ⟨[u], []⟩ [(x, u)]) (hm : m [.lst (ns.map D.int)] [] = .ok (.bl true) S') (tb : ∀ p ∈ cs, H p.2.1 = some (.tbl #[])) (only : ∀ b, H b = none ∨ (∃ p ∈ cs, p.2.1 = b) ∨ ∃ o xs, H b = some (.frz o (.lst xs)))
    (rl : RL K H (fun _ => False) ad (ns.map V.int)) (hok : HOk P w H s1.heap) (one : ∀ b, H b ≠ none → b = ad ∨ ∃ p ∈ cs, p.2.1 = b) (off : H ad ≠ none → K.lookup ad = none) :
    codeAny (model P w) callerA (.call (.ref fl) ⟨[.ref ad], []⟩) (Gone s1) s1 := by
  have low : ∀ {b : Addr} {o : Obj}, s1.heap.get? b = some o → H b = none → (hidT s1.heap H).get? b = some o := fun e n => hidT_get e n
  have pure0 : ∀ {b : Addr} {o : Obj}, s1.heap.get? b = some o → (∀ vs n, o.data ≠ .seq vs n) → o.data ≠ .fields #[] → H b = none := by
    intro b o e n1 n2
    cases q : H b with
    | none => rfl
    | some u =>
      rcases one b (fun z => by rw [q] at z; cases z) with eb | ⟨p, hp, eb⟩
      · rw [eb, at1] at e
        cases e
        exact absurd rfl (n1 _ _)
      · rw [← eb, T0.at_ p hp] at e
        cases e
        exact absurd rfl n2
  have dic : ∀ {b : Addr} {o : Obj} {es : Array DictEntry} {ep : Nat}, s1.heap.get? b = some o → o.data = .dict es ep → H b = none := fun e d =>
    pure0 e (fun vs n z => by
      rw [d] at z
      cases z) fun z => by
      rw [d] at z
      cases z
  have nsl : ∀ {b : Addr} {g : Str → Option Value}, s1.heap.Ns b g → (hidT s1.heap H).Ns b g := by
    rintro b g ⟨o, es, ep, e, d, r⟩
    exact ⟨o, es, ep, low e (dic e d), d, r⟩
  have kl : K.In (hidT s1.heap H) := by
    intro b o e
    refine low (kin b o e) ?_
    cases q : H b with
    | none => rfl
    | some u =>
      have nn : H b ≠ none := fun z => by rw [q] at z; cases z
      rcases one b nn with eb | ⟨p, hp, eb⟩
      · rw [eb] at nn e
        rw [off nn] at e
        cases e
      · rw [← eb, T0.off p hp] at e
        cases e
  obtain ⟨mc, nl1, nl2⟩ := nl
  obtain ⟨md2, nd1, nd2⟩ := nd
  have md : Mod K mg (hidT s1.heap H) := ⟨kl, nsl gl, ⟨mb, nsl bl, boot⟩, ⟨mc, nsl nl1, nl2⟩⟩
  have mk : MkB (hidT s1.heap H) mg cs := fun p hp => by
    have tp := T0.at_ p hp
    refine ⟨?_, ?_, fun z => ?_⟩
    · obtain ⟨o, fs, a3, a4, a5, a6, a7, a8, a9, e, b1, b2, b3, rest⟩ := T0.hd p hp
      refine ⟨o, fs, a3, a4, a5, a6, a7, a8, a9, low e (pure0 e (fun vs n z => ?_) fun z => ?_), b1, b2, b3, rest⟩
      · rw [b2] at z
        cases z
      · rw [b2] at z
        cases z
        simp at b3
    · obtain ⟨bm, ob, c1, c2, c3, c4, c5, c6⟩ := main
      have n1 : bm ≠ mainGlobals := fun q => by
        obtain ⟨o, es, ep, e, d, _⟩ := gl
        rw [q, e] at c3
        cases c3
        rw [d] at c6
        cases c6
      have n2 : bm ≠ p.2.1 := fun q => by
        rw [q, tp] at c3
        cases c3
        cases c6
      exact ⟨bm, ob, c1, c2, n1, n2, low c3 (pure0 c3 (fun vs n z => by
        rw [c6] at z
        cases z) fun z => by
        rw [c6] at z
        cases z), c4, c5, c6⟩
    · obtain ⟨o, es, ep, e, d, _⟩ := gl
      rw [z, tp] at e
      cases e
      cases d
  have e0 : Env0 P w K mg (hidT s1.heap H) callerA [] s1 H := ⟨rfl, md, fun _ _ e => of_hidT e, Nat.le_of_eq (hidT_size _ _), trivial, fun b hb => absurd (show b ∈ ([] : List Addr) from hb) (List.not_mem_nil), hok, .of_eq gn⟩
  have sp : spF K M 1 m [.ref ad] H (fun v _ => v = .bl true) fun _ _ _ => False := by
    let z : Sg := ⟨H, [], [], []⟩
    have nz : ∀ a, ¬ z.ow a := fun a q => by
      rcases q with ⟨n, o, h, _⟩ | h
      · cases h
      · cases h
    have ax : Aux K M z := by
      refine ⟨fun p hp => ?_, fun p hp => ?_, fun p hp => ?_⟩
      · rw [hMt] at hp
        obtain ⟨t, ht, et⟩ := List.mem_map.mp hp
        rw [← et]
        exact LamX.TabS.nil (tb t ht)
      · rw [hMc] at hp
        cases hp
      · rw [hMd] at hp
        cases hp
    refine ⟨[.lst (ns.map D.int)], z, rfl, ⟨rfl, List.nodup_nil, fun g hg => (nomatch hg), fun g hg => (nomatch hg), fun n o a h => (nomatch h), ax⟩, rfl, .cons (.of (.lst (rl.imp (fun h => ⟨h.1, nz ad⟩) id) (ints_enc ns))) .nil, ?_⟩
    show Out K M (EncA K M) _ [] z _ (m [.lst (ns.map D.int)] [])
    rw [hm]
    exact fun z' b _ _ _ q => encA_bl q
  refine codeAny_mono ((G _ kl (nsl gl) mk ⟨md2, nsl nd1, nd2⟩).run callerA [] s1 H _ [.ref ad] [.ref ad] _ _ room rfl e0 (bi s1 (.ref ad)) (.cons rfl .nil) sp) fun r s2 h => ?_
  cases r with
  | error e =>
    obtain ⟨_, _, _, _, _, _, _, _, _, _, _, _, q⟩ := h
    exact q.elim
  | ok fw =>
    cases fw with
    | ret u =>
      obtain ⟨v, H', os, bare, un, hok', r', q⟩ := h
      have q' : v = .bl true := q
      rw [q'] at r'
      have eu : u = Value.bool true := r'
      rw [eu]
      have rest : ∀ b o, (¬ ∃ p ∈ cs, p.2.1 = b) → s1.heap.get? b = some o → s2.heap.get? b = some o := by
        intro b o nb e
        rcases only b with q | q | ⟨ob, xs, q⟩
        · exact un.keep b o e q (by simp [frs]) (by simp)
        · exact absurd q nb
        · have w1 := (hok b _ q).1
          have w2 := (hok' b _ (un.frzs b ob _ q)).1
          rw [e] at w1
          rw [Option.some.inj w1]
          exact w2
      have more : ∀ p ∈ cs, ∃ xs : Array Value, s2.heap.get? p.2.1 = some { cls := .none, data := .fields xs } := by
        intro p hp
        obtain ⟨xs, z⟩ := un.tbls p.2.1 #[] (tb p hp)
        exact ⟨_, hok' p.2.1 _ z⟩
      refine ⟨rfl, ⟨fun b o e => ?_, fun b o e => ?_⟩, os, bare⟩
      · by_cases hb : ∃ p ∈ cs, p.2.1 = b
        · obtain ⟨p, hp, eb⟩ := hb
          obtain ⟨xs, hx⟩ := more p hp
          rw [← eb] at e ⊢
          have tp := T0.at_ p hp
          rw [tp] at e
          cases e
          exact .inr (.inl ⟨((T0.hd p hp).tab tp).isCodeTable, rfl, #[], xs, rfl, by
            rw [Array.empty_append]
            exact hx⟩)
        · exact .inl (rest b o hb e)
      · by_cases hb : ∃ p ∈ cs, p.2.1 = b
        · obtain ⟨p, hp, eb⟩ := hb
          obtain ⟨xs, hx⟩ := more p hp
          rw [← eb]
          exact ⟨_, hx⟩
        · exact ⟨o, rest b o hb e⟩
    | _ => exact False.elim h
theorem end_call {cs : Mk} (kin : K.In s1.heap) (gl : s1.heap.Ns mainGlobals mg) (bl : s1.heap.Ns builtinsNs mb) (boot : ∀ y : Str, y ≠ "__name__" → mb y = bootBuiltins y) (nl : s1.heap.NoLimit) (nd : s1.heap.NoDigits) (gn : s1.gens = #[]) (T0 : Mk0 K cs s1.heap)
    (main : ∃ (m : Addr) (o : Obj), mg "__builtins__" = some (.ref m) ∧ m ≠ builtinsNs ∧ s1.heap.get? m = some o ∧ o.cls = .type "module" ∧ o.dict = some builtinsNs ∧ o.data = .plain) (hMt : M.tabs = cs.map (·.2)) (hMc : M.caps = []) (hMd : M.codes = [])
    (at1 : s1.heap.get? ad = some { cls := .type "list", data := .seq us.toArray }) (hi : IntsAre us ns) (hl : ns.length ≤ sizeLine) (room : Room k callerA) (G : ∀ base : Heap, K.In base → base.Ns mainGlobals mg → MkB base mg cs → base.NoDigits → FnS P w K M mg base k fl fd [x] m)
    (bi : ∀ (s : Shared) (u : Value), BindsTo s fd ⟨[u], []⟩ [(x, u)]) (hm : m [.lst (ns.map D.int)] [] = .ok (.bl true) S') :
    codeAny (model P w) callerA (.call (.ref fl) ⟨[.ref ad], []⟩) (Gone s1) s1 := by
  have rv := vals_ints hi
  have ll := hi.length
  have na : ¬ ∃ p ∈ cs, p.2.1 = ad := fun ⟨p, hp, e⟩ => by
    have q := T0.at_ p hp
    rw [e, at1] at q
    cases (show Data.seq us.toArray _ = Data.fields #[] from congrArg Obj.data (Option.some.inj q))
  classical
  cases q : K.lookup ad with
  | some o =>
    have e := kin ad o q
    rw [at1] at e
    have e := Option.some.inj e
    subst e
    let H : Hp := fun b => if ∃ p ∈ cs, p.2.1 = b then some (.tbl #[]) else none
    have hT : ∀ b, (∃ p ∈ cs, p.2.1 = b) → H b = some (.tbl #[]) := fun b h => if_pos h
    have hN : ∀ b, (¬ ∃ p ∈ cs, p.2.1 = b) → H b = none := fun b h => if_neg h
    refine end_core (H := H) kin gl bl boot nl nd gn T0 main hMt hMc hMd at1 room G bi hm (fun p hp => hT _ ⟨p, hp, rfl⟩) (fun b => ?_) (.inr ⟨us.toArray, _, q, by
      rw [List.size_toArray, ll]
      exact hl, rv⟩) (fun b u z => ?_) (fun b z => ?_) fun z => absurd (hN _ na) z
    · by_cases hb : ∃ p ∈ cs, p.2.1 = b
      · exact .inr (.inl hb)
      · exact .inl (hN b hb)
    · by_cases hb : ∃ p ∈ cs, p.2.1 = b
      · rw [hT b hb] at z
        cases z
        obtain ⟨p, hp, eb⟩ := hb
        rw [← eb]
        exact T0.at_ p hp
      · rw [hN b hb] at z
        cases z
    · by_cases hb : ∃ p ∈ cs, p.2.1 = b
      · exact .inr hb
      · exact absurd (hN b hb) z
  | none =>
    let H : Hp := fun b => if b = ad then some (.frz { cls := .type "list", data := .seq us.toArray } (.lst (ns.map V.int))) else if ∃ p ∈ cs, p.2.1 = b then some (.tbl #[]) else none
    have h1 : H ad = some (.frz { cls := .type "list", data := .seq us.toArray } (.lst (ns.map V.int))) := if_pos rfl
    have hT : ∀ b, (∃ p ∈ cs, p.2.1 = b) → H b = some (.tbl #[]) := fun b h => (if_neg fun e => na (by rw [← e]; exact h)).trans (if_pos h)
    have hN : ∀ b, b ≠ ad → (¬ ∃ p ∈ cs, p.2.1 = b) → H b = none := fun b n h => (if_neg n).trans (if_neg h)
    refine end_core (H := H) kin gl bl boot nl nd gn T0 main hMt hMc hMd at1 room G bi hm (fun p hp => hT _ ⟨p, hp, rfl⟩) (fun b => ?_) (.inl ⟨.inr ⟨_, h1⟩, fun z => z⟩) (fun b u z => ?_) (fun b z => ?_) fun _ => q
    · by_cases c : b = ad
      · rw [c]
        exact .inr (.inr ⟨_, _, h1⟩)
      · by_cases hb : ∃ p ∈ cs, p.2.1 = b
        · exact .inr (.inl hb)
        · exact .inl (hN b c hb)
    · by_cases c : b = ad
      · rw [c] at z ⊢
        rw [h1] at z
        have z := Option.some.inj z
        subst z
        exact ⟨at1, by
          rw [List.length_map]
          exact hl, us, _, rv, at1⟩
      · by_cases hb : ∃ p ∈ cs, p.2.1 = b
        · rw [hT b hb] at z
          cases z
          obtain ⟨p, hp, eb⟩ := hb
          rw [← eb]
          exact T0.at_ p hp
        · rw [hN b c hb] at z
          cases z
    · by_cases c : b = ad
      · exact .inl c
      · by_cases hb : ∃ p ∈ cs, p.2.1 = b
        · exact .inr hb
        · exact absurd (hN b c hb) z
end
/-- what is known of the law's def at the head's heap -/
def LawF (l : PySem.W.OpenLaw) (w : World) (K : PySem.W.Frag) (M : Lm) (mg : Str → Option Value) (k : Nat) (fl : Addr) (x : Str) (m : Fn) (h : Heap) : Prop :=
  ∃ (fd : FuncData) (cs : Mk), Mk0 K cs h ∧ M.tabs = cs.map (·.2) ∧ M.caps = [] ∧ M.codes = [] ∧ (∀ (s : Shared) (u : Value), BindsTo s fd ⟨[u], []⟩ [(x, u)]) ∧
    ∀ base : Heap, K.In base → base.Ns mainGlobals mg → MkB base mg cs → base.NoDigits → FnS l.prog w K M mg base k fl fd [x] m
/-- the goal that the head leaves, from the law's def as a plain function -/
theorem end_ofL {l : PySem.W.OpenLaw} {n k : Nat} {q : Program} {loose : List Str} {XP : (Str → Option Value) → Heap → Prop} {YP : World → Heap → Prop} {d : DefRec} {K : Params → PySem.W.Frag} {m : Fn} {x : Str}
    (hn : l.most = some n) (hn2 : n ≤ sizeLine) (hdf : d.params.defaults = []) (hr : Room k callerA) (hY : ∀ (w : World) (h : Heap), YP w h → (K w.params).In h)
    (F : ∀ (w : World) (mg : Str → Option Value) (fl : Addr) (h : Heap), (∃ lo mean mb, Top q lo mean mg mb h) → (K w.params).In h → h.Ns mainGlobals mg → mg d.name = some (.ref fl) → ∃ M : Lm, LawF l w (K w.params) M mg k fl x m h)
    (hm : ∀ ns : List Int, ns.length ≤ n → (∀ z ∈ ns, Builtin.Int.intBits z ≤ 1048576) → ∃ S', m [.lst (ns.map D.int)] [] = .ok (.bl true) S') : PySem.W.WalkO q loose XP YP l.row.toRowW d [] (fun f vs => PySem.call f vs) := by
  refine Att.attach_callB hn hdf fun w s0 s1 mg mb fl o pm cd doc ad us ns G Y _ _ _ hmg hobj hints hlen hbits hg => ?_
  obtain ⟨M, fd, cs, T0, e1, e2, e3, hb, hF⟩ := F w mg fl _ ⟨_, _, _, G.T⟩ (hY w _ Y) G.T.g hmg
  obtain ⟨S', hm⟩ := hm ns hlen hbits
  exact end_call (hY w _ Y) G.T.g G.T.b G.T.builtins G.T.nolimit G.T.nodigits hg T0 G.T.bmain e1 e2 e3 hobj hints (Nat.le_trans hlen hn2) hr hF hb hm
end Sm
/-! Sm16: what a printed text names. -/
namespace Sm
open PySem PySem.Spec PyProof.Rows L2
/-- a def of the text, its promise kept -/
structure Def (P : Program) (w : World) (K : PySem.W.Frag) (M : Lm) (mg : Str → Option Value) (base : Heap) (x : Str) (k : Nat) (ps : List Str) (m : Fn) : Prop where
  ex : ∃ (f : Addr) (fd : FuncData), FnS P w K M mg base k f fd ps m ∧ mg x = some (.ref f) ∧ PySem.W.keepIn K (.ref f) = true ∧ Binds K fd ps []
/-- where it stands -/
structure Kn (K : PySem.W.Frag) (mg : Str → Option Value) (x : Str) (st : Stmt) (ps : List Str) (f : Addr) (fd : FuncData) : Prop where
  at_ : mg x = some (.ref f)
  kp : PySem.W.keepIn K (.ref f) = true
  bi : Binds K fd ps []
  fn : Fun K x x st f fd
theorem Kn.def {P : Program} {w : World} {K : PySem.W.Frag} {M : Lm} {mg : Str → Option Value} {base : Heap} {x : Str} {st : Stmt} {ps : List Str} {f : Addr} {fd : FuncData} {k : Nat} {m : Fn} (N : Kn K mg x st ps f fd) (F : FnS P w K M mg base k f fd ps m) : Def P w K M mg base x k ps m := ⟨f, fd, F, N.at_, N.kp, N.bi⟩
/-- a module's constant -/
structure Con (K : PySem.W.Frag) (mg : Str → Option Value) (x : Str) (d : D) : Prop where
  ex : ∃ u, mg x = some u ∧ kcB K d u = true
theorem Con.of {K : PySem.W.Frag} {mg : Str → Option Value} {h : Heap} {x : Str} {d : D} (X : K.In h) (G : h.Ns mainGlobals mg) (e : kcAt K x d = true) : Con K mg x d := by
  obtain ⟨u, e1, e2⟩ := kcAt_ok e
  exact ⟨u, PySem.W.mg_of X G e1, e2⟩
theorem takes_W0 {X : Cx} : Takes X W0 := fun u s' ⟨a, B, sI, pins, σ, H, cls, d, e, I, nb, up, sky, na, os, ag, w⟩ => w.elim
section
variable {X : Cx} {M : Lm} {W : WX}
theorem s_callD {j k : Nat} {ps : List Str} {m : Fn} {x : Str} {p pos : Pos} {e : Expr} {es : List Expr} {g : Env → Sto → Res (List D)} (N : Def X.prog X.w X.K M X.mg X.base x j ps m) (hr : Room k X.A) (gd : X.A.guards = some []) (tk : Takes X W) (ha : SA X M W (e :: es) g) (hj : j ≤ k := by decide) (hg : Gl X x := by rfl)
    (hdb : (x == ("__debug__" : Str)) = false := by decide) (he : starEach (e :: es) X.env = (false, eval e X.env) :: starEach es X.env := by rfl) (hpl : (backTo pos (starEach es X.env)).any (·.1) = false := by rfl) : SE X M W (.Call (.Name x p) (e :: es) [] pos) (callF m g) := by
  obtain ⟨f, fd, F, h1, h2, h3⟩ := N.ex
  exact s_call (F.mono hj) hr gd h1 h2 h3 tk ha hg hdb he hpl
theorem s_callD0 {j k : Nat} {ps : List Str} {m : Fn} {x : Str} {p pos : Pos} (N : Def X.prog X.w X.K M X.mg X.base x j ps m) (hr : Room k X.A) (gd : X.A.guards = some []) (tk : Takes X W) (hj : j ≤ k := by decide) (hg : Gl X x := by rfl) (hdb : (x == ("__debug__" : Str)) = false := by decide) : SE X M W (.Call (.Name x p) [] [] pos) (callF m nilA) := by
  obtain ⟨f, fd, F, h1, h2, h3⟩ := N.ex
  exact s_call0 (F.mono hj) hr gd h1 h2 h3 tk hg hdb
theorem s_con {x : Str} {d : D} {pos : Pos} (C : Con X.K X.mg x d) (hg : Gl X x := by rfl) (hd : (x == ("__debug__" : Str)) = false := by decide) : SE X M W (.Name x pos) (conF d) := by
  obtain ⟨u, h1, h2⟩ := C.ex
  exact s_glob h1 h2 hg hd
/-- a built-in class by its name -/
theorem s_bty {x : Str} {pos : Pos} (t : Ty) (hm : X.mg x = none) (hv : bootBuiltins x = some (.type t.name) := by rfl) (hg : Gl X x := by rfl) (hn : x ≠ "__name__" := by decide) (hd : (x == ("__debug__" : Str)) = false := by decide) : SE X M W (.Name x pos) (conF (.ty t)) :=
  pe_imp (pe_bltn hg hm hv (v := .ty t.name) rfl hn hd) fun _ _ _ h => tc_of (fun _ _ => .ty t) h
end
/-! ### one's own, from what makes a list -/
section
variable {X : Cx} {M : Lm} {W : WX} {K : PySem.W.Frag} {z : Sg}
theorem out_own {σ : St} {Q : VK} {l : List D} {vs : List V} (k : SOk K M z) (e : EncL K M z.H z.ow l vs) (h : Out K M (EncA K M) W σ z Q (.ok (.ref z.S.length) (z.S ++ [.lst false l]))) : ∀ p, z.H p = none → Q (.ref p) (upd z.H p (.lst vs)) := fun p np =>
  h (z.push p (.lst vs) (.lst false l)) (.ref p) rfl (ext_push np k) (sok_push np k ⟨vs, upd_same, e.mv (ext_push np k).mv⟩) (encA_push k)
def splitO : Mt := fun d as S => match d, as with
  | .str a, [.str b] => if (decide (b ≠ []) && decide (a.length + 2 ≤ LINE)) = true then .ok (.ref S.length) (S ++ [.lst false ((Txt.split (toS a) (toS b)).map strD)]) else .bad
  | _, _ => .bad
theorem splitO_ok : MtR X "str.split" (rMt X.K M W splitO) := mt_of fun d as x xs z σ' Q k qa qs h => by
  match d, as, qa, qs, h with
  | .str a, [.str b], qa, qs, h =>
    obtain ⟨w, rfl, qy⟩ := encAs1 qs
    have h' : Out X.K M (EncA X.K M) W σ' z Q (if (decide (b ≠ []) && decide (a.length + 2 ≤ LINE)) = true then .ok (.ref z.S.length) (z.S ++ [.lst false ((Txt.split (toS a) (toS b)).map strD)]) else .bad) := h
    by_cases c : (decide (b ≠ []) && decide (a.length + 2 ≤ LINE)) = true
    · rw [if_pos c] at h'
      rw [Bool.and_eq_true] at c
      rw [encA_str qa, encA_str qy]
      refine ⟨_, mt_split, toS a, toS b, rfl, rfl, ?_, ?_, out_own k (strsD_enc _) h'⟩
      · cases b with
        | nil => exact absurd rfl (of_decide_eq_true c.1)
        | cons _ _ => rfl
      · show a.toArray.size + 2 ≤ _
        rw [List.size_toArray, ← line_eq]
        exact of_decide_eq_true c.2
    · rw [if_neg c] at h'
      exact h'.elim
end
end Sm
/-! Sm17: where a def stands. -/
namespace Sm
open PySem PySem.Spec PyProof.Rows L2
def M0 : Lm := { cls := fun _ => 0, fld := fun _ => [] }
theorem Kn.mk' {K : PySem.W.Frag} {mg : Str → Option Value} {h : Heap} {x : Str} {st : Stmt} {ps : List Str} {f : Addr} {oc kV doc pm cdv ct : Value} {od an : Option Addr} {sl : Array (Option Value)} (X : K.In h) (G : h.Ns mainGlobals mg) (a : PySem.W.nsIn K mainGlobals x = some (some (.ref f)))
    (l : K.lookup f = some ⟨oc, od, .func (PySem.W.fnOf x x (defArgs st) (defBody st) (defScope st) .none kV doc pm an cdv ct), sl⟩) (c : PySem.W.codeIn K cdv x = true) (k : PySem.W.keepIn K (.ref f) = true)
    (b : ∀ (kV doc pm : Value) (an : Option Addr) (cdv ct : Value) (us : List Value), us.length = ps.length → bindArgs (PySem.W.fnOf x x (defArgs st) (defBody st) (defScope st) .none kV doc pm an cdv ct) ⟨us, []⟩ = pure (ps.zip us)) :
    Kn K mg x st ps f (PySem.W.fnOf x x (defArgs st) (defBody st) (defScope st) .none kV doc pm an cdv ct) := by
  have F := fun_mk (st := st) l c k
  exact ⟨PySem.W.mg_of X G a, k, F.binds b, F⟩
theorem kc_tup {K : PySem.W.Frag} {l : List D} {a : Addr} {od : Option Addr} {its : Array Value} {n : Nat} {sl : Array (Option Value)} (h : K.lookup a = some ⟨.type "tuple", od, .seq its n, sl⟩) (hs : its.size ≤ sizeLine) (hl : kcL K l its.toList = true) : kcB K (.tup l) (.ref a) = true := by
  unfold kcB
  rw [h]
  dsimp only
  rw [hl, decide_eq_true hs]
  rfl
theorem kc_cons {K : PySem.W.Frag} {d : D} {l : List D} {v : Value} {r : List Value} (h : kcB K d v = true) (h2 : kcL K l r = true) : kcL K (d :: l) (v :: r) = true := by
  unfold kcL
  rw [h, h2]
  rfl
theorem kc_nil {K : PySem.W.Frag} : kcL K [] [] = true := rfl
theorem Con.of2 {K : PySem.W.Frag} {mg : Str → Option Value} {h : Heap} {x : Str} {d : D} {u : Value} (X : K.In h) (G : h.Ns mainGlobals mg) (e : PySem.W.nsIn K mainGlobals x = some (some u)) (c : kcB K d u = true) : Con K mg x d := ⟨u, PySem.W.mg_of X G e, c⟩
end Sm
/-! Sm18: what the plain functions do, step by step. -/
namespace Sm
open PySem PySem.Spec PyProof.Rows L2
def OKR {α : Type} (r : Res α) (P : α → Sto → Prop) (E : D → Sto → Prop) : Prop := match r with
  | .ok a S => P a S
  | .ex e S => E e S
  | .bad => False
def OKS (r : SR) (N B C : Env → Sto → Prop) (T : D → Sto → Prop) (X : D → Env → Sto → Prop) : Prop := match r with
  | .nx e S => N e S
  | .bk e S => B e S
  | .ct e S => C e S
  | .rt d S => T d S
  | .ex d e S => X d e S
  | .bad => False
def Bl (d : D) (Q : Bool → Prop) : Prop := ∃ b, d = .bl b ∧ Q b
def Br (b : Bool) (A B : Prop) : Prop := (b = true → A) ∧ (b = false → B)
section
variable {α β : Type} {P : α → Sto → Prop} {E : D → Sto → Prop} {S : Sto} {env : Env} {N B C : Env → Sto → Prop} {T : D → Sto → Prop} {X : D → Env → Sto → Prop} {R : D → Sto → Prop} {f g h : Env → Sto → Res D}
theorem OKR.mono {P' : α → Sto → Prop} {E' : D → Sto → Prop} {r : Res α} (h : OKR r P E) (hp : ∀ a S, P a S → P' a S) (he : ∀ e S, E e S → E' e S) : OKR r P' E' := by
  cases r with
  | ok a S => exact hp a S h
  | ex e S => exact he e S h
  | bad => exact h
theorem OKS.mono {N' B' C' : Env → Sto → Prop} {T' : D → Sto → Prop} {X' : D → Env → Sto → Prop} {r : SR} (h : OKS r N B C T X) (h1 : ∀ e S, N e S → N' e S) (h2 : ∀ e S, B e S → B' e S) (h3 : ∀ e S, C e S → C' e S) (h4 : ∀ e S, T e S → T' e S) (h5 : ∀ d e S, X d e S → X' d e S) : OKS r N' B' C' T' X' := by
  cases r with
  | nx e S => exact h1 e S h
  | bk e S => exact h2 e S h
  | ct e S => exact h3 e S h
  | rt e S => exact h4 e S h
  | ex d e S => exact h5 d e S h
  | bad => exact h
theorem OKR.of_eq {r : Res α} {v : α} (e : r = .ok v S) (h : P v S) : OKR r P E := by
  rw [e]
  exact h
theorem OKR.ok {r : Res α} (h : OKR r P fun _ _ => False) : ∃ v S, r = .ok v S ∧ P v S := by
  cases r with
  | ok a S => exact ⟨a, S, rfl, h⟩
  | ex e S => exact h.elim
  | bad => exact h.elim
theorem o_bind {r : Res α} {k : α → Sto → Res β} {P : β → Sto → Prop} (h : OKR r (fun a S1 => OKR (k a S1) P E) E) : OKR (r.bind k) P E := by
  cases r with
  | ok a S => exact h
  | ex e S => exact h
  | bad => exact h
theorem o_thn {r : Res α} {k : α → Sto → SR} (h : OKR r (fun a S1 => OKS (k a S1) N B C T X) fun e S1 => X e env S1) : OKS (r.thn env k) N B C T X := by
  cases r with
  | ok a S => exact h
  | ex e S => exact h
  | bad => exact h
/-! expressions -/
theorem o_ok {v : α} (h : P v S) : OKR (.ok v S) P E := h
theorem o_var {i : Nat} {d : D} (e : env[i]? = some (some d)) (h : R d S) : OKR (varF i env S) R E := by
  unfold varF
  rw [e]
  exact h
theorem o_con {d : D} (h : R d S) : OKR (conF d env S) R E := h
theorem o_bin {o : D → D → Sto → Res D} (h : OKR (f env S) (fun x S1 => OKR (g env S1) (fun y S2 => OKR (o x y S2) R E) E) E) : OKR (binF o f g env S) R E := o_bind (h.mono (fun _ _ q => o_bind q) fun _ _ q => q)
theorem o_call {m : Fn} {k : Env → Sto → Res (List D)} (h : OKR (k env S) (fun as S1 => OKR (m as S1) R E) E) : OKR (callF m k env S) R E := o_bind h
theorem o_nil {R : List D → Sto → Prop} (h : R [] S) : OKR (nilA env S) R E := h
theorem o_cons {k : Env → Sto → Res (List D)} {R : List D → Sto → Prop} (h : OKR (f env S) (fun d S1 => OKR (k env S1) (fun l S2 => R (d :: l) S2) E) E) : OKR (consA f k env S) R E := o_bind (h.mono (fun _ _ q => o_bind (q.mono (fun _ _ q => q) fun _ _ q => q)) fun _ _ q => q)
theorem o_neg (h : OKR (f env S) (fun d S1 => ∃ i, d = .int i ∧ R (.int (-i)) S1) E) : OKR (negF f env S) R E := o_bind (h.mono (fun _ _ q => by
  obtain ⟨i, rfl, q⟩ := q
  exact q) fun _ _ q => q)
theorem o_not (h : OKR (f env S) (fun d S1 => Bl d fun b => R (.bl (!b)) S1) E) : OKR (notV f env S) R E := o_bind (h.mono (fun _ _ q => by
  obtain ⟨i, rfl, q⟩ := q
  exact q) fun _ _ q => q)
theorem o_and (h : OKR (f env S) (fun d S1 => Bl d fun b => Br b (OKR (g env S1) R E) (R (.bl false) S1)) E) : OKR (andV f g env S) R E := o_bind (h.mono (fun _ _ q => by
  obtain ⟨i, rfl, q⟩ := q
  cases i with
  | true => exact q.1 rfl
  | false => exact q.2 rfl) fun _ _ q => q)
theorem o_or (h : OKR (f env S) (fun d S1 => Bl d fun b => Br b (R (.bl true) S1) (OKR (g env S1) R E)) E) : OKR (orV f g env S) R E := o_bind (h.mono (fun _ _ q => by
  obtain ⟨i, rfl, q⟩ := q
  cases i with
  | true => exact q.1 rfl
  | false => exact q.2 rfl) fun _ _ q => q)
theorem o_ite {t : Env → Sto → Res Bool} (h : OKR (t env S) (fun b S1 => Br b (OKR (f env S1) R E) (OKR (g env S1) R E)) E) : OKR (iteF t f g env S) R E := o_bind (h.mono (fun i _ q => by
  cases i with
  | true => exact q.1 rfl
  | false => exact q.2 rfl) fun _ _ q => q)
theorem o_chain {o p : D → D → Sto → Res D} (hh : OKR (f env S) (fun x S1 => OKR (g env S1) (fun y S2 => OKR (o x y S2) (fun d S3 => Bl d fun b => Br b (OKR (h env S3) (fun w S4 => OKR (p y w S4) R E) E) (R (.bl false) S3)) E) E) E) : OKR (chainF o p f g h env S) R E :=
  o_bind (hh.mono (fun _ _ q => o_bind (q.mono (fun _ _ q => o_bind (q.mono (fun _ _ q => by
    obtain ⟨i, rfl, q⟩ := q
    cases i with
    | true => exact o_bind (q.1 rfl)
    | false => exact q.2 rfl) fun _ _ q => q)) fun _ _ q => q)) fun _ _ q => q)
theorem o_tup {k : Env → Sto → Res (List D)} (h : OKR (k env S) (fun l S1 => OKR (frzL l S1) (fun l S2 => l.length ≤ LINE ∧ R (.tup l) S2) E) E) : OKR (tupF k env S) R E := o_bind (h.mono (fun _ _ q => o_bind (q.mono (fun _ _ q => by
  rw [if_pos q.1]
  exact q.2) fun _ _ q => q)) fun _ _ q => q)
theorem o_lst {k : Env → Sto → Res (List D)} (h : OKR (k env S) (fun l S1 => OKR (frzL l S1) (fun l S2 => l.length ≤ LINE ∧ R (.lst l) S2) E) E) : OKR (lstF k env S) R E := o_bind (h.mono (fun _ _ q => o_bind (q.mono (fun _ _ q => by
  rw [if_pos q.1]
  exact q.2) fun _ _ q => q)) fun _ _ q => q)
theorem o_lstO {k : Env → Sto → Res (List D)} (h : OKR (k env S) (fun l S1 => OKR (frzL l S1) (fun l S2 => l.length ≤ LINE ∧ R (.ref S2.length) (S2 ++ [.lst false l])) E) E) : OKR (lstO k env S) R E := o_bind (h.mono (fun _ _ q => o_bind (q.mono (fun _ _ q => by
  rw [if_pos q.1]
  exact q.2) fun _ _ q => q)) fun _ _ q => q)
theorem o_frz0 {R : List D → Sto → Prop} (h : R [] S) : OKR (frzL [] S) R E := h
theorem o_frzc {d : D} {l : List D} {R : List D → Sto → Prop} (h : OKR (frz1 d S) (fun d S1 => OKR (frzL l S1) (fun l S2 => R (d :: l) S2) E) E) : OKR (frzL (d :: l) S) R E := o_bind (h.mono (fun _ _ q => o_bind (q.mono (fun _ _ q => q) fun _ _ q => q)) fun _ _ q => q)
/-- no object of one's own -/
def nr : D → Bool
  | .ref _ => false
  | .fn => false
  | _ => true
theorem frz1_nr {d : D} (h : nr d = true) : frz1 d S = .ok d S := by cases d <;> first | rfl | cases h
theorem frzL_nr : ∀ {l : List D}, l.all nr = true → frzL l S = .ok l S
  | [], _ => rfl
  | d :: l, h => by
    rw [List.all_cons, Bool.and_eq_true] at h
    unfold frzL
    rw [frz1_nr h.1]
    show (frzL l S).bind _ = _
    rw [frzL_nr h.2]
    rfl
theorem o_frz {d : D} (e : nr d = true) (h : R d S) : OKR (frz1 d S) R E := OKR.of_eq (frz1_nr e) h
theorem o_mt {t : Ty} {m : Mt} {k : Env → Sto → Res (List D)} (h : OKR (f env S) (fun d S1 => hasTy t d S1 = true ∧ OKR (k env S1) (fun as S2 => OKR (m d as S2) R E) E) E) : OKR (mtF t m f k env S) R E := o_bind (h.mono (fun _ _ q => by
  rw [if_pos q.1]
  exact o_bind q.2) fun _ _ q => q)
theorem o_mt0 {t : Ty} {m : Mt} (h : OKR (f env S) (fun d S1 => hasTy t d S1 = true ∧ OKR (m d [] S1) R E) E) : OKR (mtF0 t m f env S) R E := o_bind (h.mono (fun _ _ q => by
  rw [if_pos q.1]
  exact q.2) fun _ _ q => q)
theorem o_slice {lo hi : Env → Sto → Res (Option Int)} (h : OKR (f env S) (fun a S1 => OKR (lo env S1) (fun l S2 => OKR (hi env S2) (fun h S3 => OKR (cutD a l h S3) R E) E) E) E) : OKR (sliceF f lo hi env S) R E := o_bind (h.mono (fun _ _ q => o_bind (q.mono (fun _ _ q => o_bind (q.mono (fun _ _ q => q) fun _ _ q => q)) fun _ _ q => q)) fun _ _ q => q)
theorem o_nopart {R : Option Int → Sto → Prop} (h : R none S) : OKR (noPart env S) R E := h
theorem o_part {R : Option Int → Sto → Prop} (h : OKR (f env S) (fun d S1 => ∃ i, d = .int i ∧ R (some i) S1) E) : OKR (partF f env S) R E := o_bind (h.mono (fun _ _ q => by
  obtain ⟨i, rfl, q⟩ := q
  exact q) fun _ _ q => q)
theorem o_rev (h : OKR (f env S) (fun a S1 => ∃ l, getL a S1 = some l ∧ R (.lst l.reverse) S1) E) : OKR (revF f env S) R E := o_bind (h.mono (fun _ _ q => by
  obtain ⟨i, e, q⟩ := q
  rw [e]
  exact q) fun _ _ q => q)
theorem o_dic0 (h : R (.dic []) S) : OKR (dic0 env S) R E := h
theorem o_dicO (h : R (.ref S.length) (S ++ [.dic false []])) : OKR (dicO env S) R E := h
/-! tests -/
theorem o_isB {R : Bool → Sto → Prop} (h : OKR (f env S) (fun d S1 => Bl d fun b => R b S1) E) : OKR (isB f env S) R E := o_bind (h.mono (fun _ _ q => by
  obtain ⟨i, rfl, q⟩ := q
  exact q) fun _ _ q => q)
theorem o_andT {f g : Env → Sto → Res Bool} {R : Bool → Sto → Prop} (h : OKR (f env S) (fun b S1 => Br b (OKR (g env S1) R E) (R false S1)) E) : OKR (andT f g env S) R E := o_bind (h.mono (fun i _ q => by
  cases i with
  | true => exact q.1 rfl
  | false => exact q.2 rfl) fun _ _ q => q)
theorem o_orT {f g : Env → Sto → Res Bool} {R : Bool → Sto → Prop} (h : OKR (f env S) (fun b S1 => Br b (R true S1) (OKR (g env S1) R E)) E) : OKR (orT f g env S) R E := o_bind (h.mono (fun i _ q => by
  cases i with
  | true => exact q.1 rfl
  | false => exact q.2 rfl) fun _ _ q => q)
theorem o_notT {f : Env → Sto → Res Bool} {R : Bool → Sto → Prop} (h : OKR (f env S) (fun b S1 => R (!b) S1) E) : OKR (notT f env S) R E := o_bind (h.mono (fun _ _ q => q) fun _ _ q => q)
theorem o_yes {R : Bool → Sto → Prop} (h : R true S) : OKR (yesF env S) R E := h
theorem bl_mk {x : Bool} {R : Bool → Prop} (h : R x) : Bl (.bl x) R := ⟨x, rfl, h⟩
theorem br_t {A B : Prop} (h : A) : Br true A B := ⟨fun _ => h, fun e => by cases e⟩
theorem br_f {A B : Prop} (h : B) : Br false A B := ⟨fun e => (by cases e), fun _ => h⟩
theorem br_dec {p : Prop} [Decidable p] {A B : Prop} (h1 : p → A) (h2 : ¬ p → B) : Br (decide p) A B := ⟨fun e => h1 (of_decide_eq_true e), fun e => h2 (of_decide_eq_false e)⟩
theorem br_ndec {p : Prop} [Decidable p] {A B : Prop} (h1 : p → B) (h2 : ¬ p → A) : Br (!decide p) A B := ⟨fun e => h2 (by simpa using e), fun e => h1 (by simpa using e)⟩
theorem br_not {x : Bool} {A B : Prop} (h : Br x B A) : Br (!x) A B := ⟨fun e => h.2 (by simpa using e), fun e => h.1 (by simpa using e)⟩
/-! statements -/
theorem o_seq {f g : Env → Sto → SR} (h : OKS (f env S) (fun e S1 => OKS (g e S1) N B C T X) B C T X) : OKS (seqF f g env S) N B C T X := by
  unfold seqF
  cases r : f env S with
  | nx e S1 =>
    rw [r] at h
    exact h
  | bk e S1 =>
    rw [r] at h
    exact h
  | ct e S1 =>
    rw [r] at h
    exact h
  | rt e S1 =>
    rw [r] at h
    exact h
  | ex d e S1 =>
    rw [r] at h
    exact h
  | bad =>
    rw [r] at h
    exact h
theorem o_set {i : Nat} (h : OKR (f env S) (fun d S1 => N (env.set i (some d)) S1) fun e S1 => X e env S1) : OKS (setF i f env S) N B C T X := o_thn h
theorem o_ret (h : OKR (f env S) (fun d S1 => T d S1) fun e S1 => X e env S1) : OKS (retF f env S) N B C T X := o_thn h
theorem o_retN (h : T .non S) : OKS (retN env S) N B C T X := h
theorem o_drop (h : OKR (f env S) (fun d S1 => N env S1) fun e S1 => X e env S1) : OKS (dropF f env S) N B C T X := o_thn h
theorem o_nop (h : N env S) : OKS (nopF env S) N B C T X := h
theorem o_brk (h : B env S) : OKS (brkF env S) N B C T X := h
theorem o_cnt (h : C env S) : OKS (cntF env S) N B C T X := h
theorem o_if {t : Env → Sto → Res Bool} {f g : Env → Sto → SR} (h : OKR (t env S) (fun b S1 => Br b (OKS (f env S1) N B C T X) (OKS (g env S1) N B C T X)) fun e S1 => X e env S1) : OKS (ifF t f g env S) N B C T X := o_thn (h.mono (fun i _ q => by
  cases i with
  | true => exact q.1 rfl
  | false => exact q.2 rfl) fun _ _ q => q)
theorem o_par {is : List Nat} {k : Env → Sto → Res (List D)} (h : OKR (k env S) (fun as S1 => as.length = is.length ∧ N (parF.putAll is as env) S1) fun e S1 => X e env S1) : OKS (parF is k env S) N B C T X := o_thn (h.mono (fun _ _ q => by
  rw [if_pos q.1]
  exact q.2) fun _ _ q => q)
theorem o_unp {t : Tgt} (h : OKR (f env S) (fun d S1 => ∃ env1, t.put d env = some env1 ∧ N env1 S1) fun e S1 => X e env S1) : OKS (unpF t f env S) N B C T X := o_thn (h.mono (fun _ _ q => by
  obtain ⟨e1, q1, q2⟩ := q
  rw [q1]
  exact q2) fun _ _ q => q)
theorem o_aug {i : Nat} {o : Int → Int → Int} {x : Int} (e : env[i]? = some (some (.int x))) (h : OKR (f env S) (fun d S1 => ∃ y, d = .int y ∧ N (env.set i (some (.int (o x y)))) S1) fun e S1 => X e env S1) : OKS (augF i o f env S) N B C T X := by
  unfold augF
  rw [e]
  exact o_thn (h.mono (fun _ _ q => by
    obtain ⟨y, rfl, q⟩ := q
    exact q) fun _ _ q => q)
theorem o_put {o i e : Env → Sto → Res D} (h : OKR (e env S) (fun v S1 => OKR (o env S1) (fun a S2 => OKR (i env S2) (fun b S3 => OKR (setD a b v S3) (fun _ S4 => N env S4) fun e S1 => X e env S1) fun e S1 => X e env S1) fun e S1 => X e env S1) fun e S1 => X e env S1) : OKS (putF o i e env S) N B C T X :=
  o_thn (h.mono (fun _ _ q => o_thn (q.mono (fun _ _ q => o_thn (q.mono (fun _ _ q => o_thn (q.mono (fun _ _ q => q) fun _ _ q => q)) fun _ _ q => q)) fun _ _ q => q)) fun _ _ q => q)
/-! defs -/
theorem o_fn {n k : Nat} {c : Bool} {body : Env → Sto → SR} {args : List D} (hl : args.length = n)
    (h : OKS (body (args.map some ++ List.replicate k none) S) (fun _ S' => OKR (if c then fin S.length .non S' else .ok .non S') R E) (fun _ _ => False) (fun _ _ => False) (fun d S' => OKR (if c then fin S.length d S' else .ok d S') R E) (fun e _ S' => E e (S'.take S.length))) : OKR (fnM n k c body args S) R E := by
  unfold fnM
  rw [if_pos hl]
  unfold fnEnd
  cases r : body (args.map some ++ List.replicate k none) S with
  | nx e S1 =>
    rw [r] at h
    exact h
  | bk e S1 =>
    rw [r] at h
    exact h.elim
  | ct e S1 =>
    rw [r] at h
    exact h.elim
  | rt e S1 =>
    rw [r] at h
    exact h
  | ex d e S1 =>
    rw [r] at h
    exact h
  | bad =>
    rw [r] at h
    exact h.elim
theorem o_fin {n : Nat} {d : D} {S' : Sto} (e : nr d = true) (h : R d (S'.take n)) : OKR (if true = true then fin n d S' else .ok d S') R E := by
  rw [if_pos rfl]
  cases d <;> first | exact h | cases e
theorem o_nofin {n : Nat} {d : D} {S' : Sto} (h : R d S') : OKR (if false = true then fin n d S' else .ok d S') R E := h
/-! loops -/
theorem forL_ok {t : Tgt} {b : Env → Sto → SR} {g : Option Nat} {o : Option Ob} (I : List D → Env → Sto → Prop) (hg : ∀ l env S n, I l env S → g = some n → S[n]? = o)
    (hs : ∀ d r env S, I (d :: r) env S → ∃ env1, t.put d env = some env1 ∧ OKS (b env1 S) (I r) N (I r) T X) (he : ∀ env S, I [] env S → N env S) : ∀ l env S, I l env S → OKS (forL t b g o l env S) N B C T X := by
  intro l
  induction l with
  | nil =>
    intro env S h
    unfold forL
    cases g with
    | none => exact he env S h
    | some n =>
      dsimp only
      rw [if_pos (hg _ _ _ n h rfl)]
      exact he env S h
  | cons d r ih =>
    intro env S h
    obtain ⟨env1, e1, hb⟩ := hs d r env S h
    have go : OKS (match t.put d env with
      | none => .bad
      | some env1 => match b env1 S with
        | .nx env2 S2 => forL t b g o r env2 S2
        | .ct env2 S2 => forL t b g o r env2 S2
        | .bk env2 S2 => .nx env2 S2
        | .rt d S2 => .rt d S2
        | .ex e env2 S2 => .ex e env2 S2
        | .bad => .bad) N B C T X := by
      rw [e1]
      dsimp only
      cases r2 : b env1 S with
      | nx e S1 =>
        rw [r2] at hb
        exact ih e S1 hb
      | bk e S1 =>
        rw [r2] at hb
        exact hb
      | ct e S1 =>
        rw [r2] at hb
        exact ih e S1 hb
      | rt e S1 =>
        rw [r2] at hb
        exact hb
      | ex d e S1 =>
        rw [r2] at hb
        exact hb
      | bad =>
        rw [r2] at hb
        exact hb
    unfold forL
    cases g with
    | none => exact go
    | some n =>
      dsimp only
      rw [if_pos (hg _ _ _ n h rfl)]
      exact go
theorem o_for {it : Env → Sto → Res Itm} {t : Tgt} {b : Env → Sto → SR} (h : OKR (it env S) (fun J S1 => OKS (forL t b J.g J.o J.l env S1) N B C T X) fun e S1 => X e env S1) : OKS (itF it t b env S) N B C T X := o_thn h
theorem o_while {t : Env → Sto → Res Bool} {b : Env → Sto → SR} (I : Nat → Env → Sto → Prop) (hs : ∀ n env S, I n env S → OKR (t env S) (fun c S1 => Br c (OKS (b env S1) (fun e S2 => ∃ m, m < n ∧ I m e S2) N (fun e S2 => ∃ m, m < n ∧ I m e S2) T X) (N env S1)) fun e S1 => X e env S1) :
    ∀ n env S, n < FUEL → I n env S → OKS (whileF t b env S) N B C T X := by
  have main : ∀ k n env S, n < k → I n env S → OKS (whileN t b k env S) N B C T X := by
    intro k
    induction k with
    | zero => intro n env S h; omega
    | succ k ih =>
      intro n env S hn hI
      unfold whileN
      refine o_thn ((hs n env S hI).mono (fun c S1 q => ?_) fun _ _ q => q)
      cases c with
      | false => exact q.2 rfl
      | true =>
        have q := q.1 rfl
        dsimp only
        cases r2 : b env S1 with
        | nx e S2 =>
          rw [r2] at q
          obtain ⟨m, hm, q⟩ := q
          exact ih m e S2 (by omega) q
        | bk e S2 =>
          rw [r2] at q
          exact q
        | ct e S2 =>
          rw [r2] at q
          obtain ⟨m, hm, q⟩ := q
          exact ih m e S2 (by omega) q
        | rt e S2 =>
          rw [r2] at q
          exact q
        | ex d e S2 =>
          rw [r2] at q
          exact q
        | bad =>
          rw [r2] at q
          exact q
  exact fun n env S hn hI => main FUEL n env S hn hI
/-- a comprehension: I l S acc holds where l is to come and acc is made (the last one first) -/
theorem lcL_ok {t : Tgt} {c : Env → Sto → Res Bool} {e : Env → Sto → Res D} {g : Option Nat} {o : Option Ob} {P : List D → Sto → Prop} (I : List D → Sto → List D → Prop) (hg : ∀ l S n acc, I l S acc → g = some n → S[n]? = o)
    (hs : ∀ d r S acc, I (d :: r) S acc → ∃ env1, t.put d env = some env1 ∧ OKR (c env1 S) (fun b S1 => Br b (OKR (e env1 S1) (fun v S2 => OKR (frz1 v S2) (fun w S3 => I r S3 (acc ++ [w])) fun _ _ => False) fun _ _ => False) (I r S1 acc)) fun _ _ => False) :
    ∀ l S acc, I l S acc → (∀ S acc, I [] S acc → P acc S) → OKR (lcL t c e g o env l S) (fun l S => P (acc ++ l) S) E := by
  intro l
  induction l with
  | nil =>
    intro S acc h hP
    unfold lcL
    cases g with
    | none =>
      show P (acc ++ []) S
      rw [List.append_nil]
      exact hP S acc h
    | some n =>
      dsimp only
      rw [if_pos (hg _ _ n _ h rfl)]
      show P (acc ++ []) S
      rw [List.append_nil]
      exact hP S acc h
  | cons d r ih =>
    intro S acc h hP
    obtain ⟨env1, e1, hc⟩ := hs d r S acc h
    have go : OKR (match t.put d env with
      | none => .bad
      | some env1 => match c env1 S with
        | .ok true S1 => match e env1 S1 with
          | .ok v S2 => match frz1 v S2 with
            | .ok w S3 => (lcL t c e g o env r S3).bind fun l S4 => .ok (w :: l) S4
            | _ => .bad
          | _ => .bad
        | .ok false S1 => lcL t c e g o env r S1
        | _ => .bad) (fun l S => P (acc ++ l) S) E := by
      rw [e1]
      dsimp only
      cases r1 : c env1 S with
      | bad =>
        rw [r1] at hc
        exact hc.elim
      | ex _ _ =>
        rw [r1] at hc
        exact hc.elim
      | ok b S1 =>
        rw [r1] at hc
        cases b with
        | false => exact ih S1 acc (hc.2 rfl) hP
        | true =>
          have hc := hc.1 rfl
          dsimp only
          cases r2 : e env1 S1 with
          | bad =>
            rw [r2] at hc
            exact hc.elim
          | ex _ _ =>
            rw [r2] at hc
            exact hc.elim
          | ok v S2 =>
            rw [r2] at hc
            dsimp only
            have hc : OKR (frz1 v S2) (fun w S3 => I r S3 (acc ++ [w])) fun _ _ => False := hc
            cases r3 : frz1 v S2 with
            | bad =>
              rw [r3] at hc
              exact hc.elim
            | ex _ _ =>
              rw [r3] at hc
              exact hc.elim
            | ok w S3 =>
              rw [r3] at hc
              refine o_bind ((ih S3 (acc ++ [w]) hc hP).mono (fun l S4 q => ?_) fun _ _ q => q)
              rw [List.append_assoc] at q
              exact q
    unfold lcL
    cases g with
    | none => exact go
    | some n =>
      dsimp only
      rw [if_pos (hg _ _ n _ h rfl)]
      exact go
theorem o_lc {own : List Nat} {it : Env → Sto → Res Itm} {t : Tgt} {c : Env → Sto → Res Bool} {e : Env → Sto → Res D} (h : OKR (it env S) (fun J S1 => J.l.length ≤ LINE ∧ OKR (lcL t c e J.g J.o (wipeE env own) J.l S1) (fun l S2 => R (.lst l) S2) E) E) : OKR (lcF own it t c e env S) R E :=
  o_bind (o_bind (h.mono (fun J _ q => by
    rw [if_pos q.1]
    exact q.2.mono (fun _ _ q => q) fun _ _ q => q) fun _ _ q => q))
theorem o_lcO {own : List Nat} {it : Env → Sto → Res Itm} {t : Tgt} {c : Env → Sto → Res Bool} {e : Env → Sto → Res D} (h : OKR (it env S) (fun J S1 => J.l.length ≤ LINE ∧ OKR (lcL t c e J.g J.o (wipeE env own) J.l S1) (fun l S2 => R (.ref S2.length) (S2 ++ [.lst false l])) E) E) : OKR (lcO own it t c e env S) R E :=
  o_bind (o_bind (h.mono (fun J _ q => by
    rw [if_pos q.1]
    exact q.2.mono (fun _ _ q => q) fun _ _ q => q) fun _ _ q => q))
/-! what is walked -/
theorem o_itR1 {k : Env → Sto → Res (List D)} {R : Itm → Sto → Prop} (h : OKR (k env S) (fun as S1 => ∃ j, as = [.int j] ∧ isSm j = true ∧ R ⟨rangeL 0 j.toNat, none, none⟩ S1) E) : OKR (itR1 k env S) R E := o_bind (h.mono (fun _ _ q => by
  obtain ⟨j, rfl, e, q⟩ := q
  show OKR (if isSm j = true then _ else _) R E
  rw [if_pos e]
  exact q) fun _ _ q => q)
theorem o_itR2 {k : Env → Sto → Res (List D)} {R : Itm → Sto → Prop} (h : OKR (k env S) (fun as S1 => ∃ i j, as = [.int i, .int j] ∧ (isSm i && isSm j) = true ∧ R ⟨rangeL i (j - i).toNat, none, none⟩ S1) E) : OKR (itR2 k env S) R E := o_bind (h.mono (fun _ _ q => by
  obtain ⟨i, j, rfl, e, q⟩ := q
  show OKR (if (isSm i && isSm j) = true then _ else _) R E
  rw [if_pos e]
  exact q) fun _ _ q => q)
/-- what is walked, by its form -/
def Sq (d : D) (S : Sto) (R : Itm → Sto → Prop) : Prop := match d with
  | .lst l => R ⟨l, none, none⟩ S
  | .tup l => R ⟨l, none, none⟩ S
  | .str s => R ⟨sgL s, none, none⟩ S
  | .ref n => ∃ fz l, S[n]? = some (.lst fz l) ∧ R ⟨l, some n, some (.lst fz l)⟩ S
  | _ => False
theorem sq_lst {l : List D} {R : Itm → Sto → Prop} (h : R ⟨l, none, none⟩ S) : Sq (.lst l) S R := h
theorem sq_tup {l : List D} {R : Itm → Sto → Prop} (h : R ⟨l, none, none⟩ S) : Sq (.tup l) S R := h
theorem sq_str {s : List Nat} {R : Itm → Sto → Prop} (h : R ⟨sgL s, none, none⟩ S) : Sq (.str s) S R := h
theorem sq_ref {n : Nat} {fz : Bool} {l : List D} {R : Itm → Sto → Prop} (e : S[n]? = some (.lst fz l)) (h : R ⟨l, some n, some (.lst fz l)⟩ S) : Sq (.ref n) S R := ⟨fz, l, e, h⟩
theorem o_itS {R : Itm → Sto → Prop} (h : OKR (f env S) (fun d S1 => Sq d S1 R) E) : OKR (itS f env S) R E := o_bind (h.mono (fun d S1 q => by
  cases d with
  | lst l => exact q
  | tup l => exact q
  | str l => exact q
  | ref n =>
    obtain ⟨fz, l, e, q⟩ := q
    show OKR (match S1[n]? with
      | some (.lst fz l) => Res.ok (⟨l, some n, some (.lst fz l)⟩ : Itm) S1
      | _ => .bad) R E
    rw [e]
    exact q
  | _ => exact q.elim) fun _ _ q => q)
def SqE (as : List D) (S : Sto) (R : Itm → Sto → Prop) : Prop := match as with
  | [.lst l] => R ⟨enumL 0 l, none, none⟩ S
  | [.ref n] => ∃ fz l, S[n]? = some (.lst fz l) ∧ R ⟨enumL 0 l, some n, some (.lst fz l)⟩ S
  | _ => False
theorem sqe_lst {l : List D} {R : Itm → Sto → Prop} (h : R ⟨enumL 0 l, none, none⟩ S) : SqE [.lst l] S R := h
theorem o_itE {k : Env → Sto → Res (List D)} {R : Itm → Sto → Prop} (h : OKR (k env S) (fun as S1 => SqE as S1 R) E) : OKR (itE k env S) R E := o_bind (h.mono (fun d S1 q => by
  unfold SqE at q
  split at q
  · exact q
  · rename_i n
    obtain ⟨fz, l, e, q⟩ := q
    show OKR (match S1[n]? with
      | some (.lst fz l) => Res.ok (⟨enumL 0 l, some n, some (.lst fz l)⟩ : Itm) S1
      | _ => .bad) R E
    rw [e]
    exact q
  · exact q.elim) fun _ _ q => q)
/-! operations -/
theorem o_add {i j : Int} (h : R (.int (i + j)) S) : OKR (addD (.int i) (.int j) S) R E := h
theorem o_sub {i j : Int} (h : R (.int (i - j)) S) : OKR (subD (.int i) (.int j) S) R E := h
theorem o_mul {i j : Int} (e : cMul i j = true) (h : R (.int (i * j)) S) : OKR (mulD (.int i) (.int j) S) R E := by
  show OKR (if cMul i j = true then _ else _) R E
  rw [if_pos e]
  exact h
theorem o_fdiv {i j : Int} (e : cDiv i j = true) (h : R (.int (i.fdiv j)) S) : OKR (fdivD (.int i) (.int j) S) R E := by
  show OKR (if cDiv i j = true then _ else _) R E
  rw [if_pos e]
  exact h
theorem o_mod {i j : Int} (e : cMod i j = true) (h : R (.int (i.fmod j)) S) : OKR (modD (.int i) (.int j) S) R E := by
  show OKR (if cMod i j = true then _ else _) R E
  rw [if_pos e]
  exact h
theorem o_pow {i j : Int} (e : cPow i j = true) (h : R (.int (i ^ j.toNat)) S) : OKR (powD (.int i) (.int j) S) R E := by
  show OKR (if cPow i j = true then _ else _) R E
  rw [if_pos e]
  exact h
theorem o_lt {i j : Int} (h : R (.bl (decide (i < j))) S) : OKR (ltD (.int i) (.int j) S) R E := h
theorem o_le {i j : Int} (h : R (.bl (decide (i ≤ j))) S) : OKR (leD (.int i) (.int j) S) R E := h
theorem o_gt {i j : Int} (h : R (.bl (decide (j < i))) S) : OKR (gtD (.int i) (.int j) S) R E := h
theorem o_ge {i j : Int} (h : R (.bl (decide (j ≤ i))) S) : OKR (geD (.int i) (.int j) S) R E := h
theorem o_ixL {l : List D} {n : Nat} {k : Int} {d : D} (hl : getL (.ref n) S = some l) (e : atI l k = some d) (h : R d S) : OKR (ixD (.ref n) (.int k) S) R E := by
  show OKR (match getL (.ref n) S, (D.int k) with
    | some l, .int k => ixL (atI l k) fun d => .ok d S
    | some _, _ => .bad
    | none, i => ixL (getP (.ref n) S) fun l => ixL (dkey i) fun _ => ixL (lookD l i) fun d => .ok d S) R E
  rw [hl]
  dsimp only
  rw [e]
  exact h
theorem o_ixl {l : List D} {k : Int} {d : D} (e : atI l k = some d) (h : R d S) : OKR (ixD (.lst l) (.int k) S) R E := by
  show OKR (ixL (atI l k) fun d => .ok d S) R E
  rw [e]
  exact h
theorem o_ixt {l : List D} {k : Int} {d : D} (e : atI l k = some d) (h : R d S) : OKR (ixD (.tup l) (.int k) S) R E := by
  show OKR (ixL (atI l k) fun d => .ok d S) R E
  rw [e]
  exact h
theorem o_ixs {l : List Nat} {k : Int} {c : Nat} (hl : l.length ≤ LINE) (e : atI l k = some c) (h : R (.str [c]) S) : OKR (ixD (.str l) (.int k) S) R E := by
  show OKR (if l.length ≤ LINE then ixL (atI l k) fun c => .ok (.str [c]) S else .bad) R E
  rw [if_pos hl, e]
  exact h
theorem fmod_lo {i j : Int} (h : 0 < j) : 0 ≤ i.fmod j := Int.fmod_nonneg_of_pos i h
theorem fmod_hi {i j : Int} (h : 0 < j) : i.fmod j < j := Int.fmod_lt_of_pos i h
theorem cMod_ne {i j : Int} (h : j ≠ 0) : cMod i j = true := decide_eq_true h
theorem o_modB {i j : Int} (e : 0 < j) (h : ∀ v, 0 ≤ v → v < j → R (.int v) S) : OKR (modD (.int i) (.int j) S) R E := o_mod (cMod_ne (by omega)) (h _ (fmod_lo e) (fmod_hi e))
theorem log2_le {n k : Nat} (h : n < 2 ^ k) : n.log2 ≤ k := by
  by_cases c : n = 0
  · rw [c]
    exact Nat.zero_le _
  · have := (Nat.log2_lt c).mpr h
    omega
theorem cMul_of {i j : Int} {k l : Nat} (h1 : i.natAbs < 2 ^ k) (h2 : j.natAbs < 2 ^ l) (h : k + l < 100000000) : cMul i j = true := by
  have a := log2_le h1
  have b := log2_le h2
  exact decide_eq_true (by omega)
theorem cMul64 {i j : Int} (h1 : i.natAbs < 18446744073709551616) (h2 : j.natAbs < 18446744073709551616) : cMul i j = true := cMul_of (k := 64) (l := 64) (by omega) (by omega) (by decide)
theorem bits_le {i : Int} {k : Nat} (h : i.natAbs < 2 ^ k) : Builtin.Int.intBits i ≤ k + 1 := by
  have := log2_le h
  unfold Builtin.Int.intBits
  split <;> omega
theorem cPow_of {i j : Int} {k : Nat} (h0 : 0 ≤ j) (h : i.natAbs < 2 ^ k) (hk : ((k : Int) + 1) * j ≤ 134217728) : cPow i j = true := by
  have b := bits_le h
  unfold cPow
  have c : (Builtin.Int.intBits i : Int) * j ≤ ((k : Int) + 1) * j := Int.mul_le_mul_of_nonneg_right (by omega) h0
  rw [decide_eq_true h0, decide_eq_true (Int.le_trans c hk)]
  rfl
theorem cPow64 {i j : Int} (h0 : 0 ≤ j) (h1 : j ≤ 1000000) (h2 : i.natAbs < 18446744073709551616) : cPow i j = true := cPow_of (k := 64) h0 (by omega) (by omega)
theorem cDiv_of {i j : Int} {k : Nat} (h0 : j ≠ 0) (h1 : j.natAbs < 2 ^ k) (h : k < 9000) : cDiv i j = true := by
  unfold cDiv
  have := log2_le h1
  rw [decide_eq_true h0, PyProof.noPylong_of_log2 (by omega)]
  rfl
theorem cDiv64 {i j : Int} (h0 : j ≠ 0) (h1 : j.natAbs < 18446744073709551616) : cDiv i j = true := cDiv_of (k := 64) h0 (by omega) (by decide)
/-- o[i] = v in a list of one's own -/
theorem o_setL {n : Nat} {l : List D} {k : Int} {j : Nat} {v : D} {R : Unit → Sto → Prop} (hn : S[n]? = some (.lst false l)) (hv : nr v = true) (hk : ixN l.length k = some j) (h : ∀ S1, S1 = S.set n (.lst false (l.set j v)) → R () S1) : OKR (setD (.ref n) (.int k) v S) R E := by
  show OKR ((frz1 v S).bind (setIn n (.int k))) R E
  rw [frz1_nr hv]
  show OKR (setIn n (.int k) v S) R E
  unfold setIn
  rw [hn]
  dsimp only
  rw [hk]
  exact h _ rfl
theorem getL_ref {n : Nat} {fz : Bool} {l : List D} (hn : S[n]? = some (.lst fz l)) : getL (.ref n) S = some l := by
  unfold getL
  dsimp only
  rw [hn]
theorem o_app {n : Nat} {l : List D} {v : D} (hn : S[n]? = some (.lst false l)) (hv : nr v = true) (hl : l.length < LINE) (h : R .non (S.set n (.lst false (l ++ [v])))) : OKR (appM (.ref n) [v] S) R E := by
  show OKR ((frz1 v S).bind (appIn n)) R E
  rw [frz1_nr hv]
  show OKR (appIn n v S) R E
  unfold appIn
  rw [hn]
  dsimp only
  rw [if_pos hl]
  exact h
theorem set_len {n : Nat} {o : Ob} : (S.set n o).length = S.length := List.length_set
theorem get_set {n : Nat} {o o' : Ob} (h : S[n]? = some o') : (S.set n o)[n]? = some o := List.getElem?_set_self (List.getElem?_eq_some_iff.mp h).1
theorem get_set_ne {n j : Nat} {o : Ob} (h : j ≠ n) : (S.set n o)[j]? = S[j]? := List.getElem?_set_ne (Ne.symm h)
theorem OKR.any {t : Res Bool} {A B : Sto → Prop} (h : OKR t (fun _ S2 => S2 = S) fun _ _ => False) (h1 : A S) (h2 : B S) : OKR t (fun b S1 => Br b (A S1) (B S1)) E := h.mono (fun b S2 q => by
  rw [q]
  exact ⟨fun _ => h1, fun _ => h2⟩) fun _ _ q => q.elim
theorem OKR.anyD {t : Res D} {A : D → Sto → Prop} (h : OKR t (fun d S2 => S2 = S ∧ ∃ b, d = .bl b) fun _ _ => False) (h1 : ∀ b, A (.bl b) S) : OKR t A E := h.mono (fun b S2 q => by
  obtain ⟨rfl, b, rfl⟩ := q
  exact h1 b) fun _ _ q => q.elim
theorem br_any {b : Bool} {A B : Prop} (h1 : A) (h2 : B) : Br b A B := ⟨fun _ => h1, fun _ => h2⟩
theorem e_in {neg : Bool} {a b v : D} (e : inD neg a b S = .ok v S) (h : R v S) : OKR (inD neg a b S) R E := OKR.of_eq e h
theorem e_eq {a b v : D} (e : eqD a b S = .ok v S) (h : R v S) : OKR (eqD a b S) R E := OKR.of_eq e h
theorem e_ne {a b v : D} (e : neD a b S = .ok v S) (h : R v S) : OKR (neD a b S) R E := OKR.of_eq e h
theorem e_is {neg : Bool} {a b v : D} (e : isNonD neg a b S = .ok v S) (h : R v S) : OKR (isNonD neg a b S) R E := OKR.of_eq e h
theorem e_len {as : List D} {v : D} (e : lenM as S = .ok v S) (h : R v S) : OKR (lenM as S) R E := OKR.of_eq e h
theorem e_isi {as : List D} {v : D} (e : isiM as S = .ok v S) (h : R v S) : OKR (isiM as S) R E := OKR.of_eq e h
theorem e_abs {as : List D} {v : D} (e : absM as S = .ok v S) (h : R v S) : OKR (absM as S) R E := OKR.of_eq e h
theorem e_add {a b v : D} (e : addD a b S = .ok v S) (h : R v S) : OKR (addD a b S) R E := OKR.of_eq e h
theorem e_mul {a b v : D} (e : mulD a b S = .ok v S) (h : R v S) : OKR (mulD a b S) R E := OKR.of_eq e h
theorem e_ix {a b v : D} (e : ixD a b S = .ok v S) (h : R v S) : OKR (ixD a b S) R E := OKR.of_eq e h
end
theorem ex_int {x : Int} {A : Int → Prop} (h : A x) : ∃ i, D.int x = .int i ∧ A i := ⟨x, rfl, h⟩
theorem and_len {α : Type} {l : List α} {A : Prop} (e : Nat.ble l.length LINE = true) (h : A) : l.length ≤ LINE ∧ A := ⟨Nat.le_of_ble_eq_true e, h⟩
theorem and_lens {l : List D} {is : List Nat} {B : Prop} (e : l.length = is.length) (h : B) : l.length = is.length ∧ B := ⟨e, h⟩
theorem isSm_of {i : Int} (h : -4611686018427387904 ≤ i) (h2 : i < 4611686018427387904) : isSm i = true := decide_eq_true ⟨by omega, by omega⟩
theorem ex_r1 {x : Int} {A : Int → Prop} (e : isSm x = true) (h : A x) : ∃ j, [D.int x] = [.int j] ∧ isSm j = true ∧ A j := ⟨x, rfl, e, h⟩
theorem ex_r2 {x y : Int} {A : Int → Int → Prop} (e : isSm x = true) (e2 : isSm y = true) (h : A x y) : ∃ i j, [D.int x, D.int y] = [.int i, .int j] ∧ (isSm i && isSm j) = true ∧ A i j := ⟨x, y, rfl, by rw [e, e2]; rfl, h⟩
theorem hasTy_l {d : D} {S : Sto} {l : List D} (h : getL d S = some l) : hasTy .list d S = true := by
  show (getL d S).isSome = true
  rw [h]
  rfl
theorem and_ty {t : Ty} {d : D} {S : Sto} {A : Prop} (e : hasTy t d S = true) (h : A) : hasTy t d S = true ∧ A := ⟨e, h⟩
theorem ex_put {t : Tgt} {d : D} {env env1 : Env} {A : Env → Prop} (e : t.put d env = some env1) (h : A env1) : ∃ env1, t.put d env = some env1 ∧ A env1 := ⟨env1, e, h⟩
theorem sgL_len {s : List Nat} {A : Prop} (e : s.length ≤ LINE) (h : A) : (sgL s).length ≤ LINE ∧ A := ⟨by
  unfold sgL
  rw [List.length_map]
  exact e, h⟩
end Sm
/-! Sm19: comprehensions that change nothing; built-ins on known trees. -/
namespace Sm
open PySem PySem.Spec PyProof.Rows L2
section
variable {E : D → Sto → Prop} {S : Sto} {R : D → Sto → Prop} {env : Env}
/-- [f(x) for x in l if p(x)], the store as it was -/
theorem lc_pure {t : Tgt} {c : Env → Sto → Res Bool} {e : Env → Sto → Res D} {o : Option Ob} {l : List D} {P : List D → Sto → Prop} (p : D → Bool) (f : D → D)
    (hs : ∀ d ∈ l, ∃ env1, t.put d env = some env1 ∧ OKR (c env1 S) (fun b S1 => b = p d ∧ S1 = S) (fun _ _ => False) ∧ (p d = true → OKR (e env1 S) (fun v S1 => v = f d ∧ S1 = S ∧ nr v = true) fun _ _ => False))
    (h : P ((l.filter p).map f) S) : OKR (lcL t c e none o env l S) P E := by
  have key := lcL_ok (t := t) (c := c) (e := e) (g := none) (o := o) (env := env) (E := E) (P := fun r S1 => S1 = S ∧ r = (l.filter p).map f) (fun l2 S1 acc => S1 = S ∧ (∀ d ∈ l2, d ∈ l) ∧ acc ++ (l2.filter p).map f = (l.filter p).map f)
    (fun _ _ _ _ _ z => nomatch z) (fun d r S1 acc hI => by
      obtain ⟨rfl, hm, ha⟩ := hI
      obtain ⟨env1, e1, hc, he⟩ := hs d (hm d (List.mem_cons_self ..))
      refine ⟨env1, e1, hc.mono (fun b S2 q => ?_) fun _ _ q => q⟩
      obtain ⟨rfl, rfl⟩ := q
      refine ⟨fun hb => ?_, fun hb => ?_⟩
      · refine (he hb).mono (fun v S3 q => ?_) fun _ _ q => q
        obtain ⟨rfl, rfl, hn⟩ := q
        refine o_frz hn ⟨rfl, fun d' hd => hm d' (List.mem_cons_of_mem _ hd), ?_⟩
        rw [List.filter_cons, if_pos hb, List.map_cons] at ha
        rw [List.append_assoc]
        exact ha
      · refine ⟨rfl, fun d' hd => hm d' (List.mem_cons_of_mem _ hd), ?_⟩
        rw [List.filter_cons, if_neg (by rw [hb]; exact Bool.false_ne_true)] at ha
        exact ha) l S [] ⟨rfl, fun _ h => h, rfl⟩ (fun S1 acc q => by
      obtain ⟨rfl, _, q⟩ := q
      rw [List.filter_nil, List.map_nil, List.append_nil] at q
      exact ⟨rfl, q⟩)
  refine key.mono (fun r S1 q => ?_) fun _ _ q => q
  obtain ⟨rfl, q⟩ := q
  have q' : r = (l.filter p).map f := q
  rw [q']
  exact h
theorem allBl_map {α : Type} (f : α → Bool) : ∀ l : List α, allBl (l.map fun x => D.bl (f x)) = some (l.map f)
  | [] => rfl
  | x :: l => by
    show (allBl (l.map fun x => D.bl (f x))).map (f x :: ·) = _
    rw [allBl_map f l]
    rfl
/-- signs that a text may have -/
def cp (s : List Nat) : Bool := s.all fun c => decide (c < 0x110000)
theorem okD_str {s : List Nat} (h : cp s = true) (n : Nat) : okD n (.str s) = true := by
  cases n <;> exact h
theorem cp_app {s t : List Nat} (h : cp s = true) (k : cp t = true) : cp (s ++ t) = true := by
  unfold cp
  rw [List.all_append, Bool.and_eq_true]
  exact ⟨h, k⟩
theorem cp_sub {s t : List Nat} (h : cp s = true) (k : ∀ c ∈ t, c ∈ s) : cp t = true := List.all_eq_true.mpr fun c hc => List.all_eq_true.mp h c (k c hc)
theorem cp_cut {s : List Nat} (h : cp s = true) (lo hi : Option Int) : cp (cutL s lo hi) = true := cp_sub h fun c hc => List.mem_of_mem_drop (List.mem_of_mem_take hc)
theorem cut_len {α : Type} (s : List α) (lo hi : Option Int) : (cutL s lo hi).length ≤ s.length := by
  unfold cutL
  rw [List.length_take, List.length_drop]
  omega
theorem eqV_str {a b : List Nat} : eqV (.str a) (.str b) = decide (a = b) := by
  rw [Bool.eq_iff_iff]
  simp [eqV]
theorem o_eqS {a b : List Nat} (h : R (.bl (decide (a = b))) S) : OKR (eqD (.str a) (.str b) S) R E := h
theorem o_neS {a b : List Nat} (h : R (.bl (!decide (a = b))) S) : OKR (neD (.str a) (.str b) S) R E := h
theorem o_eqI {a b : Int} (h : R (.bl (decide (a = b))) S) : OKR (eqD (.int a) (.int b) S) R E := by
  have e : (a == b) = decide (a = b) := rfl
  rw [← e] at h
  exact h
theorem o_neI {a b : Int} (h : R (.bl (!decide (a = b))) S) : OKR (neD (.int a) (.int b) S) R E := by
  have e : (a == b) = decide (a = b) := rfl
  rw [← e] at h
  exact h
theorem o_lenS {a : List Nat} (e : a.length ≤ LINE) (h : R (.int a.length) S) : OKR (lenM [.str a] S) R E := OKR.of_eq (S := S) (v := .int a.length) (by
  show (if a.length ≤ LINE then Res.ok (D.int a.length) S else .bad) = _
  rw [if_pos e]) h
theorem o_all {l : List D} {bs : List Bool} (e : allBl l = some bs) (h : R (.bl (bs.all id)) S) : OKR (allM [.lst l] S) R E := by
  show OKR (match getL (.lst l) S with
    | some l => match allBl l with
      | some bs => .ok (.bl (bs.all id)) S
      | none => .bad
    | none => .bad) R E
  show OKR (match allBl l with
      | some bs => .ok (.bl (bs.all id)) S
      | none => .bad) R E
  rw [e]
  exact h
theorem o_inS {c : Nat} {s : List Nat} (h : R (.bl (decide (c ∈ s))) S) : OKR (inD false (.str [c]) (.str s) S) R E := h
theorem o_ninS {c : Nat} {s : List Nat} (h : R (.bl (!decide (c ∈ s))) S) : OKR (inD true (.str [c]) (.str s) S) R E := h
theorem o_cutS {s : List Nat} {lo hi : Option Int} (e : s.length ≤ LINE) (h : R (.str (cutL s lo hi)) S) : OKR (cutD (.str s) lo hi S) R E := by
  show OKR (if s.length ≤ LINE then Res.ok (D.str (cutL s lo hi)) S else .bad) R E
  rw [if_pos e]
  exact h
theorem br_tt {b : Bool} {A B : Prop} (e : b = true) (h : A) : Br b A B := by
  subst e
  exact br_t h
theorem br_ff {b : Bool} {A B : Prop} (e : b = false) (h : B) : Br b A B := by
  subst e
  exact br_f h
theorem OKR.val {α : Type} {r : Res α} {R : α → Sto → Prop} (S : Sto) (x : α) (h : OKR r (fun d S1 => d = x ∧ S1 = S) fun _ _ => False) (k : R x S) : OKR r R E := h.mono (fun d S1 q => by
  obtain ⟨rfl, rfl⟩ := q
  exact k) fun _ _ q => q.elim
theorem o_isiT {d : D} {t : Option Ty} {u : Ty} (e : tyOf d S = some t) (h : R (.bl (tyIs t u)) S) : OKR (isiM [d, .ty u] S) R E := by
  show OKR (match tyOf d S with
    | some a => .ok (.bl (tyIs a u)) S
    | none => .bad) R E
  rw [e]
  exact h
theorem cut_take {α : Type} (s : List α) (n : Nat) : cutL s none (some (n : Int)) = s.take n := by
  unfold cutL
  rw [HT.sIx_none, HT.sIx_nat]
  show (s.drop 0).take (min n s.length - 0) = _
  rw [List.drop_zero, Nat.sub_zero, ← List.take_eq_take_min]
theorem cut_drop {α : Type} (s : List α) (n : Nat) : cutL s (some (n : Int)) none = s.drop n := by
  unfold cutL
  rw [HT.sIx_none, HT.sIx_nat]
  by_cases c : n ≤ s.length
  · rw [Nat.min_eq_left c]
    exact List.take_of_length_le (by rw [List.length_drop]; exact Nat.le_refl _)
  · rw [List.drop_of_length_le (by omega), List.drop_of_length_le (by omega)]
    exact List.take_nil
/-- the value of figures -/
def digV (s : List Nat) : Int := ((NumText.digitsVal s : Nat) : Int)
theorem digits_of_all {s : List Nat} (h : (s.all fun c => decide (c ∈ [48, 49, 50, 51, 52, 53, 54, 55, 56, 57])) = true) : NumText.AllDigits s := fun c hc => by
  have := List.all_eq_true.mp h c hc
  have := of_decide_eq_true this
  simp at this
  omega
theorem int_pos {s : List Nat} (h : (s.all fun c => decide (c ∈ [48, 49, 50, 51, 52, 53, 54, 55, 56, 57])) = true) (h1 : s ≠ []) (h2 : s.length ≤ 640) (k : R (.int (digV s)) S) : OKR (intM [.str s] S) R E := by
  have e : PySem.intText? ⟨s.toArray⟩ = some (digV s) := intText_digits (x := ⟨s.toArray⟩) (by
    show NumText.AllDigits s.toArray.toList
    exact digits_of_all h) (by
    show s.toArray.toList ≠ []
    exact h1) (by
    show s.toArray.size ≤ _
    rw [List.size_toArray]
    omega)
  show OKR (match PySem.intText? ⟨s.toArray⟩ with
    | some n => if s.length ≤ 640 then Res.ok (D.int n) S else .bad
    | none => .bad) R E
  rw [e]
  dsimp only
  rw [if_pos h2]
  exact k
theorem int_neg {s : List Nat} (h : (s.all fun c => decide (c ∈ [48, 49, 50, 51, 52, 53, 54, 55, 56, 57])) = true) (h1 : s ≠ []) (h2 : s.length ≤ 639) (k : R (.int (-digV s)) S) : OKR (intM [.str (45 :: s)] S) R E := by
  have e : PySem.intText? ⟨(45 :: s).toArray⟩ = some (-digV s) := intText_neg (x := ⟨(45 :: s).toArray⟩) (cs := s) rfl (digits_of_all h) h1 (by
    show (45 :: s).toArray.size ≤ _
    rw [List.size_toArray, List.length_cons]
    omega)
  show OKR (match PySem.intText? ⟨(45 :: s).toArray⟩ with
    | some n => if (45 :: s).length ≤ 640 then Res.ok (D.int n) S else .bad
    | none => .bad) R E
  rw [e]
  dsimp only
  rw [if_pos (by rw [List.length_cons]; omega)]
  exact k
theorem OKS.val {r : SR} {N B C : Env → Sto → Prop} {T : D → Sto → Prop} {X : D → Env → Sto → Prop} (S : Sto) (env' : Env) (h : OKS r (fun e S1 => e = env' ∧ S1 = S) (fun _ _ => False) (fun _ _ => False) (fun _ _ => False) fun _ _ _ => False) (k : N env' S) : OKS r N B C T X := h.mono (fun d S1 q => by
  obtain ⟨rfl, rfl⟩ := q
  exact k) (fun _ _ q => q.elim) (fun _ _ q => q.elim) (fun _ _ q => q.elim) fun _ _ _ q => q.elim
theorem okL_sgL {s : List Nat} (h : cp s = true) (n : Nat) : okL n (sgL s) = true := by
  induction s with
  | nil => rfl
  | cons c r ih =>
    unfold cp at h
    rw [List.all_cons, Bool.and_eq_true] at h
    show okL n (.str [c] :: sgL r) = true
    unfold okL
    rw [okD_str (show cp [c] = true by
      unfold cp
      rw [List.all_cons, h.1]
      rfl), ih h.2]
    rfl
theorem o_neNil {l : List D} (e : okL 59 l = true) (h : R (.bl (!l.isEmpty)) S) : OKR (neD (.lst l) (.lst []) S) R E := by
  have e2 : eqV (.lst l) (.lst []) = l.isEmpty := by cases l <;> rfl
  show OKR (if ((true && okD 60 (.lst l)) && true) = true then Res.ok (D.bl (!eqV (.lst l) (.lst []))) S else .bad) R E
  rw [show okD 60 (.lst l) = true from e, e2]
  exact h
theorem sgL_filter (p : Nat → Bool) : ∀ s : List Nat, (sgL s).filter (fun d => match d with
    | .str [c] => p c
    | _ => false) = sgL (s.filter p)
  | [] => rfl
  | c :: s => by
    show (D.str [c] :: sgL s).filter _ = _
    rw [List.filter_cons, List.filter_cons]
    dsimp only
    rw [sgL_filter p s]
    by_cases h : p c = true
    · rw [if_pos h, if_pos h]
      rfl
    · rw [if_neg h, if_neg h]
/-- [c for c in s if p(c)] -/
theorem lc_signs {s : List Nat} {e : Env → Sto → Res D} {t : Env → Sto → Res Bool} {env : Env} {i : Nat} {p : Nat → Bool} {P : List D → Sto → Prop} (h : P (sgL (s.filter p)) S) (ht : ∀ c, OKR (t (env.set i (some (.str [c]))) S) (fun b S1 => b = p c ∧ S1 = S) fun _ _ => False)
    (he : ∀ c, OKR (e (env.set i (some (.str [c]))) S) (fun v S1 => v = .str [c] ∧ S1 = S) fun _ _ => False) : OKR (lcL (.one i) t e none none env (sgL s) S) P E := by
  refine lc_pure (fun d => match d with
    | .str [c] => p c
    | _ => false) (fun d => d) (fun d hd => ?_) ?_
  · obtain ⟨c, _, rfl⟩ := List.mem_map.mp hd
    exact ⟨_, rfl, ht c, fun _ => (he c).mono (fun v S1 q => ⟨q.1, q.2, by rw [q.1]; rfl⟩) fun _ _ q => q⟩
  · rw [sgL_filter, List.map_id']
    exact h
theorem digV_eq (s : List Nat) : digV s = s.foldl (fun (a : Int) c => a * 10 + ((c - 48 : Nat) : Int)) 0 := by
  have main : ∀ (s : List Nat) (a : Nat), ((s.foldl (fun acc c => acc * 10 + (c - 48)) a : Nat) : Int) = s.foldl (fun (a : Int) c => a * 10 + ((c - 48 : Nat) : Int)) (a : Int) := by
    intro s
    induction s with
    | nil => intro a; rfl
    | cons c s ih =>
      intro a
      rw [List.foldl_cons, List.foldl_cons, ih]
      rw [Int.natCast_add, Int.natCast_mul]
      rfl
  exact main s 0
theorem fig_at : ∀ c ∈ [48, 49, 50, 51, 52, 53, 54, 55, 56, 57], (Builtin.Str.occurrences (toS [48, 49, 50, 51, 52, 53, 54, 55, 56, 57]) (toS [c]) 0 (toS [48, 49, 50, 51, 52, 53, 54, 55, 56, 57]).length 1).head? = some (c - 48) := by decide +kernel
theorem o_fig {c : Nat} (hc : c ∈ [48, 49, 50, 51, 52, 53, 54, 55, 56, 57]) (h : R (.int ((c - 48 : Nat) : Int)) S) : OKR (indexM (.str [48, 49, 50, 51, 52, 53, 54, 55, 56, 57]) [.str [c]] S) R E := by
  have e := fig_at c hc
  show OKR (match Builtin.Str.occurrences (toS [48, 49, 50, 51, 52, 53, 54, 55, 56, 57]) (toS [c]) 0 (toS [48, 49, 50, 51, 52, 53, 54, 55, 56, 57]).length 1 with
    | i :: _ => .ok (.int (i : Nat)) S
    | [] => .bad) R E
  revert e
  cases Builtin.Str.occurrences (toS [48, 49, 50, 51, 52, 53, 54, 55, 56, 57]) (toS [c]) 0 (toS [48, 49, 50, 51, 52, 53, 54, 55, 56, 57]).length 1 with
  | nil => intro e; cases e
  | cons i r =>
    intro e
    have e := Option.some.inj e
    rw [← e] at h
    exact h
end
end Sm
/-! Sm20: texts split at a sign. -/
namespace Sm
open PySem PySem.Spec PyProof.Rows L2
/-- the parts between a sign -/
def spl (c : Nat) : List Nat → List (List Nat)
  | [] => [[]]
  | d :: r => if d = c then [] :: spl c r else match spl c r with
    | h :: t => (d :: h) :: t
    | [] => [[d]]
def joinL (c : Nat) : List (List Nat) → List Nat
  | [] => []
  | [x] => x
  | x :: r => x ++ c :: joinL c r
theorem spl_ne (c : Nat) : ∀ l, spl c l ≠ []
  | [] => by simp [spl]
  | d :: r => by
    unfold spl
    split
    · simp
    · split <;> simp
theorem spl_free {c : Nat} : ∀ {x : List Nat}, c ∉ x → spl c x = [x]
  | [], _ => rfl
  | d :: r, h => by
    have h1 : d ≠ c := fun e => h (by rw [e]; exact List.mem_cons_self ..)
    unfold spl
    rw [if_neg h1, spl_free fun q => h (List.mem_cons_of_mem _ q)]
theorem spl_app {c : Nat} : ∀ {x y : List Nat}, c ∉ x → spl c (x ++ c :: y) = x :: spl c y
  | [], y, _ => by
    show spl c (c :: y) = _
    rw [spl, if_pos rfl]
  | d :: r, y, h => by
    have h1 : d ≠ c := fun e => h (by rw [e]; exact List.mem_cons_self ..)
    show spl c (d :: (r ++ c :: y)) = _
    rw [spl, if_neg h1, spl_app fun q => h (List.mem_cons_of_mem _ q)]
theorem spl_join {c : Nat} : ∀ {L : List (List Nat)}, L ≠ [] → (∀ x ∈ L, c ∉ x) → spl c (joinL c L) = L
  | [], h, _ => absurd rfl h
  | [x], _, h => spl_free (h x (List.mem_singleton.mpr rfl))
  | x :: y :: r, _, h => by
    show spl c (x ++ c :: joinL c (y :: r)) = _
    rw [spl_app (h x (List.mem_cons_self ..)), spl_join (by simp) fun z hz => h z (List.mem_cons_of_mem _ hz)]
theorem app_cps (x y : Str) : (x ++ y).cps.toList = x.cps.toList ++ y.cps.toList := Array.toList_append ..
theorem join_cps (c : Nat) : ∀ ps : List Str, (Str.join ⟨#[c]⟩ ps).cps.toList = joinL c (ps.map fun p => p.cps.toList)
  | [] => rfl
  | [x] => rfl
  | x :: y :: r => by
    have ih := join_cps c (y :: r)
    show ((x ++ ⟨#[c]⟩) ++ Str.join ⟨#[c]⟩ (y :: r)).cps.toList = x.cps.toList ++ c :: joinL c _
    rw [app_cps, app_cps, ih]
    show (x.cps.toList ++ [c]) ++ _ = _
    rw [List.append_assoc]
    rfl
theorem split_spl (a : List Nat) (c : Nat) : (Txt.split (toS a) (toS [c])).map (fun p => p.cps.toList) = spl c a := by
  have h1 := StrLaws.join_split (toS a) (toS [c])
  have h2 := StrLaws.split_free (toS a) c
  have h3 := PyProof.Rows.split_pos (toS a) (toS [c])
  have h4 := join_cps c (Txt.split (toS a) (toS [c]))
  have e : (Str.join ⟨#[c]⟩ (Txt.split (toS a) (toS [c]))).cps.toList = a := by
    rw [show (⟨#[c]⟩ : Str) = toS [c] from rfl, h1]
    rfl
  rw [e] at h4
  refine ((congrArg (spl c) h4).trans (spl_join ?_ ?_)).symm
  · intro z
    have := congrArg List.length z
    rw [List.length_map] at this
    have h3 : 1 ≤ (Txt.split (toS a) (toS [c])).length := h3
    rw [this] at h3
    exact absurd h3 (by decide)
  · intro x hx
    obtain ⟨p, hp, rfl⟩ := List.mem_map.mp hx
    exact h2 p hp
theorem split_strD (a : List Nat) (c : Nat) : (Txt.split (toS a) (toS [c])).map strD = (spl c a).map D.str := by
  rw [← split_spl, List.map_map]
  rfl
theorem joinL_cons {c : Nat} {x : List Nat} {L : List (List Nat)} (h : L ≠ []) : joinL c (x :: L) = x ++ c :: joinL c L := by
  cases L with
  | nil => exact absurd rfl h
  | cons y r => rfl
theorem joinL_spl (c : Nat) : ∀ x, joinL c (spl c x) = x
  | [] => rfl
  | d :: r => by
    have ih := joinL_spl c r
    unfold spl
    split
    · rename_i e
      rw [joinL_cons (spl_ne c r), ih, e]
      rfl
    · cases e : spl c r with
      | nil => exact absurd e (spl_ne c r)
      | cons x t =>
        rw [e] at ih
        cases t with
        | nil =>
          have ih : x = r := ih
          rw [ih]
          rfl
        | cons y t =>
          have ih : x ++ c :: joinL c (y :: t) = r := ih
          show (d :: x) ++ c :: joinL c (y :: t) = _
          rw [← ih]
          rfl
theorem spl_parts (c : Nat) : ∀ x, ∀ p ∈ spl c x, c ∉ p
  | [], p, h => by
    rw [show p = [] from by simpa [spl] using h]
    simp
  | d :: r, p, h => by
    have ih := spl_parts c r
    unfold spl at h
    split at h
    · rcases List.mem_cons.mp h with rfl | h
      · simp
      · exact ih p h
    · rename_i e
      cases e2 : spl c r with
      | nil => exact absurd e2 (spl_ne c r)
      | cons x t =>
        rw [e2] at h ih
        rcases List.mem_cons.mp h with rfl | h
        · intro q
          rcases List.mem_cons.mp q with q | q
          · exact e q.symm
          · exact ih x (List.mem_cons_self ..) q
        · exact ih p (List.mem_cons_of_mem _ h)
theorem joinL_snoc {c : Nat} {y : List Nat} : ∀ {L : List (List Nat)}, L ≠ [] → joinL c (L ++ [y]) = joinL c L ++ c :: y
  | [], h => absurd rfl h
  | [x], _ => rfl
  | x :: z :: r, _ => by
    show x ++ c :: joinL c ((z :: r) ++ [y]) = (x ++ c :: joinL c (z :: r)) ++ c :: y
    rw [joinL_snoc (by simp), List.append_assoc]
    rfl
theorem spl_sep {c : Nat} {pre : List Nat} : spl c (pre ++ [c]) = spl c pre ++ [[]] := by
  have e : joinL c (spl c pre ++ [[]]) = pre ++ [c] := by rw [joinL_snoc (spl_ne c pre), joinL_spl]
  rw [← e]
  refine spl_join (by simp) fun x hx => ?_
  rcases List.mem_append.mp hx with hx | hx
  · exact spl_parts c pre x hx
  · rw [List.mem_singleton.mp hx]
    simp
theorem spl_sign {c d : Nat} {pre last : List Nat} {init : List (List Nat)} (hd : d ≠ c) (h : spl c pre = init ++ [last]) : spl c (pre ++ [d]) = init ++ [last ++ [d]] := by
  have e : joinL c (init ++ [last ++ [d]]) = pre ++ [d] := by
    have e2 := joinL_spl c pre
    rw [h] at e2
    cases init with
    | nil =>
      have e2 : last = pre := e2
      rw [e2]
      rfl
    | cons z r =>
      rw [joinL_snoc (by simp)] at e2 ⊢
      rw [← e2, List.append_assoc]
      rfl
  rw [← e]
  refine spl_join (by simp) fun x hx => ?_
  have hp := spl_parts c pre
  rw [h] at hp
  rcases List.mem_append.mp hx with hx | hx
  · exact hp x (List.mem_append_left _ hx)
  · rw [List.mem_singleton.mp hx]
    intro q
    rcases List.mem_append.mp q with q | q
    · exact hp last (List.mem_append_right _ (List.mem_singleton.mpr rfl)) q
    · exact hd (List.mem_singleton.mp q).symm
theorem snoc_of {α : Type} {l : List α} (h : l ≠ []) : ∃ i x, l = i ++ [x] := ⟨l.dropLast, l.getLast h, (List.dropLast_concat_getLast h).symm⟩
end Sm
/-! Sm21: how long a repr is; joined texts; items at a drawn place. -/
namespace Sm
open PySem PySem.Spec PyProof.Rows L2
mutual
/-- ints below 10 ^ B -/
def okI (B : Nat) : D → Bool
  | .int i => decide (i.natAbs < 10 ^ B)
  | .lst l => okIL B l
  | .tup l => okIL B l
  | _ => true
def okIL (B : Nat) : List D → Bool
  | [] => true
  | d :: l => okI B d && okIL B l
end
mutual
/-- at least as long as the repr -/
def rlen (B : Nat) : D → Nat
  | .non => 4
  | .bl _ => 5
  | .int _ => B + 1
  | .str s => 10 * s.length + 2
  | .lst l => rlenL B l + 2
  | .tup l => rlenL B l + 3
  | _ => 0
def rlenL (B : Nat) : List D → Nat
  | [] => 0
  | d :: l => rlen B d + 2 + rlenL B l
end
theorem strLen_app (x y : Str) : (x ++ y).length = x.length + y.length := Array.size_append ..
theorem textFrom_le : ∀ (ts : List Str) (k : Nat) (acc : Str), (textFrom k acc ts).length ≤ acc.length + (ts.map fun t => t.length + 2).sum
  | [], k, acc => Nat.le_refl _
  | t :: ts, k, acc => by
    have ih := textFrom_le ts (k + 1) (acc ++ (if k > 0 then ", " else "" : String) ++ t)
    have e : (acc ++ (if k > 0 then ", " else "" : String) ++ t).length ≤ acc.length + 2 + t.length := by
      rw [strLen_app, strLen_app]
      split
      · exact Nat.le_refl _
      · show acc.length + 0 + t.length ≤ _
        omega
    rw [List.map_cons, List.sum_cons]
    show (textFrom (k + 1) _ ts).length ≤ _
    omega
theorem join_le : ∀ ts : List Str, (Str.join ", " ts).length ≤ (ts.map fun t => t.length + 2).sum
  | [] => Nat.le_refl _
  | [x] => by
    show x.length ≤ x.length + 2 + 0
    omega
  | x :: y :: r => by
    have ih := join_le (y :: r)
    have e : (Str.join ", " (x :: y :: r)).length = x.length + 2 + (Str.join ", " (y :: r)).length := by
      show ((x ++ (", " : Str)) ++ Str.join ", " (y :: r)).length = _
      rw [strLen_app, strLen_app]
      rfl
    rw [e, List.map_cons, List.sum_cons]
    omega
mutual
theorem shown_le (B : Nat) (hB : 0 < B) (hB2 : B ≤ 577) : ∀ (d : D) (n : Nat), okD n d = true → okI B d = true → (py d).shown.length ≤ rlen B d ∧ (py d).showable = true
  | .non, n, _, _ => ⟨by show (4 : Nat) ≤ 4; decide, rfl⟩
  | .bl b, n, _, _ => by
    cases b
    · exact ⟨by show (5 : Nat) ≤ 5; decide, rfl⟩
    · exact ⟨by show (4 : Nat) ≤ 5; decide, rfl⟩
  | .int i, n, _, h => by
    have h : i.natAbs < 10 ^ B := of_decide_eq_true h
    constructor
    · have := PySem.int_text_length_le10 hB h
      show (Str.ofString (toString i)).length ≤ B + 1
      rw [PySem.ofString_length]
      omega
    · show decide (i.natAbs.log2 < 1920) = true
      apply decide_eq_true
      have h2 : (10 : Nat) ^ B ≤ 2 ^ 1919 := Nat.le_trans (Nat.pow_le_pow_right (by decide) hB2) (by decide +kernel)
      have := log2_le (Nat.lt_of_lt_of_le h h2)
      omega
  | .str s, n, h, _ => by
    have h : cp s = true := by cases n <;> exact h
    constructor
    · have := PySem.StrLaws.reprText_len ⟨s.toArray⟩ (fun c hc => by
        have := of_decide_eq_true (List.all_eq_true.mp h c hc)
        exact Nat.lt_trans this (by decide))
      have e : (⟨s.toArray⟩ : Str).length = s.length := List.size_toArray ..
      show (reprText ⟨s.toArray⟩).length ≤ 10 * s.length + 2
      omega
    · rfl
  | .lst l, 0, h, _ => by simp [okD] at h
  | .lst l, n + 1, h, k => by
    have h : okL n l = true := by simpa [okD] using h
    have k : okIL B l = true := by simpa [okI] using k
    obtain ⟨h1, h2⟩ := shownL_le B hB hB2 l n h k
    constructor
    · show (textFrom 0 "[" (PyData.shownAll (pyL l)) ++ ("]" : Str)).length ≤ rlenL B l + 2
      rw [strLen_app]
      have := textFrom_le (PyData.shownAll (pyL l)) 0 "["
      have e1 : (("[" : String) : Str).length = 1 := rfl
      have e2 : (("]" : String) : Str).length = 1 := rfl
      omega
    · exact h2
  | .tup l, 0, h, _ => by simp [okD] at h
  | .tup l, n + 1, h, k => by
    have h : okL n l = true := by simpa [okD] using h
    have k : okIL B l = true := by simpa [okI] using k
    obtain ⟨h1, h2⟩ := shownL_le B hB hB2 l n h k
    constructor
    · show ((("(" : Str) ++ Str.join ", " (PyData.shownAll (pyL l))) ++ (if (PyData.shownAll (pyL l)).length == 1 then ",)" else ")" : String)).length ≤ rlenL B l + 3
      rw [strLen_app, strLen_app]
      have := join_le (PyData.shownAll (pyL l))
      have e1 : (("(" : String) : Str).length = 1 := rfl
      have e2 : ((if (PyData.shownAll (pyL l)).length == 1 then ",)" else ")" : String) : Str).length ≤ 2 := by
        split
        · exact Nat.le_refl _
        · show 1 ≤ 2
          decide
      omega
    · exact h2
  | .dic x, n, h, _ => by cases n <;> simp [okD] at h
  | .ref x, n, h, _ => by cases n <;> simp [okD] at h
  | .exc x y, n, h, _ => by cases n <;> simp [okD] at h
  | .cls x, n, h, _ => by cases n <;> simp [okD] at h
  | .ty x, n, h, _ => by cases n <;> simp [okD] at h
  | .fn, n, h, _ => by cases n <;> simp [okD] at h
theorem shownL_le (B : Nat) (hB : 0 < B) (hB2 : B ≤ 577) : ∀ (l : List D) (n : Nat), okL n l = true → okIL B l = true → ((PyData.shownAll (pyL l)).map fun t => t.length + 2).sum ≤ rlenL B l ∧ PyData.showableAll (pyL l) = true
  | [], n, _, _ => ⟨Nat.le_refl _, rfl⟩
  | d :: l, n, h, k => by
    have h : okD n d = true ∧ okL n l = true := by simpa [okL] using h
    have k : okI B d = true ∧ okIL B l = true := by simpa [okIL] using k
    obtain ⟨h1, h2⟩ := shown_le B hB hB2 d n h.1 k.1
    obtain ⟨h3, h4⟩ := shownL_le B hB hB2 l n h.2 k.2
    constructor
    · show (py d).shown.length + 2 + ((PyData.shownAll (pyL l)).map fun t => t.length + 2).sum ≤ rlen B d + 2 + rlenL B l
      omega
    · show ((py d).showable && PyData.showableAll (pyL l)) = true
      rw [h2, h4]
      rfl
end
theorem canRepr_of (B : Nat) {d : D} (h : okD 60 d = true) (k : okI B d = true) (hl : rlen B d ≤ LINE) (hB : 0 < B) (hB2 : B ≤ 577) : canRepr d = true := by
  obtain ⟨h1, h2⟩ := shown_le B hB hB2 d 60 h k
  unfold canRepr
  rw [h2, decide_eq_true (Nat.le_trans h1 hl)]
  rfl
section
variable {E : D → Sto → Prop} {S : Sto} {R : D → Sto → Prop} {env : Env}
theorem o_repr (B : Nat) {d : D} (hr : hasR d S = true) (h : okD 60 (see d S) = true) (k : okI B (see d S) = true) (hl : rlen B (see d S) ≤ LINE) (hB : 0 < B) (hB2 : B ≤ 577) (hq : R (.str (reprD (see d S))) S) : OKR (reprM [d] S) R E := by
  show OKR (if (plain d S && canRepr (see d S)) = true then Res.ok (D.str (reprD (see d S))) S else .bad) R E
  unfold plain
  rw [hr, h, canRepr_of B h k hl hB hB2]
  exact hq
theorem br_self {α : Type} [DecidableEq α] {x : α} {A B : Prop} (h : A) : Br (decide (x = x)) A B := br_tt (decide_eq_true rfl) h
/-! an item at a drawn place -/
theorem atI_in {α : Type} {l : List α} {v : Int} (h0 : 0 ≤ v) (h1 : v < l.length) : ∃ x, atI l v = some x ∧ x ∈ l := by
  obtain ⟨n, rfl⟩ := Int.eq_ofNat_of_zero_le h0
  have hn : n < l.length := by omega
  exact ⟨l[n], atI_nat (List.getElem?_eq_getElem hn), List.getElem_mem hn⟩
theorem o_ixB {l : List D} {v : Int} (h0 : 0 ≤ v) (h1 : v < l.length) (h : ∀ d ∈ l, R d S) : OKR (ixD (.lst l) (.int v) S) R E := by
  obtain ⟨x, e, hx⟩ := atI_in h0 h1
  exact o_ixl e (h x hx)
theorem o_ixTB {l : List D} {v : Int} (h0 : 0 ≤ v) (h1 : v < l.length) (h : ∀ d ∈ l, R d S) : OKR (ixD (.tup l) (.int v) S) R E := by
  obtain ⟨x, e, hx⟩ := atI_in h0 h1
  exact o_ixt e (h x hx)
theorem o_ixSB {l : List Nat} {v : Int} (hl : l.length ≤ LINE) (h0 : 0 ≤ v) (h1 : v < l.length) (h : ∀ c ∈ l, R (.str [c]) S) : OKR (ixD (.str l) (.int v) S) R E := by
  obtain ⟨x, e, hx⟩ := atI_in h0 h1
  exact o_ixs hl e (h x hx)
/-! joined texts -/
def joinW (sep : List Nat) : List (List Nat) → List Nat
  | [] => []
  | [x] => x
  | x :: r => x ++ (sep ++ joinW sep r)
theorem joinW_eq (sep : List Nat) : ∀ l : List (List Nat), (Txt.join (toS sep) (l.map toS)).cps.toList = joinW sep l := by
  intro l
  have e : Txt.join (toS sep) (l.map toS) = Str.join (toS sep) (l.map toS) := StrLaws.glued_eq_join _ _
  rw [e]
  induction l with
  | nil => rfl
  | cons x r ih =>
    have ih := ih (StrLaws.glued_eq_join _ _)
    cases r with
    | nil => rfl
    | cons y r =>
      show ((toS x ++ toS sep) ++ Str.join (toS sep) ((y :: r).map toS)).cps.toList = x ++ (sep ++ joinW sep (y :: r))
      rw [app_cps, app_cps, ih, List.append_assoc]
      rfl
theorem strsOf_map : ∀ l : List (List Nat), strsOf (l.map .str) = some l
  | [] => rfl
  | x :: r => by
    show (strsOf (r.map .str)).map (x :: ·) = _
    rw [strsOf_map r]
    rfl
theorem o_join {sep : List Nat} {ws : List (List Nat)} (h : (ws.map List.length).sum + ws.length * sep.length ≤ LINE) (hq : R (.str (joinW sep ws)) S) : OKR (joinM (.str sep) [.lst (ws.map .str)] S) R E := by
  show OKR (ixL (strsOf (ws.map .str)) fun ys => if (ys.map List.length).sum + ys.length * sep.length ≤ LINE then Res.ok (.str (Txt.join (toS sep) (ys.map toS)).cps.toList) S else .bad) R E
  rw [strsOf_map]
  show OKR (if (ws.map List.length).sum + ws.length * sep.length ≤ LINE then _ else _) R E
  rw [if_pos h, joinW_eq]
  exact hq
theorem joinW_nil : ∀ ws : List (List Nat), joinW [] ws = ws.flatten
  | [] => rfl
  | [x] => by simp [joinW]
  | x :: y :: r => by
    show x ++ ([] ++ joinW [] (y :: r)) = _
    rw [joinW_nil (y :: r)]
    rfl
theorem signs_flat (w : List Nat) : (w.map fun c => [c]).flatten = w := by
  induction w with
  | nil => rfl
  | cons c w ih =>
    show c :: (w.map fun c => [c]).flatten = _
    rw [ih]
/-- ''.join of signs -/
theorem o_joinC {w : List Nat} (h : w.length ≤ LINE) (hq : R (.str w) S) : OKR (joinM (.str []) [.lst (sgL w)] S) R E := by
  have e : sgL w = (w.map fun c => [c]).map .str := by
    unfold sgL
    rw [List.map_map]
    rfl
  rw [e]
  refine o_join ?_ ?_
  · rw [List.map_map, List.length_map]
    have : ∀ w : List Nat, (w.map (List.length ∘ fun c => [c])).sum = w.length := by
      intro w
      induction w with
      | nil => rfl
      | cons c w ih =>
        rw [List.map_cons, List.sum_cons, ih, List.length_cons]
        show 1 + w.length = _
        omega
    rw [this]
    show w.length + w.length * 0 ≤ LINE
    omega
  · rw [joinW_nil, signs_flat]
    exact hq
end
end Sm
/-! Sm22: slices with a step, of lists. -/
namespace Sm
open PySem PySem.Spec PyProof.Rows L2
def pickL {α : Type} (l : List α) (lo hi st : Option Int) : List α := (sliceRange (sliceBounds lo hi st l.length).1 (sliceBounds lo hi st l.length).2.1 (sliceBounds lo hi st l.length).2.2).filterMap fun i => l[i]?
section
variable {X : Cx} {M : Lm} {W : WX} {K : PySem.W.Frag} {z : Sg}
theorem pick_enc {H : Hp} {ow : Addr → Prop} {l : List D} {vs : List V} (h : EncL K M H ow l vs) : ∀ is : List Nat, EncL K M H ow (is.filterMap fun i => l[i]?) (is.filterMap fun i => vs[i]?)
  | [] => .nil
  | i :: is => by
    have ih := pick_enc h is
    rw [List.filterMap_cons, List.filterMap_cons]
    cases r : l[i]? with
    | none =>
      have : vs[i]? = none := by
        rw [List.getElem?_eq_none_iff] at r ⊢
        rw [← h.length]
        exact r
      rw [this]
      exact ih
    | some d =>
      obtain ⟨v, h1, h2⟩ := h.get r
      rw [h1]
      exact .cons h2 ih
theorem pick_vals {xs : List V} {us : List Value} (h : Vals xs us) : ∀ is : List Nat, Vals (is.filterMap fun i => xs[i]?) (is.filterMap fun i => us[i]?)
  | [] => .nil
  | i :: is => by
    have ih := pick_vals h is
    rw [List.filterMap_cons, List.filterMap_cons]
    cases r : xs[i]? with
    | none =>
      have : us[i]? = none := by
        rw [List.getElem?_eq_none_iff] at r ⊢
        rw [← h.length]
        exact r
      rw [this]
      exact ih
    | some d =>
      obtain ⟨v, h1, h2⟩ := h.get r
      rw [h1]
      exact .cons h2 ih
theorem pick_len {α : Type} (l : List α) : ∀ is : List Nat, (is.filterMap fun i => l[i]?).length ≤ is.length := fun is => List.length_filterMap_le ..
def stepD (a : D) (lo hi st : Option Int) (S : Sto) : Res D := ixL (getL a S) fun xs => if (decide (st ≠ some 0) && decide ((pickL xs lo hi st).length ≤ LINE)) = true then .ok (.lst (pickL xs lo hi st)) S else .bad
def stepF (f : Env → Sto → Res D) (lo hi st : Env → Sto → Res (Option Int)) : Env → Sto → Res D := fun env S => (f env S).bind fun a S1 => (lo env S1).bind fun l S2 => (hi env S2).bind fun h S3 => (st env S3).bind fun s S4 => stepD a l h s S4
theorem s_step {e st : Expr} {lo hi : Option Expr} {p3 pos : Pos} {f : Env → Sto → Res D} {fl fh fs : Env → Sto → Res (Option Int)} (he : SE X M W e f) (hl : SP' X M W lo fl) (hh : SP' X M W hi fh) (hs : SP' X M W (some st) fs)
 : SE X M W (.Subscript e (.Slice lo hi (some st) p3) pos) (stepF f fl fh fs) := by
  refine ⟨fun pins s σ H Q I h => ?_⟩
  obtain ⟨env, z, rfl, k, ve, h⟩ := h
  refine Subscript_ (thn (he.run pins s σ z.H _ I ⟨env, z, rfl, k, ve, Out.bind h⟩) fun v s1 ⟨x, H1, I1, r1, q1⟩ => ?_)
  obtain ⟨a, z1, rfl, _, x1, k1, qa, h1⟩ := q1
  refine wpAny_Slice (thn (hl.run pins s1 σ z1.H _ I1 ⟨env, z1, rfl, k1, ve.ext x1, Out.bind h1⟩) fun vl s2 ⟨l, H2, I2, pl, q2⟩ => ?_)
  obtain ⟨l', z2, rfl, _, x2, k2, rfl, h2⟩ := q2
  refine thn (hh.run pins s2 σ z2.H _ I2 ⟨env, z2, rfl, k2, (ve.ext x1).ext x2, Out.bind h2⟩) fun vu s3 ⟨u, H3, I3, pu, q3⟩ => ?_
  obtain ⟨u', z3, rfl, _, x3, k3, rfl, h3⟩ := q3
  refine thn (hs.run pins s3 σ z3.H _ I3 ⟨env, z3, rfl, k3, ((ve.ext x1).ext x2).ext x3, Out.bind h3⟩) fun vs s4 ⟨o, H4, I4, ps, q4⟩ => ?_
  obtain ⟨o', z4, rfl, _, x4, k4, rfl, h4⟩ := q4
  have qa4 := ((qa.ext x2).ext x3).ext x4
  have h5 : Out X.K M (EncA X.K M) W σ z4 Q (ixL (getL a z4.S) fun xs => if (decide (o' ≠ some 0) && decide ((pickL xs l' u' o').length ≤ LINE)) = true then .ok (.lst (pickL xs l' u' o')) z4.S else .bad) := h4
  cases r : getL a z4.S with
  | none =>
    rw [r] at h5
    exact h5.elim
  | some xs =>
    rw [r] at h5
    dsimp only [ixL] at h5
    by_cases c : (decide (o' ≠ some 0) && decide ((pickL xs l' u' o').length ≤ LINE)) = true
    · rw [if_pos c] at h5
      rw [Bool.and_eq_true] at c
      obtain ⟨p, ws, rfl, g1, g2⟩ := getL_ok k4 qa4 r
      cases r1
      have I5 : Inv X pins σ z4.H { s4 with heap := s4.heap.push { cls := .type "slice", data := .fields #[vl, vu, vs] } } := I4.kept (t' := s4.toks) fun b ob q => Heap.get?_push_of_some _ q
      obtain ⟨its, rr, ht, hz⟩ := I5.list g1
      have hlen := rr.length
      have e1 : its.length = xs.length := by rw [← hlen, ← g2.length]
      show wpAny (model X.prog X.w) X.A (subscriptTail e (.Slice lo hi (some st) p3) (.ref p) (.ref s4.heap.objs.size)) (EP X pins σ Q) X.xe _
      refine tail_any (ops := [.ref p, .ref s4.heap.objs.size]) ht.isList.typeIs (PySem.slot_list_getitem.lookup) ?_ (by with_unfolding_all rfl)
      refine wpAny_getItem_list_slice ht.isList (Heap.IsSliceOf.new _ vl vu vs) pl pu ps (of_decide_eq_true c.1) ?_ (by rw [List.size_toArray]; omega)
      have e2 : slicePick its.toArray l' u' o' = (pickL its l' u' o').toArray := by
        unfold slicePick pickL
        rw [List.size_toArray]
        congr 1
        congr 1
        funext i
        exact List.getElem?_toArray ..
      have e3 : pickL its l' u' o' = (sliceRange (sliceBounds l' u' o' xs.length).1 (sliceBounds l' u' o' xs.length).2.1 (sliceBounds l' u' o' xs.length).2.2).filterMap fun i => its[i]? := by
        unfold pickL
        rw [e1]
      rw [e2, e3]
      have hv := pick_vals rr (sliceRange (sliceBounds l' u' o' xs.length).1 (sliceBounds l' u' o' xs.length).2.1 (sliceBounds l' u' o' xs.length).2.2)
      have he := pick_enc g2 (sliceRange (sliceBounds l' u' o' xs.length).1 (sliceBounds l' u' o' xs.length).2.1 (sliceBounds l' u' o' xs.length).2.2)
      have hk := he.length
      have hc : (pickL xs l' u' o').length ≤ LINE := of_decide_eq_true c.2
      refine ⟨.ref _, _, I5.laid (t' := s4.toks) (o := .lst _) (fun b ob q => Heap.get?_push_of_some _ q) (Nat.le_refl _) ⟨?_, _, 0, hv, Heap.get?_push_size _ rfl⟩, rfl, out_lst k4 he h5 _ (I5.hok.fresh (Nat.le_refl _))⟩
      rw [← hk, ← line_eq]
      exact hc
    · rw [if_neg c] at h5
      exact h5.elim
end
end Sm
/-! Sm23: exceptions without fields: raised, caught into a name, asked for their class. -/
namespace Sm
open PySem PySem.Spec PyProof.Rows L2
/-- the class x of the text stands at C: an exception class without an __init__ of its own -/
structure XcF (K : PySem.W.Frag) (C : Addr) : Prop where
  ex : PySem.W.excIn K C [.type "ValueError", .type "Exception", .type "BaseException", .type "object"] "ValueError.__new__" = true
  kp : PySem.W.keepIn K (.ref C) = true
  sb : PySem.W.subIn K (.ref C) (.type "BaseException") = some true
  ty : PySem.W.typeIn K (.ref C) = some (.type "type")
/-- what isinstance asks of the class of an exception -/
abbrev XcI := L2.ExcC
section
variable {X : Cx} {M : Lm} {W : WX}
/-! ### raise C('..') -/
def raiseF (k : Nat) : Env → Sto → SR := fun env S => .ex (.exc k []) env S
theorem ss_raise (k : Nat) {x m : Str} {j : Nat} {p p2 pos pos2 : Pos} (hc : X.calm = true) (tk : Takes X W) (C : XcF X.K (M.cls k)) (hm : X.mg x = some (.ref (M.cls k))) (hg : Gl X x := by rfl) (hdb : (x == ("__debug__" : Str)) = false := by decide) :
    SS X M W (.Raise (some (.Call (.Name x p) [.Constant (.str m) j p2] [] pos)) none pos2) (raiseF k) := by
  refine ps_imp (ps_raise hc tk (pmk_own PySem.F.excBase_ValueError C.ex hm C.kp (raises_own C.sb C.ty) hg hdb)) fun D σ H h => ?_
  obtain ⟨env, z, rfl, kz, v, h⟩ := h
  exact h z σ _ _ rfl (Ext.refl z) kz v ⟨k, [], [], rfl, rfl, .inl ⟨rfl, rfl⟩, .nil⟩
/-! ### an exception that was caught is a value from now on -/
theorem exo_ok {P : Program} {w : World} {H : Hp} {h : Heap} {a c : Addr} {d : Option Addr} {oe : Obj} {vs : Array Value} (e : h.get? a = some oe) (z : Zc (.ref c) d oe) (hd : oe.data = .fields vs) : ObjOk P w H h a (EXO a c d) :=
  ⟨⟨oe, vs, e, z, hd⟩, ⟨oe, e⟩, fun _ _ ⟨o, v, q, r⟩ k => ⟨o, v, k o q, r⟩⟩
theorem inv_track {pins : List (Addr × Obj)} {σ : L2.St} {H : Hp} {s : Shared} {a c : Addr} {d : Option Addr} {oe : Obj} {vs : Array Value} (I : Inv X ((a, oe) :: pins) σ H s) (hz : Zc (.ref c) d oe) (hd : oe.data = .fields vs) (n0 : X.s_0.heap.get? a = none)
    (hp : ∀ p ∈ X.pn ++ pins, p.1 ≠ a) : Inv X pins σ (upd H a (EXO a c d)) s := by
  obtain ⟨e, n, ne, nf, nc⟩ := I.pin (a, oe) (List.mem_append.mpr (.inr (List.mem_cons_self ..)))
  have e : s.heap.get? a = some oe := e
  have n : H a = none := n
  have at0 : ∀ {b : Addr} {o : Obj}, X.s_0.heap.get? b = some o → b ≠ a := fun {b o} q z => by
    rw [z, n0] at q
    cases q
  have atH : ∀ {b : Addr} {u : HO}, H b = some u → upd H a (EXO a c d) b = some u := fun {b u} q => by
    rw [upd_ne (ne_of_none q n)]
    exact q
  refine ⟨I.ok, I.os, I.bare, ⟨I.base.keep, I.base.slot, fun b o q m hx => ?_, I.base.there, fun b xs q => atH (I.base.tups b xs q), fun b o u q => atH (I.base.frzs b o u q), fun b ps q => ?_⟩, I.loc, I.cell, ?_, fun x b q => ?_, fun p hq => ?_, fun b u q => ?_, I.len⟩
  · rw [upd_ne (at0 q)]
    exact I.base.free b o q m hx
  · obtain ⟨more, q'⟩ := I.base.tbls b ps q
    exact ⟨more, atH q'⟩
  · rw [upd_ne (Ne.symm ne)]
    exact I.free
  · have h1 := I.freeC x b q
    obtain ⟨v, o, ho, hv⟩ := I.cell x b q
    have hb : b ≠ a := fun z => by
      rw [z, e] at ho
      cases ho
      exact nc v hv
    rw [upd_ne hb]
    exact h1
  · have hq' : p ∈ X.pn ++ (a, oe) :: pins := by
      rcases List.mem_append.mp hq with z | z
      · exact List.mem_append.mpr (.inl z)
      · exact List.mem_append.mpr (.inr (List.mem_cons_of_mem _ z))
    obtain ⟨a1, a2, a3⟩ := I.pin p hq'
    exact ⟨a1, by rw [upd_ne (hp p hq)]; exact a2, a3⟩
  · by_cases hb : b = a
    · subst hb
      rw [upd_same] at q
      cases q
      exact exo_ok e hz hd
    · rw [upd_ne hb] at q
      exact (I.hok b u q).stay (fun _ _ _ r => r) (fun f r => atH r) fun f xs r => atH r
/-! ### try: .. except C as n: m = n -/
def tryF (isA : Nat → Option Bool) (i j : Nat) (f : Env → Sto → SR) : Env → Sto → SR := fun env S => match f env S with
  | .ex (.exc k l) env1 S1 => (match isA k with
    | some true => .nx ((env1.set j (some (.exc k l))).set i none) S1
    | some false => .ex (.exc k l) env1 S1
    | none => .bad)
  | .ex _ _ _ => .bad
  | r => r
/-- what the clause wishes of an exception of the body -/
def wCatch (K : PySem.W.Frag) (M : Lm) (isA : Nat → Option Bool) (i j : Nat) (W : WX) (D : Ends) : WX := fun cls d σ H =>
  ∃ k b, cls = .ref (M.cls k) ∧ isA k = some b ∧ (b = true → ∀ a, H a = none → D.nx ((σ.set j (some (.ref a))).set i none) (upd H a (EXO a (M.cls k) d))) ∧ (b = false → W cls d σ H)
theorem env_gone {K : PySem.W.Frag} {M : Lm} {z : Sg} {env : Env} {σ : L2.St} (h : EnvOk K M z env σ) (i : Nat) : EnvOk K M z (env.set i none) (σ.set i none) := by
  refine ⟨by rw [List.length_set, List.length_set]; exact h.1, fun j d e => ?_⟩
  by_cases hj : j = i
  · subst hj
    have hl : j < env.length := by
      have := (List.getElem?_eq_some_iff.mp e).1
      rw [List.length_set] at this
      exact this
    rw [List.getElem?_set_self hl] at e
    cases e
  · rw [List.getElem?_set_ne (Ne.symm hj)] at e ⊢
    exact h.2 j d e
/-- the body's wish, from the whole's -/
theorem try_body {K : PySem.W.Frag} {isA : Nat → Option Bool} {i j : Nat} {D : Ends} {f : Env → Sto → SR} {σ : L2.St} {H : Hp} (h : tS K M W (tryF isA i j f) D σ H) : tS K M (wCatch K M isA i j W D) f D σ H := by
  obtain ⟨env, z, rfl, kz, v, h⟩ := h
  refine ⟨env, z, rfl, kz, v, ?_⟩
  unfold tryF at h
  cases r : f env z.S with
  | nx e S => rw [r] at h; exact h
  | rt e S => rw [r] at h; exact h
  | bk e S => rw [r] at h; exact h
  | ct e S => rw [r] at h; exact h
  | bad => rw [r] at h; exact h
  | ex e env1 S1 =>
    rw [r] at h
    intro z1 σ1 cls d e1 x1 k1 v1 q1
    obtain ⟨k, l, vs, rfl, rfl, xf, el⟩ := q1
    have h' : OutS K M W D z (match isA k with
      | some true => .nx ((env1.set j (some (.exc k l))).set i none) S1
      | some false => .ex (.exc k l) env1 S1
      | none => .bad) := h
    cases r2 : isA k with
    | none =>
      rw [r2] at h'
      exact h'.elim
    | some b =>
      rw [r2] at h'
      cases b with
      | false => exact ⟨k, false, rfl, r2, fun c => (by cases c), fun _ => h' z1 σ1 _ d e1 x1 k1 v1 ⟨k, l, vs, rfl, rfl, xf, el⟩⟩
      | true =>
        refine ⟨k, true, rfl, r2, fun _ a na => ?_, fun c => (by cases c)⟩
        have x2 : Ext z1 (z1.put a (EXO a (M.cls k) d)) := ext_put na k1
        have q2 : Enc K M (z1.put a (EXO a (M.cls k) d)).H (z1.put a (EXO a (M.cls k) d)).ow (.exc k l) (.ref a) := by
          refine .exc at_put (now_put na k1) ?_ (el.mv x2.mv)
          rcases xf with xf | ⟨dd, h0, h1, h2⟩
          · exact .inl xf
          · exact .inr ⟨dd, h0, h1, x2.xds _ _ h2⟩
        exact h' (z1.put a (EXO a (M.cls k) d)) _ e1 (x1.trans x2) (sok_put na k1) (env_gone ((v1.ext x2).set j (.of q2)) i)
/-- where the exception is caught, the frames are none of its places -/
theorem not_frame {B h : Heap} {l : List PySem.Env} {a : Addr} {o : Obj} {vs : Array Value} (ff : h.FunFrames B l) (e : h.get? a = some o) (hd : o.data = .fields vs) : a ∉ frs l := fun hm => by
  obtain ⟨_, o2, e2, nf⟩ := ff.mem hm
  rw [e] at e2
  cases e2
  exact nf _ hd
/-- the suite m = n -/
theorem suite_set {a : Addr} {pn : List (Addr × Obj)} {i j : Nat} {n m : Str} {mp np pos : Pos} (hN : X.N.Nodup) (hi : X.N[i]? = some n) (hj : X.N[j]? = some m) (hln : X.env.scope.names.lookup n = some .local) (hlm : Loc X.env.scope m) (hdb : (n == ("__debug__" : Str)) = false) (hcd : (n == ("__classdict__" : Str)) = false)
    (hs : swapsWith (.Name n np) (some (.Name m mp)) pos.line X.env = pure false) (hf : X.fn m = true ∨ X.env.scope.names.lookup m = some .local) : PSs (X.suite a pn) [.Assign [.Name m mp] (.Name n np) pos] (tAsg (tVar i) (gName j)) :=
  pss_one (ps_set (X := X.suite a pn) hN hj hlm (pe_var (X := X.suite a pn) hi (.inl hln) hdb hcd) hs hf)
theorem ss_try (kC : Nat) (i j : Nat) {isA : Nat → Option Bool} {x n m : Str} {body : List Stmt} {f : Env → Sto → SR} {xp mp np ap hp pos : Pos} (hx : X.stack = X.env :: X.outer) (hfr : X.env.frame = some X.env.locals) (hex : X.ex = []) (hN : X.N.Nodup) (hi : X.N[i]? = some n) (hj : X.N[j]? = some m)
    (tk : Takes X W) (hm : X.mg x = some (.ref (M.cls kC))) (sub : ∀ k b, isA k = some b → PySem.W.exmOne X.K (.ref (M.cls k)) (.ref (M.cls kC)) = some b)
    (hb : ∀ (W' : WX) (pn : List (Addr × Obj)) (xe : Value → Shared → Prop), Takes (X.tr pn xe) W' → PassesOwn (model X.prog X.w) X.A X.env xe → SSs (X.tr pn xe) M W' body f)
    (hln : X.env.scope.names.lookup n = some .local := by rfl) (hlm : Loc X.env.scope m := by first | exact Or.inl rfl | exact Or.inr rfl) (hg : Gl X x := by rfl) (hdx : (x == ("__debug__" : Str)) = false := by decide) (hdb : (n == ("__debug__" : Str)) = false := by decide) (hcd : (n == ("__classdict__" : Str)) = false := by decide)
    (hs : swapsWith (.Name n np) (some (.Name m mp)) ap.line X.env = pure false := by rfl) (hf : X.fn m = true ∨ X.env.scope.names.lookup m = some .local := by first | exact .inl rfl | exact .inr rfl) :
    SS X M W (.Try body [.ExceptHandler (some (.Name x xp)) (some n) [.Assign [.Name m mp] (.Name n np) ap] hp] [] [] pos) (tryF isA i j f) := by
  refine ⟨fun pins s σ H D I hw => ?_⟩
  have ok := I.ok
  have fr : X.A.frames = some (X.env :: X.outer) := by rw [ok.frames, hx]
  have hkn : X.env.kindOf n = some .local := hln
  have hq := try_body hw
  refine wpAny_Try_except ?_
  refine wpAny_mono ((hb (wCatch X.K M isA i j W D) (X.pn ++ pins) (fun e s1 => wpAny (model X.prog X.w) X.A (noteFrame e X.env) (fun _ s2 => wpAny (model X.prog X.w) X.A (setFlight e none)
    (fun _ s3 => wpAny (model X.prog X.w) X.A (handleBy e X.env [.ExceptHandler (some (.Name x xp)) (some n) [.Assign [.Name m mp] (.Name n np) ap] hp]) (SP X pins D) X.xe s3) X.xe s2) X.xe s1) ?caught PassesOwn.looking).run [] s σ H D (I.toTry _) hq) ?through (fun _ _ z => z)
  case through =>
    intro fl s1 h1
    cases fl with
    | next =>
      obtain ⟨σ1, H1, J, q⟩ := h1
      exact wpAny_execs_nil ⟨σ1, H1, J.ofTry ok, q⟩
    | ret u =>
      obtain ⟨v, σ1, H1, J, r, q⟩ := h1
      exact ⟨v, σ1, H1, J.ofTry ok, r, q⟩
    | brk =>
      obtain ⟨σ1, H1, J, q⟩ := h1
      exact ⟨σ1, H1, J.ofTry ok, q⟩
    | cont =>
      obtain ⟨σ1, H1, J, q⟩ := h1
      exact ⟨σ1, H1, J.ofTry ok, q⟩
  case caught =>
    intro u s1 hair
    obtain ⟨a, B, s0, pins1, σ1, H1, cls, d, rfl, J1, low, up, sky, na, os, ag, k, b, rfl, hA, yes, no⟩ := hair
    have J0 : Inv X pins σ1 H1 s0 := J1.ofTry ok
    have sky1 : Sky B (X.env :: X.outer) a (Zc (.ref (M.cls k)) d) X.env.locals s1.heap := by
      rw [← hx]
      exact sky
    show wpAny (model X.prog X.w) X.A (noteFrame (.ref a) X.env) _ _ _
    refine Sky.land Zc.steady fr hfr sky1 fun h2 fly2 up2 => ?_
    have J2 : Inv X pins σ1 H1 { s1 with heap := h2 } := J0.landed low fly2.1 (up.trans up2) os ag
    obtain ⟨oe2, vs2, at2, cls2, dat2⟩ := fly2.there
    have nfr : a ∉ frs (X.env :: X.outer) := not_frame fly2.2.2.1 at2 dat2
    have nloc : a ≠ X.env.locals := fun e => nfr (List.mem_filterMap.mpr ⟨X.env, List.mem_cons_self .., by rw [hfr, e]⟩)
    have nfs : a ∉ X.fs := fun hm1 => by
      obtain ⟨e, he, q⟩ := List.mem_filterMap.mp hm1
      exact nfr (List.mem_filterMap.mpr ⟨e, List.mem_cons_of_mem _ he, q⟩)
    have n0 : s0.heap.get? a = none := by
      cases e : s0.heap.get? a with
      | none => rfl
      | some o =>
        have q := low a o e (by rw [hx]; exact nfr)
        rcases sky1 with z | z | z
        · rw [z.2.1] at q
          cases q
        · rw [z.2.1] at q
          cases q
        · rw [z.2.1] at q
          cases q
    have nbase : X.s_0.heap.get? a = none := by
      cases e : X.s_0.heap.get? a with
      | none => rfl
      | some o =>
        obtain ⟨o2, q⟩ := J0.base.there a o e (by rw [hex]; exact List.not_mem_nil)
        rw [n0] at q
        cases q
    have npin : ∀ p ∈ X.pn ++ pins, p.1 ≠ a := fun p hp1 e => by
      have q := (J0.pin p hp1).1
      rw [e, n0] at q
      cases q
    have S2 := J2.suite at2 dat2 na nloc nfs
    refine wpAny_handleBy_cons (codeAny_handlers_test ?_) (by intro q; cases q)
    have hty : PySem.W.Looks (model X.prog X.w) h2 (typeOf (.ref a)) (.ref (M.cls k)) := fun A Q E s k2 q => wpAny_typeOf_ref (k2 _ _ at2) (by
      rw [cls2.1]
      exact q)
    have ask := PySem.W.exm_one (M := model X.prog X.w) J2.kIn hty (sub k b hA)
    refine ld_glob (X := X.suite a ((a, oe2) :: (X.pn ++ pins))) S2 hg hm ?_ hdx
    refine ask.here ?_
    cases b with
    | true =>
      refine codeAny_handlers_suite_as ?_
      refine HandSPX.lands_againZ fly2 fun h3 fly3 up3 => ?_
      have J3 : Inv X pins σ1 H1 { s1 with heap := h3 } := J0.landed low fly3.1 ((up.trans up2).trans up3) os ag
      obtain ⟨oe3, vs3, at3, cls3, dat3⟩ := fly3.there
      have S3 := J3.suite at3 dat3 na nloc nfs
      refine store_ok (X := X.suite a ((a, oe3) :: (X.pn ++ pins))) (v := .ref a) S3 hN hi (.inl hln) rfl (fun s4 S4 => ?_) (.inr hln)
      have il : i < σ1.length := by
        rw [J0.len]
        exact (List.getElem?_eq_some_iff.mp hi).1
      refine wpAny_mono ((suite_set (a := a) (pn := (a, oe3) :: (X.pn ++ pins)) hN hi hj hln hlm hdb hcd hs hf).run [] s4 _ H1 { nx := fun σ' H' => σ' = (σ1.set i (some (.ref a))).set j (some (.ref a)) ∧ H' = H1, rt := fun _ _ => False, bk := fun _ _ => False, ct := fun _ _ => False } S4
        ⟨.ref a, List.getElem?_set_self il, rfl, rfl⟩) (fun fl s5 h5 => ?_) (fun _ _ z => False.elim z)
      cases fl with
      | next =>
        obtain ⟨σ5, H5, S5, rfl, rfl⟩ := h5
        have T5 : Inv X ((a, oe3) :: pins) ((σ1.set i (some (.ref a))).set j (some (.ref a))) H5 s5 := ⟨ok, S5.os, S5.bare, S5.base, S5.loc, S5.cell, S5.free, S5.freeC, fun p hp1 => S5.pin p (by
          show p ∈ ((a, oe3) :: (X.pn ++ pins)) ++ []
          rw [List.append_nil]
          rcases List.mem_append.mp hp1 with z | z
          · exact List.mem_cons_of_mem _ (List.mem_append.mpr (.inl z))
          · rcases List.mem_cons.mp z with z | z
            · rw [z]
              exact List.mem_cons_self ..
            · exact List.mem_cons_of_mem _ (List.mem_append.mpr (.inr z))), S5.hok, S5.len⟩
        refine gone_ok T5 hN hi hkn fun s6 T6 => ?_
        refine ⟨_, _, inv_track T6 cls3 dat3 nbase npin, ?_⟩
        have q := yes rfl a na
        have e : (((σ1.set i (some (V.ref a))).set j (some (V.ref a))).set i none) = ((σ1.set j (some (V.ref a))).set i none) := by
          by_cases hij : i = j
          · rw [hij, List.set_set]
          · rw [List.set_comm _ _ hij, List.set_set]
        rw [e]
        exact q
      | brk =>
        obtain ⟨_, _, _, z⟩ := h5
        exact z.elim
      | cont =>
        obtain ⟨_, _, _, z⟩ := h5
        exact z.elim
      | ret u =>
        obtain ⟨_, _, _, _, _, z⟩ := h5
        exact z.elim
    | false =>
      show wpAny _ X.A (handleBy (.ref a) X.env []) _ _ _
      refine wpAny_handleBy_nil ?_
      obtain ⟨_, _, _, oe, vs, T, oT, ts, at4, _, dat4, tb4, _⟩ := id fly2
      unfold PySem.passOn
      refine wpAny_bind (wpAny_field at4 dat4 tb4 ?_)
      rw [if_neg (show ¬ ((Value.ref T == Value.none) = true) from by simp)]
      have on_ : wpAny (model X.prog X.w) X.A (setFlight (.ref a) X.env.frame) (fun _ s4 => wpAny (model X.prog X.w) X.A (throw (.ref a) : Sem Flow) (SP X pins D) X.xe s4) X.xe { s1 with heap := h2 } := by
        rw [hfr]
        refine HandSPX.setFlight_upZ fly2 fun h4 held up4 => wpAny_throw (tk _ _ ?_)
        exact ⟨a, B, s0, pins, σ1, H1, _, d, rfl, J0, low, (up.trans up2).trans up4, .inr (.inr (by
          rw [hx]
          exact held)), na, os, ag, no rfl⟩
      first
        | exact wpAny_bind (wpAny_pure (wpAny_bind on_))
        | exact wpAny_bind on_
end
end Sm
/-! Sm24: the text's classes; isinstance of an exception; the law's end with classes. -/
namespace Sm
open PySem PySem.Spec PyProof.Rows L2
/-- class i of the text: its class object, the classes that it is one of -/
structure SubOk (K : PySem.W.Frag) (M : Lm) (sub : Nat → Nat → Option Bool) : Prop where
  kit : ∀ k j b, sub k j = some b → PySem.W.kitOne K (.ref (M.cls k)) (.ref (M.cls j)) = some b
  exm : ∀ k j b, sub k j = some b → PySem.W.exmOne K (.ref (M.cls k)) (.ref (M.cls j)) = some b
  exc : ∀ k j b, sub k j = some b → ExcC K (M.cls k)
  ve : ∀ k j b, sub k j = some b → PySem.W.kitOne K (.ref (M.cls k)) (.type "ValueError") = some true
section
variable {X : Cx} {M : Lm} {W : WX}
/-- a class by its name -/
theorem s_cls (k : Nat) {x : Str} {pos : Pos} (hm : X.mg x = some (.ref (M.cls k))) (hg : Gl X x := by rfl) (hd : (x == ("__debug__" : Str)) = false := by decide) : SE X M W (.Name x pos) (conF (.cls k)) := by
  refine pe_imp (pe_glob (v := .ref (M.cls k)) hg hm rfl hd) fun σ H Q h => ?_
  obtain ⟨env, z, rfl, kz, _, h⟩ := h
  exact h z _ rfl (Ext.refl z) kz (.of (.cls k))
/-- an exception's dict, if it has one, is told -/
def XDs (H : Hp) (d : Option Addr) : Prop := ∀ dd, d = some dd → ∃ fs, H dd = some (.xd fs)
theorem exc_at {s : Shared} {pins : List (Addr × Obj)} {σ : L2.St} {H : Hp} {a C : Addr} {d : Option Addr} (I : Inv X pins σ H s) (h : H a = some (EXO a C d)) (hx : XDs H d) : ∃ oe od, PySem.W.InstAt s.heap a oe C od := by
  obtain ⟨⟨oe, vs, hget, hz, hd⟩, _⟩ := I.hok a _ h
  refine ⟨oe, ?_⟩
  obtain ⟨oc, od, oda, osl⟩ := oe
  obtain ⟨h1, h2⟩ := hz
  dsimp only at h1 h2 hd
  subst h1 h2 hd
  cases od with
  | none => exact ⟨none, hget, rfl, rfl, trivial⟩
  | some dd =>
    obtain ⟨fs, e⟩ := hx dd rfl
    have z : ObjOk X.prog X.w H s.heap dd (.xd fs) := I.hok dd _ e
    obtain ⟨mA, hns, _⟩ := z
    obtain ⟨o, ho, _⟩ := lookIn_ns hns
    exact ⟨some o, hget, rfl, rfl, ho⟩
theorem ExcC.kit {K : PySem.W.Frag} {D x : Addr} {od : Option Obj} {ox : Obj} (E : ExcC K D) : PySem.W.KitX K (.ref x) (.ref D) (fun h => PySem.W.InstAt h x ox D od) :=
  PySem.W.kitx_exc (by obtain ⟨cd, hc, _⟩ := PySem.W.any_some E.hd; rw [hc]; rfl) E.hg E.hk E.hs E.ha E.hn E.ht E.hm
def rIsX (K : PySem.W.Frag) : List V → Hp → VK → Prop := fun xs H Q => ∃ (a C : Addr) (d : Option Addr) (c : V) (u : Value) (b : Bool), xs = [.ref a, c] ∧ H a = some (EXO a C d) ∧ XDs H d ∧ ExcC K C ∧ ClsV c u ∧ PySem.W.kitOne K (.ref C) u = some b ∧ Q (.bl b) H
theorem call_isX : CallR X (.builtin "isinstance") (rIsX X.K) := by
  intro pins s σ H xs us Q I r h
  obtain ⟨a, C, d, c, u, b, rfl, ha, hd, E, kc, e, q⟩ := h
  obtain ⟨u1, u2, rfl, r1, r2⟩ := vals2 r
  cases (show u1 = Value.ref a from r1)
  have e2 := kc.eq r2
  subst e2
  obtain ⟨oe, od, J⟩ := exc_at I ha hd
  exact PySem.W.kia_one (ExcC.kit E) I.kIn J e (fun z => nomatch z) fun tk => ⟨.bl b, H, I.tok tk, rfl, q⟩
def rIsXT (K : PySem.W.Frag) : List V → Hp → VK → Prop := fun xs H Q => ∃ (a C tp : Addr) (d : Option Addr) (cs : List V) (us : List Value) (b : Bool), xs = [.ref a, .ref tp] ∧ H a = some (EXO a C d) ∧ XDs H d ∧ ExcC K C ∧ SqT K H tp cs ∧ Paired ClsV cs us ∧ PySem.W.kitAny K (.ref C) us = some b ∧ Q (.bl b) H
theorem call_isXT : CallR X (.builtin "isinstance") (rIsXT X.K) := by
  intro pins s σ H xs us Q I r h
  obtain ⟨a, C, tp, d, cs, ws, b, rfl, ha, hd, E, hT, kc, e, q⟩ := h
  obtain ⟨u1, u2, rfl, r1, r2⟩ := vals2 r
  cases (show u1 = Value.ref a from r1)
  cases (show u2 = Value.ref tp from r2)
  obtain ⟨oe, od', J⟩ := exc_at I ha hd
  obtain ⟨its, rv, ⟨o, h1, h2, n, h3⟩, _⟩ := I.tuple hT
  have e3 := ClsV.all kc rv
  subst e3
  obtain ⟨oc, od, dt, sl⟩ := o
  simp only at h2 h3
  subst h2 h3
  exact PySem.W.kia_tup (ExcC.kit E) I.kIn J h1 e (fun z => nomatch z) fun tk => ⟨.bl b, H, I.tok tk, rfl, q⟩
def subAny (sub : Nat → Nat → Option Bool) (k : Nat) : List D → Option Bool
  | [] => some false
  | .cls j :: r => match sub k j, subAny sub k r with
    | some b, some c => some (b || c)
    | _, _ => none
  | _ => none
def isiX (sub : Nat → Nat → Option Bool) : Fn := fun as S => match as with
  | [.exc k _, .cls j] => (match sub k j with
    | some b => .ok (.bl b) S
    | none => .bad)
  | [.exc k _, .tup cs] => (match sub k k, subAny sub k cs with
    | some _, some b => .ok (.bl b) S
    | _, _ => .bad)
  | [.exc k _, .ty .verr] => (match sub k k with
    | some _ => .ok (.bl true) S
    | none => .bad)
  | as => isiM as S
theorem encA_exc {K : PySem.W.Frag} {z : Sg} {k : Nat} {l : List D} {v : V} (q : EncA K M z (.exc k l) v) : ∃ a d, v = .ref a ∧ z.H a = some (EXO a (M.cls k) d) ∧ XDs z.H d := by
  cases q with
  | of q =>
    cases q with
    | @exc a _ _ d vs h _ x e =>
      rcases x with ⟨_, rfl⟩ | ⟨dd, n, e1, e2⟩
      · exact ⟨_, _, rfl, h, fun dd z => (by cases z)⟩
      · exact ⟨_, _, rfl, h, fun dd2 z => by
          rw [e1] at z
          cases z
          exact ⟨_, e2⟩⟩
theorem encA_cls {K : PySem.W.Frag} {z : Sg} {k : Nat} {v : V} (q : EncA K M z (.cls k) v) : v = .ref (M.cls k) := by
  cases q with
  | of q =>
    cases q
    rfl
theorem subAny_ok {K : PySem.W.Frag} {H : Hp} {ow : Addr → Prop} {sub : Nat → Nat → Option Bool} (T : SubOk K M sub) (k : Nat) : ∀ {cs : List D} {vs : List V} {b : Bool}, EncL K M H ow cs vs → subAny sub k cs = some b → ∃ us, Paired ClsV vs us ∧ PySem.W.kitAny K (.ref (M.cls k)) us = some b
  | [], _, b, .nil, h => by
    cases h
    exact ⟨[], .nil, rfl⟩
  | c :: cs, _, b, .cons e es, h => by
    cases c with
    | cls j =>
      unfold subAny at h
      cases r1 : sub k j with
      | none =>
        rw [r1] at h
        cases h
      | some b1 =>
        cases r2 : subAny sub k cs with
        | none =>
          rw [r1, r2] at h
          cases h
        | some b2 =>
          rw [r1, r2] at h
          cases h
          obtain ⟨us, h1, h2⟩ := subAny_ok T k es r2
          cases e
          refine ⟨.ref (M.cls j) :: us, .cons (.own _) h1, kitAny_cons (T.kit _ _ _ r1) (fun z => ?_) fun z => ?_⟩
          · rw [h2, z]
            rfl
          · rw [z]
            rfl
    | _ => cases h
theorem isiX_ok {sub : Nat → Nat → Option Bool} (T : SubOk X.K M sub) : CallR X (.builtin "isinstance") (rCl X.K M W (isiX sub)) := by
  intro pins s σ H xs us Q I r h
  obtain ⟨z, as, σ', rfl, k, qa, h⟩ := h
  have old : Out X.K M (EncA X.K M) W σ' z Q (isiM as z.S) → wpAny (model X.prog X.w) X.A (call (.builtin "isinstance") us) (EP X pins σ Q) X.xe s := fun h => isi_ok (X := X) (M := M) (W := W) pins s σ z.H xs us Q I r ⟨z, as, σ', rfl, k, qa, h⟩
  unfold isiX at h
  split at h
  · rename_i kk ll j
    obtain ⟨v, w, rfl, q1, q2⟩ := encAs2 qa
    obtain ⟨a, dd, rfl, ha, hd⟩ := encA_exc q1
    have ew := encA_cls q2
    subst ew
    cases e : sub kk j with
    | none =>
      rw [e] at h
      exact h.elim
    | some b =>
      rw [e] at h
      exact call_isX pins s σ z.H _ us Q I r ⟨a, _, dd, _, _, b, rfl, ha, hd, T.exc _ _ _ e, .own _, T.kit _ _ _ e, out_bl k h⟩
  · rename_i kk ll cs
    obtain ⟨v, w, rfl, q1, q2⟩ := encAs2 qa
    obtain ⟨a, dd, rfl, ha, hd⟩ := encA_exc q1
    obtain ⟨p, vs, rfl, hs, hl⟩ := encA_tup q2
    cases e : sub kk kk with
    | none =>
      rw [e] at h
      exact h.elim
    | some b0 =>
      cases e2 : subAny sub kk cs with
      | none =>
        rw [e, e2] at h
        exact h.elim
      | some b =>
        rw [e, e2] at h
        obtain ⟨ws, h1, h2⟩ := subAny_ok T kk hl e2
        exact call_isXT pins s σ z.H _ us Q I r ⟨a, _, p, dd, vs, ws, b, rfl, ha, hd, T.exc _ _ _ e, hs, h1, h2, out_bl k h⟩
  · rename_i kk ll
    obtain ⟨v, w, rfl, q1, q2⟩ := encAs2 qa
    obtain ⟨a, dd, rfl, ha, hd⟩ := encA_exc q1
    cases e : sub kk kk with
    | none =>
      rw [e] at h
      exact h.elim
    | some b0 =>
      rw [e] at h
      have ew : w = .ty "ValueError" := by
        cases q2 with
        | of q2 =>
          cases q2
          rfl
      subst ew
      exact call_isX pins s σ z.H _ us Q I r ⟨a, _, dd, _, _, true, rfl, ha, hd, T.exc _ _ _ e, .ty _, T.ve _ _ _ e, out_bl k h⟩
  · exact old h
end
/-! ### facts of the written part -/
/-- a class of the text in the written part -/
structure XcK (K : PySem.W.Frag) (C : Addr) (cd : ClassData) : Prop where
  cl : PySem.W.clsIn K C = some cd
  ty : PySem.W.typeIn K (.ref C) = some (.type "type")
theorem sub_in {K : PySem.W.Frag} {C : Addr} {cd : ClassData} (h : PySem.W.clsIn K C = some cd) (n : cd.mro.isEmpty = false) (u : Value) : PySem.W.subIn K (.ref C) u = some (cd.mro.contains u) := by
  show PySem.W.mroIn K C u = _
  unfold PySem.W.mroIn
  rw [h, Option.bind_some, if_neg (by rw [n]; exact Bool.false_ne_true)]
/-- rows of the table: the classes' places and what their class objects tell -/
theorem sub_of {K : PySem.W.Frag} {M : Lm} {sub : Nat → Nat → Option Bool} {cds : Nat → ClassData} (hc : ∀ k j b, sub k j = some b → PySem.W.clsIn K (M.cls k) = some (cds k) ∧ (cds k).mro.isEmpty = false ∧ ExcC K (M.cls k) ∧ (cds k).mro.contains (.type "ValueError") = true ∧ (cds k).mro.contains (.ref (M.cls k)) = true)
    (hj : ∀ k j b, sub k j = some b → PySem.W.clsIn K (M.cls j) = some (cds j) ∧ PySem.W.typeIn K (.ref (M.cls j)) = some (.type "type") ∧ (cds j).mro.isEmpty = false ∧ (cds j).mro.contains (.type "BaseException") = true ∧ (cds k).mro.contains (.ref (M.cls j)) = b) : SubOk K M sub := by
  have cls : ∀ k j b, sub k j = some b → PySem.W.kitCls K (.ref (M.cls k)) (.ref (M.cls j)) = some b := fun k j b e => by
    obtain ⟨a1, a2, _⟩ := hc k j b e
    obtain ⟨b1, b2, b3, b4, b5⟩ := hj k j b e
    show (if ((PySem.W.clsIn K (M.cls j)).isSome && PySem.W.typeIn K (.ref (M.cls j)) == some (.type "type")) = true then PySem.W.subIn K (.ref (M.cls k)) (.ref (M.cls j)) else none) = some b
    rw [if_pos (by rw [b1, b2]; rfl), sub_in a1 a2, b5]
  refine ⟨fun k j b e => ?_, fun k j b e => ?_, fun k j b e => (hc k j b e).2.2.1, fun k j b e => ?_⟩
  · unfold PySem.W.kitOne
    by_cases q : (Value.ref (M.cls k) == Value.ref (M.cls j)) = true
    · rw [if_pos q]
      obtain ⟨a1, a2, a3, a4, a5⟩ := hc k j b e
      have b5 := (hj k j b e).2.2.2.2
      have ekj : Value.ref (M.cls k) = Value.ref (M.cls j) := by simpa using q
      rw [← ekj, a5] at b5
      rw [b5]
    · rw [if_neg q]
      exact cls k j b e
  · obtain ⟨b1, b2, b3, b4, b5⟩ := hj k j b e
    unfold PySem.W.exmOne
    rw [sub_in b1 b3, b4, if_pos (by rfl)]
    exact cls k j b e
  · obtain ⟨a1, a2, a3, a4, a5⟩ := hc k j b e
    unfold PySem.W.kitOne
    rw [if_neg (by simp)]
    unfold PySem.W.kitCls
    dsimp only
    rw [if_pos (by decide +kernel), sub_in a1 a2, a4]
end Sm
/-! Sm25: what the built-in names stand for, each once. -/
namespace Sm
open PySem PySem.Spec PyProof.Rows L2
theorem bb_len : bootBuiltins "len" = some (.builtin "len") := by decide +kernel
theorem bb_abs : bootBuiltins "abs" = some (.builtin "abs") := by decide +kernel
theorem bb_all : bootBuiltins "all" = some (.builtin "all") := by decide +kernel
theorem bb_any : bootBuiltins "any" = some (.builtin "any") := by decide +kernel
theorem bb_sum : bootBuiltins "sum" = some (.builtin "sum") := by decide +kernel
theorem bb_repr : bootBuiltins "repr" = some (.builtin "repr") := by decide +kernel
theorem bb_isinstance : bootBuiltins "isinstance" = some (.builtin "isinstance") := by decide +kernel
theorem bb_max : bootBuiltins "max" = some (.builtin "max") := by decide +kernel
theorem bb_min : bootBuiltins "min" = some (.builtin "min") := by decide +kernel
theorem bb_sorted : bootBuiltins "sorted" = some (.builtin "sorted") := by decide +kernel
theorem bb_int : bootBuiltins "int" = some (.type "int") := by decide +kernel
theorem bb_str : bootBuiltins "str" = some (.type "str") := by decide +kernel
theorem bb_list : bootBuiltins "list" = some (.type "list") := by decide +kernel
theorem bb_tuple : bootBuiltins "tuple" = some (.type "tuple") := by decide +kernel
theorem bb_bool : bootBuiltins "bool" = some (.type "bool") := by decide +kernel
theorem bb_dict : bootBuiltins "dict" = some (.type "dict") := by decide +kernel
theorem bb_ValueError : bootBuiltins "ValueError" = some (.type "ValueError") := by decide +kernel
end Sm
/-! Sm26: the table of the text's classes, from facts of the written part. -/
namespace Sm
open PySem PySem.Spec PyProof.Rows L2
def Mof (Cs : List Addr) (T : List (Addr × Str)) (A : Bool := false) : Lm := { cls := fun k => Cs.getD k 0, fld := fun _ => [], tabs := T, arr := A }
def subBy (tab : List (Nat × List Bool)) (k j : Nat) : Option Bool := (tab.lookup k).bind fun r => r[j]?
structure ClK (K : PySem.W.Frag) (C : Addr) : Prop where
  ex : ∃ cd, PySem.W.clsIn K C = some cd ∧ PySem.W.typeIn K (.ref C) = some (.type "type") ∧ cd.mro.isEmpty = false ∧ cd.mro.contains (.type "BaseException") = true
structure RowK (K : PySem.W.Frag) (Cs : List Addr) (k : Nat) (row : List Bool) : Prop where
  ex : ∃ C cd, Cs[k]? = some C ∧ PySem.W.clsIn K C = some cd ∧ cd.mro.isEmpty = false ∧ ExcC K C ∧ cd.mro.contains (.type "ValueError") = true ∧ cd.mro.contains (.ref C) = true ∧ Cs.map (fun D => cd.mro.contains (.ref D)) = row
theorem mof_at {Cs : List Addr} {T : List (Addr × Str)} {A : Bool} {k : Nat} {C : Addr} (h : Cs[k]? = some C) : (Mof Cs T A).cls k = C := by
  show Cs.getD k 0 = C
  rw [List.getD_eq_getElem?_getD, h]
  rfl
theorem lookup_mem {tab : List (Nat × List Bool)} {k : Nat} {r : List Bool} (h : tab.lookup k = some r) : (k, r) ∈ tab := by
  induction tab with
  | nil => cases h
  | cons p t ih =>
    obtain ⟨a, b⟩ := p
    by_cases c : (k == a) = true
    · rw [List.lookup_cons, c] at h
      have e : k = a := by simpa using c
      cases h
      rw [e]
      exact List.mem_cons_self ..
    · rw [List.lookup_cons, Bool.eq_false_iff.mpr c] at h
      exact List.mem_cons_of_mem _ (ih h)
theorem sub_mk {K : PySem.W.Frag} {Cs : List Addr} {T : List (Addr × Str)} {A : Bool} {tab : List (Nat × List Bool)} (hall : ∀ C ∈ Cs, ClK K C) (hrows : ∀ p ∈ tab, RowK K Cs p.1 p.2) : SubOk K (Mof Cs T A) (subBy tab) := by
  have row : ∀ k j b, subBy tab k j = some b → ∃ r, RowK K Cs k r ∧ r[j]? = some b := fun k j b e => by
    unfold subBy at e
    cases q : tab.lookup k with
    | none =>
      rw [q] at e
      cases e
    | some r =>
      rw [q] at e
      exact ⟨r, hrows _ (lookup_mem q), e⟩
  refine sub_of (cds := fun k => ((PySem.W.clsIn K ((Mof Cs T A).cls k)).getD default)) (fun k j b e => ?_) fun k j b e => ?_
  · obtain ⟨r, ⟨C, cd, h1, h2, h3, h4, h5, h6, h7⟩, _⟩ := row k j b e
    rw [mof_at (T := T) h1, h2]
    exact ⟨rfl, h3, h4, h5, h6⟩
  · obtain ⟨r, ⟨C, cd, h1, h2, h3, h4, h5, h6, h7⟩, hj⟩ := row k j b e
    rw [← h7, List.getElem?_map] at hj
    cases q : Cs[j]? with
    | none =>
      rw [q] at hj
      cases hj
    | some D =>
      rw [q] at hj
      obtain ⟨cj, a1, a2, a3, a4⟩ := (hall D (List.mem_of_getElem? q)).ex
      rw [mof_at (T := T) q, mof_at (T := T) h1, a1, h2]
      exact ⟨rfl, a2, a3, a4, Option.some.inj hj⟩
theorem all_cl {K : PySem.W.Frag} {C : Addr} {Cs : List Addr} (h : ClK K C) (t : ∀ D ∈ Cs, ClK K D) : ∀ D ∈ C :: Cs, ClK K D := fun D hD => by
  rcases List.mem_cons.mp hD with e | e
  · rw [e]
    exact h
  · exact t D e
theorem all_cl0 {K : PySem.W.Frag} : ∀ D ∈ ([] : List Addr), ClK K D := fun _ h => by cases h
theorem all_row {K : PySem.W.Frag} {Cs : List Addr} {k : Nat} {r : List Bool} {tab : List (Nat × List Bool)} (h : RowK K Cs k r) (t : ∀ p ∈ tab, RowK K Cs p.1 p.2) : ∀ p ∈ (k, r) :: tab, RowK K Cs p.1 p.2 := fun p hp => by
  rcases List.mem_cons.mp hp with e | e
  · rw [e]
    exact h
  · exact t p e
theorem all_row0 {K : PySem.W.Frag} {Cs : List Addr} : ∀ p ∈ ([] : List (Nat × List Bool)), RowK K Cs p.1 p.2 := fun _ h => by cases h
end Sm
/-! Sm27: steps for exceptions, unrolled lists, great numbers. -/
namespace Sm
open PySem PySem.Spec PyProof.Rows L2
section
variable {α β : Type} {S S1 : Sto} {P : α → Sto → Prop} {E : D → Sto → Prop} {N B C : Env → Sto → Prop} {T : D → Sto → Prop} {X : D → Env → Sto → Prop} {env : Env} {R : D → Sto → Prop}
theorem o_raise {k : Nat} (h : X (.exc k []) env S) : OKS (raiseF k env S) N B C T X := h
def Caught (isA : Nat → Option Bool) (e : D) (yes no : Prop) : Prop := match e with
  | .exc k _ => (match isA k with
    | some true => yes
    | some false => no
    | none => False)
  | _ => False
theorem o_try {isA : Nat → Option Bool} {i j : Nat} {f : Env → Sto → SR} (h : OKS (f env S) N B C T fun e env1 S1 => Caught isA e (N ((env1.set j (some e)).set i none) S1) (X e env1 S1)) : OKS (tryF isA i j f env S) N B C T X := by
  unfold tryF
  cases r : f env S with
  | ex e env1 S1 =>
    rw [r] at h
    cases e with
    | exc k l =>
      have h' : (match isA k with
        | some true => N ((env1.set j (some (D.exc k l))).set i none) S1
        | some false => X (D.exc k l) env1 S1
        | none => False) := h
      show OKS (match isA k with
        | some true => .nx ((env1.set j (some (.exc k l))).set i none) S1
        | some false => .ex (.exc k l) env1 S1
        | none => .bad) N B C T X
      cases q : isA k with
      | none =>
        rw [q] at h'
        exact h'.elim
      | some b =>
        rw [q] at h'
        cases b with
        | true => exact h'
        | false => exact h'
    | _ => exact h.elim
  | nx e S => rw [r] at h; exact h
  | rt e S => rw [r] at h; exact h
  | bk e S => rw [r] at h; exact h
  | ct e S => rw [r] at h; exact h
  | bad => rw [r] at h; exact h
theorem caught_yes {isA : Nat → Option Bool} {k : Nat} {l : List D} {yes no : Prop} (e : isA k = some true) (h : yes) : Caught isA (.exc k l) yes no := by
  show (match isA k with
    | some true => yes
    | some false => no
    | none => False)
  rw [e]
  exact h
theorem e_isX {sub : Nat → Nat → Option Bool} {as : List D} {v : D} (e : isiX sub as S = .ok v S) (h : R v S) : OKR (isiX sub as S) R E := OKR.of_eq e h
theorem o_isXT {sub : Nat → Nat → Option Bool} {d : D} {t : Option Ty} {u : Ty} (e : tyOf d S = some t) (hx : ∀ k l, d ≠ .exc k l) (h : R (.bl (tyIs t u)) S) : OKR (isiX sub [d, .ty u] S) R E := by
  have q : isiX sub [d, .ty u] S = isiM [d, .ty u] S := by
    unfold isiX
    split <;> first
      | rfl
      | (rename_i k _ e; exact absurd (List.cons.inj e).1 (hx _ _))
      | (rename_i k e; exact absurd (List.cons.inj e).1 (hx _ _))
  rw [q]
  exact o_isiT e h
/-! a written list's turns, one by one -/
theorem o_lcN {t : Tgt} {c : Env → Sto → Res Bool} {e : Env → Sto → Res D} {o : Option Ob} {Q : List D → Sto → Prop} (h : Q [] S) : OKR (lcL t c e none o env [] S) Q E := by
  unfold lcL
  exact h
theorem o_lcC {t : Tgt} {c : Env → Sto → Res Bool} {e : Env → Sto → Res D} {o : Option Ob} {d : D} {r : List D} {Q : List D → Sto → Prop} (h : ∃ env1, t.put d env = some env1 ∧ OKR (c env1 S) (fun b S1 => Br b (OKR (e env1 S1) (fun v S2 => OKR (frz1 v S2) (fun w S3 => OKR (lcL t c e none o env r S3) (fun l S4 => Q (w :: l) S4) E) fun _ _ => False) fun _ _ => False) (OKR (lcL t c e none o env r S1) Q E)) fun _ _ => False) :
    OKR (lcL t c e none o env (d :: r) S) Q E := by
  obtain ⟨env1, h1, h2⟩ := h
  unfold lcL
  simp only [h1]
  cases q1 : c env1 S with
  | ex d S1 =>
    rw [q1] at h2
    exact h2.elim
  | bad =>
    rw [q1] at h2
    exact h2.elim
  | ok b S1 =>
    rw [q1] at h2
    cases b with
    | false => exact h2.2 rfl
    | true =>
      have h3 := h2.1 rfl
      dsimp only
      cases q2 : e env1 S1 with
      | ex d S1 =>
        rw [q2] at h3
        exact h3.elim
      | bad =>
        rw [q2] at h3
        exact h3.elim
      | ok v S2 =>
        rw [q2] at h3
        dsimp only
        have h4 : OKR (frz1 v S2) (fun w S3 => OKR (lcL t c e none o env r S3) (fun l S4 => Q (w :: l) S4) E) fun _ _ => False := h3
        cases q3 : frz1 v S2 with
        | ex d S1 =>
          rw [q3] at h4
          exact h4.elim
        | bad =>
          rw [q3] at h4
          exact h4.elim
        | ok w S3 =>
          rw [q3] at h4
          exact o_bind (OKR.mono (show OKR (lcL t c e none o env r S3) (fun l S4 => Q (w :: l) S4) E from h4) (fun _ _ q => q) fun _ _ q => q)
theorem o_forN {t : Tgt} {b : Env → Sto → SR} {o : Option Ob} (h : N env S) : OKS (forL t b none o [] env S) N B C T X := by
  unfold forL
  exact h
theorem o_forC {t : Tgt} {b : Env → Sto → SR} {o : Option Ob} {d : D} {r : List D} (h : ∃ env1, t.put d env = some env1 ∧ OKS (b env1 S) (fun e S1 => OKS (forL t b none o r e S1) N B C T X) N (fun e S1 => OKS (forL t b none o r e S1) N B C T X) T X) : OKS (forL t b none o (d :: r) env S) N B C T X := by
  obtain ⟨env1, h1, h2⟩ := h
  unfold forL
  simp only [h1]
  cases q : b env1 S with
  | nx e S1 => rw [q] at h2; exact h2
  | rt e S1 => rw [q] at h2; exact h2
  | bk e S1 => rw [q] at h2; exact h2
  | ct e S1 => rw [q] at h2; exact h2
  | ex d e S1 => rw [q] at h2; exact h2
  | bad => rw [q] at h2; exact h2
end
/-! great numbers -/
theorem nb_mul {i j : Int} {a b : Nat} (ha : i.natAbs < 10 ^ a) (hb : j.natAbs < 10 ^ b) : (i * j).natAbs < 10 ^ (a + b) := by
  rw [Int.natAbs_mul, Nat.pow_add]
  exact Nat.mul_lt_mul'' ha hb
theorem nb_add {i j : Int} {a : Nat} (ha : i.natAbs < 10 ^ a) (hb : j.natAbs < 10 ^ a) : (i + j).natAbs < 10 ^ (a + 1) := by
  have h := Int.natAbs_add_le i j
  rw [Nat.pow_succ]
  omega
theorem nb_sub {i j : Int} {a : Nat} (ha : i.natAbs < 10 ^ a) (hb : j.natAbs < 10 ^ a) : (i - j).natAbs < 10 ^ (a + 1) := by
  have h := Int.natAbs_sub_le i j
  rw [Nat.pow_succ]
  omega
theorem nb_le {i : Int} {a b : Nat} (ha : i.natAbs < 10 ^ a) (h : a ≤ b) : i.natAbs < 10 ^ b := Nat.lt_of_lt_of_le ha (Nat.pow_le_pow_right (n := 10) (by decide) h)
theorem ten_two (a : Nat) : 10 ^ a ≤ 2 ^ (4 * a) := by
  rw [Nat.pow_mul]
  exact Nat.pow_le_pow_left (by decide) a
theorem cMulT {i j : Int} (a b : Nat) (ha : i.natAbs < 10 ^ a) (hb : j.natAbs < 10 ^ b) (h : 4 * a + 4 * b < 100000000) : cMul i j = true :=
  cMul_of (Nat.lt_of_lt_of_le ha (ten_two a)) (Nat.lt_of_lt_of_le hb (ten_two b)) h
theorem cDivT {i j : Int} (a : Nat) (h0 : j ≠ 0) (ha : j.natAbs < 10 ^ a) (h : 4 * a < 9000) : cDiv i j = true := cDiv_of h0 (Nat.lt_of_lt_of_le ha (ten_two a)) h
section
variable {S : Sto} {E : D → Sto → Prop} {R : D → Sto → Prop}
theorem take_all : S.take S.length = S := List.take_of_length_le (Nat.le_refl _)
theorem o_finS {d : D} (e : nr d = true) (h : R d S) : OKR (if true = true then fin S.length d S else .ok d S) R E := o_fin e (by
  rw [take_all]
  exact h)
theorem o_abs {i : Int} (h : R (.int i.natAbs) S) : OKR (absM [.int i] S) R E := by
  have e : (if i < 0 then -i else i) = (i.natAbs : Int) := by
    split <;> omega
  show R (.int (if i < 0 then -i else i)) S
  rw [e]
  exact h
theorem nat_fmod (x y : Nat) : (x : Int).fmod (y : Int) = ((x % y : Nat) : Int) := by
  rw [Int.fmod_eq_emod_of_nonneg _ (Int.natCast_nonneg _)]
  rfl
theorem fuel_ok {k : Nat} (h : k < 10 ^ 3990) : k < FUEL := by
  unfold FUEL
  exact Nat.lt_of_lt_of_le h (Nat.pow_le_pow_right (n := 10) (i := 3990) (j := 4000) (show 0 < 10 by decide) (show 3990 ≤ 4000 by decide))
theorem o_addL {a b : List D} (h : a.length + b.length ≤ LINE) (hq : R (.lst (a ++ b)) S) : OKR (addD (.lst a) (.lst b) S) R E := by
  show OKR (if a.length + b.length ≤ LINE then Res.ok (D.lst (a ++ b)) S else .bad) R E
  rw [if_pos h]
  exact hq
end
theorem rangeL_mem : ∀ (k : Nat) (lo : Int), ∀ d ∈ rangeL lo k, ∃ i, d = .int i ∧ lo ≤ i ∧ i < lo + k
  | 0, _, d, h => by cases h
  | k + 1, lo, d, h => by
    rcases List.mem_cons.mp h with rfl | h
    · exact ⟨_, rfl, by omega, by omega⟩
    · obtain ⟨i, h1, h2, h3⟩ := rangeL_mem k (lo + 1) d h
      exact ⟨i, h1, by omega, by omega⟩
theorem res_true {r : Res D} (q : ∃ v S, r = .ok v S ∧ v = .bl true) : ∃ S', r = .ok (.bl true) S' := q.elim fun v hv => hv.elim fun S' q => ⟨S', q.2 ▸ q.1⟩
end Sm
/-! Sm28: written dicts: displays with text keys; dicts of the module. -/
namespace Sm
open PySem PySem.Spec PyProof.Rows L2
/-! ### {'a': x, 'b': y} -/
def evalFs : List (Env → Sto → Res D) → Env → Sto → Option (List D × Sto)
  | [], _, S => some ([], S)
  | f :: fs, env, S => match f env S with
    | .ok d S1 => (evalFs fs env S1).map fun p => (d :: p.1, p.2)
    | _ => none
def zipP : List (List Nat) → List D → List (D × D)
  | s :: ss, d :: ds => (.str s, d) :: zipP ss ds
  | _, _ => []
def dispR (ss : List (List Nat)) (fs : List (Env → Sto → Res D)) : Env → Sto → Res (List (D × D)) := fun env S => match evalFs fs env S with
  | none => .bad
  | some p => (frzL p.1 p.2).bind fun l S2 => if ss.Nodup ∧ ss.length ≤ 15 ∧ ss.length = fs.length ∧ l.length = ss.length ∧ ss ≠ [] then .ok (zipP ss l) S2 else .bad
def dispO (ss : List (List Nat)) (fs : List (Env → Sto → Res D)) : Env → Sto → Res D := fun env S => (dispR ss fs env S).bind fun l S1 => .ok (.ref S1.length) (S1 ++ [.dic false l])
def dispF (ss : List (List Nat)) (fs : List (Env → Sto → Res D)) : Env → Sto → Res D := fun env S => (dispR ss fs env S).bind fun l S1 => .ok (.dic l) S1
section
variable {X : Cx} {M : Lm} {W : WX} {K : PySem.W.Frag}
inductive SDs (X : Cx) (M : Lm) : List (Option Expr) → List Expr → List (List Nat) → List (Env → Sto → Res D) → Prop
  | nil : SDs X M [] [] [] []
  | cons {x : Str} {j : Nat} {p : Pos} {v : Expr} {ks : List (Option Expr)} {vs : List Expr} {s : List Nat} {f : Env → Sto → Res D} {ss : List (List Nat)} {fs : List (Env → Sto → Res D)} (e : x = toS s) (h : SE X M W0 v f) (t : SDs X M ks vs ss fs) :
      SDs X M (some (.Constant (.str x) j p) :: ks) (v :: vs) (s :: ss) (f :: fs)
theorem sd_cons (s : List Nat) {x : Str} {j : Nat} {p : Pos} {v : Expr} {ks : List (Option Expr)} {vs : List Expr} {f : Env → Sto → Res D} {ss : List (List Nat)} {fs : List (Env → Sto → Res D)} (h : SE X M W0 v f) (t : SDs X M ks vs ss fs) (e : x = toS s := by decide +kernel) :
    SDs X M (some (.Constant (.str x) j p) :: ks) (v :: vs) (s :: ss) (f :: fs) := .cons e h t
def trsOf (K : PySem.W.Frag) (M : Lm) : List (List Nat) → List (Env → Sto → Res D) → List (TE × TE)
  | s :: ss, f :: fs => (tC (.str (toS s)), tE K M W0 f) :: trsOf K M ss fs
  | _, _ => []
theorem sds_pps {pos : Pos} {ks : List (Option Expr)} {vs : List Expr} {ss : List (List Nat)} {fs : List (Env → Sto → Res D)} (h : SDs X M ks vs ss fs) : PPs X pos ks vs (trsOf X.K M ss fs) := by
  induction h with
  | nil => exact pps_nil
  | cons e h t ih =>
    subst e
    exact pps_cons pe_str h ih
theorem sds_len {ks : List (Option Expr)} {vs : List Expr} {ss : List (List Nat)} {fs : List (Env → Sto → Res D)} (h : SDs X M ks vs ss fs) : ks.length = ss.length ∧ vs.length = ss.length ∧ ks.all (·.isSome) = true := by
  induction h with
  | nil => exact ⟨rfl, rfl, rfl⟩
  | cons e h t ih =>
    refine ⟨?_, ?_, ?_⟩
    · rw [List.length_cons, List.length_cons, ih.1]
    · rw [List.length_cons, List.length_cons, ih.2.1]
    · rw [List.all_cons, ih.2.2]
      rfl
def zipV : List (List Nat) → List V → List (V × V)
  | s :: ss, v :: vs => (.str (toS s), v) :: zipV ss vs
  | _, _ => []
def zipK : List (List Nat) → List V → List (Key × V)
  | s :: ss, v :: vs => (.inr (toS s), v) :: zipK ss vs
  | _, _ => []
theorem zipV_K : ∀ (ss : List (List Nat)) (vs : List V), zipV ss vs = (zipK ss vs).map fun kv => (kV kv.1, kv.2)
  | [], _ => by cases ‹List V› <;> rfl
  | _ :: _, [] => rfl
  | s :: ss, v :: vs => by
    show _ :: _ = _ :: _
    rw [zipV_K ss vs]
    rfl
theorem zipK_len : ∀ (ss : List (List Nat)) (vs : List V), (zipK ss vs).length ≤ ss.length
  | [], vs => by cases vs <;> exact Nat.zero_le _
  | _ :: _, [] => Nat.zero_le _
  | s :: ss, v :: vs => Nat.succ_le_succ (zipK_len ss vs)
theorem zipP_enc {H : Hp} {ow : Addr → Prop} : ∀ {ss : List (List Nat)} {l : List D} {vs : List V}, EncL K M H ow l vs → EncP K M H ow (zipP ss l) (zipK ss vs)
  | [], l, vs, h => by
    cases h <;> exact .nil
  | s :: ss, [], _, .nil => .nil
  | s :: ss, d :: l, _, .cons h t => .cons rfl h (zipP_enc t)
theorem zipK_mem {q : List Nat} {v : V} : ∀ {ss : List (List Nat)} {vs : List V}, ((.inr (toS q) : Key), v) ∈ zipK ss vs → q ∈ ss
  | [], vs, h => by cases vs <;> cases h
  | _ :: _, [], h => by cases h
  | s :: ss, w :: vs, h => by
    rcases List.mem_cons.mp h with e | h
    · injection e with e _
      injection e with e
      have e2 : q = s := by
        have := congrArg (fun z : Str => z.cps.toList) e
        exact this
      rw [e2]
      exact List.mem_cons_self ..
    · exact List.mem_cons_of_mem _ (zipK_mem h)
theorem merge_nd : ∀ (ss : List (List Nat)) (vs : List V) (acc : List (Key × V)), ss.Nodup → (∀ kv ∈ acc, ∀ s ∈ ss, kv.1 ≠ .inr (toS s)) → mergeK acc (zipK ss vs) = acc ++ zipK ss vs
  | [], vs, acc, _, _ => by
    cases vs <;> exact (List.append_nil _).symm
  | _ :: _, [], acc, _, _ => (List.append_nil _).symm
  | s :: ss, v :: vs, acc, nd, hn => by
    show mergeK (putK acc (.inr (toS s)) v) (zipK ss vs) = acc ++ (_ :: zipK ss vs)
    have e : putK acc (.inr (toS s)) v = acc ++ [(.inr (toS s), v)] := by
      unfold putK
      rw [if_neg]
      intro q
      obtain ⟨kv, h1, h2⟩ := List.any_eq_true.mp q
      exact hn kv h1 s (List.mem_cons_self ..) (of_decide_eq_true h2)
    rw [e, merge_nd ss vs _ (List.nodup_cons.mp nd).2, List.append_assoc]
    · rfl
    · intro kv hk s2 hs2 q
      rcases List.mem_append.mp hk with hk | hk
      · exact hn kv hk s2 (List.mem_cons_of_mem _ hs2) q
      · have hk := List.mem_singleton.mp hk
        subst hk
        injection q with q
        have e2 : s = s2 := congrArg (fun z : Str => z.cps.toList) q
        exact (List.nodup_cons.mp nd).1 (e2 ▸ hs2)
theorem pairs_ok {p : Addr} {z : Sg} {env : Env} {σ : L2.St} : ∀ (ss : List (List Nat)) (fs : List (Env → Sto → Res D)) (zc : Sg) (ds : List D) (S' : Sto) (Q' : List (V × V) → Hp → Prop), SOk K M zc → GX p z zc → EnvOk K M zc env σ → ss.length = fs.length → evalFs fs env zc.S = some (ds, S') →
    (∀ z' vs, z'.S = S' → SOk K M z' → Ext zc z' → EncAs K M z' ds vs → Q' (zipV ss vs) z'.H) → tPairs (trsOf K M ss fs) σ zc.H Q'
  | [], [], zc, ds, S', Q', kc, gx, v, _, e, h => by
    cases e
    exact h zc [] rfl kc (Ext.refl _) .nil
  | [], _ :: _, _, _, _, _, _, _, _, e, _, _ => by cases e
  | _ :: _, [], _, _, _, _, _, _, _, e, _, _ => by cases e
  | s :: ss, f :: fs, zc, ds, S', Q', kc, gx, v, hl, e, h => by
    unfold evalFs at e
    cases r : f env zc.S with
    | ex a S =>
      rw [r] at e
      cases e
    | bad =>
      rw [r] at e
      cases e
    | ok d S1 =>
      rw [r] at e
      dsimp only at e
      cases r2 : evalFs fs env S1 with
      | none =>
        rw [r2] at e
        cases e
      | some pr =>
        rw [r2] at e
        cases e
        show tE K M W0 f σ zc.H fun y H2 => tPairs (trsOf K M ss fs) σ H2 fun ps H3 => Q' ((.str (toS s), y) :: ps) H3
        refine ⟨env, zc, rfl, kc, v, ?_⟩
        rw [r]
        intro z1 y e1 x1 k1 q1
        subst e1
        refine pairs_ok ss fs z1 pr.1 pr.2 _ k1 (gx.step x1) (v.ext x1) (Nat.succ.inj hl) r2 fun z' vs e2 k2 x2 q2 => ?_
        exact h z' (y :: vs) e2 k2 (x1.trans x2) (.cons (q1.ext x2) q2)
theorem tdisp_of {ss : List (List Nat)} {fs : List (Env → Sto → Res D)} {fin : List (D × D) → Sto → Res D} {σ : L2.St} {H : Hp} {Q : VK}
    (hfin : ∀ (p : Addr) (z zc : Sg) (l : List (D × D)) (kvs : List (Key × V)), z.H p = none → SOk K M z → SOk K M zc → GX p z zc → zc.H p = some (.dK kvs) → EncP K M zc.H zc.ow l kvs → Out K M (EncA K M) W σ z Q (fin l zc.S) → Q (.ref p) zc.H)
    (h : tE K M W (fun env S => (dispR ss fs env S).bind fin) σ H Q) : tDisp (trsOf K M ss fs) σ H Q := by
  obtain ⟨env, z, rfl, k, v, h⟩ := h
  intro p np
  dsimp only at h
  unfold dispR at h
  cases r : evalFs fs env z.S with
  | none =>
    rw [r] at h
    exact h.elim
  | some pr =>
    rw [r] at h
    dsimp only at h
    cases r2 : frzL pr.1 pr.2 with
    | ex a S => exact absurd r2 frzL_nex
    | bad =>
      rw [r2] at h
      exact h.elim
    | ok l S2 =>
      rw [r2] at h
      have h : Out K M (EncA K M) W σ z Q ((if ss.Nodup ∧ ss.length ≤ 15 ∧ ss.length = fs.length ∧ l.length = ss.length ∧ ss ≠ [] then Res.ok (zipP ss l) S2 else .bad).bind fin) := h
      by_cases c : ss.Nodup ∧ ss.length ≤ 15 ∧ ss.length = fs.length ∧ l.length = ss.length ∧ ss ≠ []
      rotate_left
      · rw [if_neg c] at h
        exact h.elim
      rw [if_pos c] at h
      obtain ⟨nd, c15, cl, _, _⟩ := c
      have k0 := sok_mk1 (p := p) (o := .dK []) (.inr ⟨_, rfl⟩) np k
      have g0 := gx_start (p := p) (o := .dK []) np k
      refine pairs_ok ss fs (z.mk1 p (.dK [])) pr.1 pr.2 _ k0 g0 (v.mvR g0.mv g0.wk.pre g0.wk.grow) cl r fun z1 vs e1 k1 x1 q1 => ?_
      have g1 := g0.step x1
      subst_vars
      rw [← e1] at r2
      obtain ⟨z2, eH, eS, x2, k2, q2⟩ := frzL_ok k1 q1 r2
      have g2 := g1.step x2
      have hp1 : z1.H p = some (.dK []) := (x1.gk p (List.mem_cons_self ..)).trans upd_same
      refine ⟨hp1, zipK ss vs, zipV_K ss vs, Nat.le_trans (zipK_len ss vs) c15, ?_⟩
      rw [merge_nd ss vs [] nd (fun _ hk => by cases hk), List.nil_append, ← eH]
      have hpG : p ∈ z2.G := by
        rw [g2.gh]
        exact List.mem_cons_self ..
      have ek : EncL K M (z2.wr1 p (.dK (zipK ss vs))).H (z2.wr1 p (.dK (zipK ss vs))).ow l vs := q2.mv (mv_wr1 hpG k2)
      refine hfin p z (z2.wr1 p (.dK (zipK ss vs))) (zipP ss l) (zipK ss vs) np k (sok_wr1 (.inr ⟨_, rfl⟩) hpG k2) (g2.wr np k k2) upd_same (zipP_enc ek) ?_
      show Out K M (EncA K M) W σ z Q (fin (zipP ss l) z2.S)
      rw [eS]
      exact h
theorem fin_dicO {Q : VK} {σ : L2.St} (p : Addr) (z zc : Sg) (l : List (D × D)) (kvs : List (Key × V)) (np : z.H p = none) (k : SOk K M z) (kc : SOk K M zc) (gx : GX p z zc) (hp : zc.H p = some (.dK kvs)) (hl : EncP K M zc.H zc.ow l kvs) (h : Out K M (EncA K M) W σ z Q (Res.ok (.ref zc.S.length) (zc.S ++ [.dic false l]))) : Q (.ref p) zc.H := by
  obtain ⟨x, k2, e2⟩ := gx.own np k kc (b := .dic false l) ⟨kvs, hp, hl⟩
  exact h { H := zc.H, S := zc.S ++ [.dic false l], R := zc.R ++ [p], G := z.G } (.ref p) rfl x k2 e2
theorem fin_dic {Q : VK} {σ : L2.St} (p : Addr) (z zc : Sg) (l : List (D × D)) (kvs : List (Key × V)) (np : z.H p = none) (k : SOk K M z) (kc : SOk K M zc) (gx : GX p z zc) (hp : zc.H p = some (.dK kvs)) (hl : EncP K M zc.H zc.ow l kvs) (h : Out K M (EncA K M) W σ z Q (Res.ok (.dic l) zc.S)) : Q (.ref p) zc.H :=
  h (zc.done z.G) (.ref p) rfl gx.ext (gx.sok kc) (.of (.dic hp (gx.now np k kc) (hl.mv gx.less)))
theorem s_dispO {keys : List (Option Expr)} {values : List Expr} {pos : Pos} {ss : List (List Nat)} {fs : List (Env → Sto → Res D)} (h : SDs X M keys values ss fs) (h0 : keys ≠ [] := by exact fun z => nomatch z) (h15 : keys.length ≤ 15 := by decide) : SE X M W (.Dict keys values pos) (dispO ss fs) :=
  pe_imp (pe_disp (sds_pps h) (sds_len h).2.2 ((sds_len h).1.trans (sds_len h).2.1.symm) h0 h15) fun _ _ _ q => tdisp_of fin_dicO q
theorem s_dispF {keys : List (Option Expr)} {values : List Expr} {pos : Pos} {ss : List (List Nat)} {fs : List (Env → Sto → Res D)} (h : SDs X M keys values ss fs) (h0 : keys ≠ [] := by exact fun z => nomatch z) (h15 : keys.length ≤ 15 := by decide) : SE X M W (.Dict keys values pos) (dispF ss fs) :=
  pe_imp (pe_disp (sds_pps h) (sds_len h).2.2 ((sds_len h).1.trans (sds_len h).2.1.symm) h0 h15) fun _ _ _ q => tdisp_of fin_dic q
end
end Sm
/-! Sm29: dicts of the module, their keys texts. -/
namespace Sm
open PySem PySem.Spec PyProof.Rows L2
def lookM : List (List Nat × D) → List Nat → Option D
  | [], _ => none
  | (k, d) :: l, s => if s = k then some d else lookM l s
/-- the entries of the written dict are those of l -/
inductive KdE (K : PySem.W.Frag) : List DictEntry → List (List Nat × D) → Prop
  | nil : KdE K [] []
  | cons {e : DictEntry} {es : List DictEntry} {s : List Nat} {d : D} {l : List (List Nat × D)} (hk : e.key.isStr (toS s) = true) (hv : kcB K d e.val = true) (t : KdE K es l) : KdE K (e :: es) ((s, d) :: l)
structure Kdc (K : PySem.W.Frag) (w : World) (mg : Str → Option Value) (x : Str) (l : List (List Nat × D)) : Prop where
  ex : ∃ (a : Addr) (es : Array DictEntry) (n : Nat), mg x = some (.ref a) ∧ KDict K w a es n ∧ KdE K es.toList l
theorem isStr_toS {v : Value} {s t : List Nat} (h : v.isStr (toS s) = true) : v.isStr (toS t) = decide (t = s) := by
  cases v with
  | str y tk =>
    have e : y = toS s := by
      have h' : (y == toS s) = true := h
      simpa using h'
    subst e
    show ((toS s) == toS t) = decide (t = s)
    have := str_eq s t
    rw [show (toS s == toS t) = (s == t) from this]
    by_cases c : t = s
    · rw [c, decide_eq_true rfl]
      simp
    · rw [decide_eq_false c]
      simp
      exact fun z => c z.symm
  | _ => cases h
theorem find_kd {K : PySem.W.Frag} {es : List DictEntry} {l : List (List Nat × D)} (h : KdE K es l) (s : List Nat) : (∀ d, lookM l s = some d → ∃ e, es.find? (·.key.isStr (toS s)) = some e ∧ kcB K d e.val = true) ∧ (lookM l s = none → es.find? (·.key.isStr (toS s)) = none) ∧ es.any (·.refKey) = false := by
  induction h with
  | nil => exact ⟨fun d e => (by cases e), fun _ => rfl, rfl⟩
  | @cons e es k d l hk hv t ih =>
    obtain ⟨i1, i2, i3⟩ := ih
    have q := isStr_toS (t := s) hk
    have nr : e.refKey = false := by
      obtain ⟨eh, ek, ev⟩ := e
      cases ek with
      | str y tk => rfl
      | _ => cases hk
    unfold lookM
    by_cases c : s = k
    · rw [if_pos c]
      rw [decide_eq_true c] at q
      refine ⟨fun d' e' => ?_, fun e' => (by cases e'), ?_⟩
      · cases e'
        exact ⟨e, by rw [List.find?_cons, q], hv⟩
      · rw [List.any_cons, nr, i3]
        rfl
    · rw [if_neg c]
      rw [decide_eq_false c] at q
      refine ⟨fun d' e' => ?_, fun e' => ?_, ?_⟩
      · rw [List.find?_cons, q]
        exact i1 d' e'
      · rw [List.find?_cons, q]
        exact i2 e'
      · rw [List.any_cons, nr, i3]
        rfl
theorem ns_kd {K : PySem.W.Frag} {w : World} {a : Addr} {es : Array DictEntry} {n : Nat} {l : List (List Nat × D)} (k : KDict K w a es n) (h : KdE K es.toList l) (s : List Nat) : (∀ d, lookM l s = some d → ∃ u, PySem.W.nsIn K a (toS s) = some (some u) ∧ kcB K d u = true) ∧ (lookM l s = none → PySem.W.nsIn K a (toS s) = some none) := by
  obtain ⟨i1, i2, i3⟩ := find_kd h s
  have e : PySem.W.nsIn K a (toS s) = (match es.toList.find? (·.key.isStr (toS s)) with
      | some e => some (some e.val)
      | none => if es.toList.any (·.refKey) then none else some none) := by
    unfold PySem.W.nsIn
    rw [k.at_]
    rfl
  refine ⟨fun d q => ?_, fun q => ?_⟩
  · obtain ⟨en, e1, e2⟩ := i1 d q
    refine ⟨en.val, ?_, e2⟩
    rw [e, e1]
  · rw [e, i2 q, i3]
    rfl
def mdIn (l : List (List Nat × D)) (neg : Bool) (f : Env → Sto → Res D) : Env → Sto → Res D := fun env S => (f env S).bind fun d S1 => match d with
  | .str s => .ok (.bl (if neg then !(lookM l s).isSome else (lookM l s).isSome)) S1
  | _ => .bad
def mdIx (l : List (List Nat × D)) (f : Env → Sto → Res D) : Env → Sto → Res D := fun env S => (f env S).bind fun d S1 => match d with
  | .str s => (match lookM l s with
    | some d => .ok d S1
    | none => .bad)
  | _ => .bad
section
variable {X : Cx} {M : Lm} {W : WX}
theorem mdin_of {l : List (List Nat × D)} {neg : Bool} {f : Env → Sto → Res D} {a : Addr} {es : Array DictEntry} {n : Nat} {σ : L2.St} {H : Hp} {Q : VK} (k : KDict X.K X.w a es n) (hl : KdE X.K es.toList l) (h : tE X.K M W (mdIn l neg f) σ H Q) :
    tOp (fun x y H Q => ∃ (z : Str) (r : Option Value), x = .str z ∧ y = .ref a ∧ PySem.W.nsIn X.K a z = some r ∧ Q (.bl (if neg then !r.isSome else r.isSome)) H) (tE X.K M W f) (tC (.ref a)) σ H Q := by
  obtain ⟨env, z, rfl, kz, v, h⟩ := h
  refine ⟨env, z, rfl, kz, v, (Out.bind h).imp fun b H1 q => ?_⟩
  obtain ⟨d, z1, rfl, _, x1, k1, q1, h1⟩ := q
  cases d with
  | str s =>
    obtain ⟨i1, i2⟩ := ns_kd k hl s
    have h1' : Out X.K M (EncA X.K M) W σ z1 Q (.ok (.bl (if neg then !(lookM l s).isSome else (lookM l s).isSome)) z1.S) := h1
    cases r : lookM l s with
    | none =>
      rw [r] at h1'
      exact ⟨_, none, encA_str q1, rfl, i2 r, out_bl k1 h1'⟩
    | some d =>
      rw [r] at h1'
      obtain ⟨u, e1, _⟩ := i1 d r
      exact ⟨_, some u, encA_str q1, rfl, e1, out_bl k1 h1'⟩
  | _ => exact h1.elim
theorem s_mdIn {x : Str} {l : List (List Nat × D)} {e : Expr} {p pos : Pos} {f : Env → Sto → Res D} (C : Kdc X.K X.w X.mg x l) (he : SE X M W e f) (hg : Gl X x := by rfl) (hd : (x == ("__debug__" : Str)) = false := by decide) : SE X M W (.Compare e [.In] [.Name x p] pos) (mdIn l false f) := by
  obtain ⟨a, es, n, hm, k, hl⟩ := C.ex
  exact pe_imp (pe_cmpR (op_in_kd k) he (pe_glob (v := .ref a) hg hm rfl hd) rfl) fun _ _ _ h => mdin_of k hl h
theorem s_mdNotIn {x : Str} {l : List (List Nat × D)} {e : Expr} {p pos : Pos} {f : Env → Sto → Res D} (C : Kdc X.K X.w X.mg x l) (he : SE X M W e f) (hg : Gl X x := by rfl) (hd : (x == ("__debug__" : Str)) = false := by decide) : SE X M W (.Compare e [.NotIn] [.Name x p] pos) (mdIn l true f) := by
  obtain ⟨a, es, n, hm, k, hl⟩ := C.ex
  exact pe_imp (pe_cmpR (op_notIn_kd k) he (pe_glob (v := .ref a) hg hm rfl hd) rfl) fun _ _ _ h => mdin_of k hl h
theorem s_mdIx {x : Str} {l : List (List Nat × D)} {e : Expr} {p pos : Pos} {f : Env → Sto → Res D} (C : Kdc X.K X.w X.mg x l) (he : SE X M W e f) (hg : Gl X x := by rfl) (hd : (x == ("__debug__" : Str)) = false := by decide) (hs : PlainIx e := by exact fun _ _ => rfl) : SE X M W (.Subscript (.Name x p) e pos) (mdIx l f) := by
  obtain ⟨a, es, n, hm, k, hl⟩ := C.ex
  refine pe_imp (pe_ix ix_kdict (pe_glob (v := .ref a) hg hm rfl hd) he hs) fun σ H Q h => ?_
  obtain ⟨env, z, rfl, kz, v, h⟩ := h
  refine ⟨env, z, rfl, kz, v, (Out.bind h).imp fun b H1 q => ?_⟩
  obtain ⟨d, z1, rfl, _, x1, k1, q1, h1⟩ := q
  cases d with
  | str s =>
    obtain ⟨i1, i2⟩ := ns_kd k hl s
    have h1' : Out X.K M (EncA X.K M) W σ z1 Q (match lookM l s with
      | some d => .ok d z1.S
      | none => .bad) := h1
    cases r : lookM l s with
    | none =>
      rw [r] at h1'
      exact h1'.elim
    | some d =>
      rw [r] at h1'
      obtain ⟨u, e1, e2⟩ := i1 d r
      obtain ⟨v, rv, en⟩ := kcB_ok (M := M) d u e2
      exact ⟨a, toS s, v, rfl, encA_str q1, ⟨es, n, u, k.at_, k.lit, e1, rv⟩, h1' z1 v rfl (Ext.refl z1) k1 (.of (en _ _))⟩
  | _ => exact h1.elim
end
/-! facts of the written part -/
theorem Kdc.mk' {K : PySem.W.Frag} {w : World} {mg : Str → Option Value} {h : Heap} {x : Str} {l : List (List Nat × D)} {a : Addr} {es : Array DictEntry} {n : Nat} (X : K.In h) (G : h.Ns mainGlobals mg) (e : PySem.W.nsIn K mainGlobals x = some (some (.ref a)))
    (hl : K.lookup a = some ⟨.type "dict", none, .dict es n, #[]⟩) (hk : PySem.W.KeysLit w.params es.toList) (low : (a == sysModules) = false) (he : KdE K es.toList l) : Kdc K w mg x l := ⟨a, es, n, PySem.W.mg_of X G e, ⟨hl, hk, low⟩, he⟩
/-! steps -/
section
variable {S : Sto} {E : D → Sto → Prop} {R : D → Sto → Prop} {env : Env} {f : Env → Sto → Res D}
theorem o_mdIn {l : List (List Nat × D)} {neg : Bool} (h : OKR (f env S) (fun d S1 => ∃ s, d = .str s ∧ R (.bl (if neg then !(lookM l s).isSome else (lookM l s).isSome)) S1) E) : OKR (mdIn l neg f env S) R E := o_bind (h.mono (fun _ _ q => by
  obtain ⟨s, rfl, q⟩ := q
  exact q) fun _ _ q => q)
theorem o_mdIx {l : List (List Nat × D)} (h : OKR (f env S) (fun d S1 => ∃ s x, d = .str s ∧ lookM l s = some x ∧ R x S1) E) : OKR (mdIx l f env S) R E := o_bind (h.mono (fun _ _ q => by
  obtain ⟨s, x, rfl, e, q⟩ := q
  show OKR (match lookM l s with
    | some d => .ok d _
    | none => .bad) R E
  rw [e]
  exact q) fun _ _ q => q)
theorem ex_str {s : List Nat} {A : List Nat → Prop} (h : A s) : ∃ t, D.str s = .str t ∧ A t := ⟨s, rfl, h⟩
theorem ex_md {l : List (List Nat × D)} {s : List Nat} {x : D} {A : D → Prop} (e : lookM l s = some x) (h : A x) : ∃ t x, D.str s = .str t ∧ lookM l t = some x ∧ A x := ⟨s, x, rfl, e, h⟩
/-! one's own dict, its keys written -/
theorem o_dispO {ss : List (List Nat)} {fs : List (Env → Sto → Res D)} (h : ∃ ds S1, evalFs fs env S = some (ds, S1) ∧ ds.all nr = true ∧ (ss.Nodup ∧ ss.length ≤ 15 ∧ ss.length = fs.length ∧ ds.length = ss.length ∧ ss ≠ []) ∧ R (.ref S1.length) (S1 ++ [.dic false (zipP ss ds)])) : OKR (dispO ss fs env S) R E := by
  obtain ⟨ds, S1, e, hn, c, q⟩ := h
  unfold dispO dispR
  rw [e]
  dsimp only
  rw [frzL_nr hn]
  show OKR ((if ss.Nodup ∧ ss.length ≤ 15 ∧ ss.length = fs.length ∧ ds.length = ss.length ∧ ss ≠ [] then Res.ok (zipP ss ds) S1 else .bad).bind _) R E
  rw [if_pos c]
  exact q
theorem getP_ref {n : Nat} {fz : Bool} {l : List (D × D)} (hn : S[n]? = some (.dic fz l)) : getP (.ref n) S = some l := by
  unfold getP
  dsimp only
  rw [hn]
theorem o_ixP {n : Nat} {fz : Bool} {l : List (D × D)} {k d : D} {q : Key} (hn : S[n]? = some (.dic fz l)) (hk : dkey k = some q) (e : lookD l k = some d) (h : R d S) : OKR (ixD (.ref n) k S) R E := by
  have e1 : getL (.ref n) S = none := by
    unfold getL
    dsimp only
    rw [hn]
  show OKR (match getL (.ref n) S, k with
    | some l, .int k => ixL (atI l k) fun d => Res.ok d S
    | some _, _ => .bad
    | none, i => ixL (getP (.ref n) S) fun l => ixL (dkey i) fun _ => ixL (lookD l i) fun d => .ok d S) R E
  rw [e1, getP_ref hn]
  show OKR (ixL (dkey k) fun _ => ixL (lookD l k) fun d => .ok d S) R E
  rw [hk, e]
  exact h
theorem o_setP {n : Nat} {l l2 : List (D × D)} {k v : D} {q : Key} {Q : Unit → Sto → Prop} (hn : S[n]? = some (.dic false l)) (hv : nr v = true) (hk : dkey k = some q) (hl : (keysOk l && decide (l.length < LINE)) = true) (e : putP l k v = l2) (h : ∀ S1, S1 = S.set n (.dic false l2) → Q () S1) : OKR (setD (.ref n) k v S) Q E := by
  show OKR ((frz1 v S).bind (setIn n k)) Q E
  rw [frz1_nr hv]
  show OKR (setIn n k v S) Q E
  unfold setIn
  rw [hn]
  dsimp only
  rw [hk]
  dsimp only
  rw [if_pos hl, e]
  exact h _ rfl
end
end Sm
/-! Sm30: max, min of a list of ints. -/
namespace Sm
open PySem PySem.Spec PyProof.Rows L2
def lmax : List Int → Int
  | [] => 0
  | x :: r => r.foldl (fun a b => if a < b then b else a) x
def lmin : List Int → Int
  | [] => 0
  | x :: r => r.foldl (fun a b => if b < a then b else a) x
theorem fold_max : ∀ (r : List Int) (x : Int), r.foldl (fun a b => if a < b then b else a) x ∈ x :: r ∧ ∀ y ∈ x :: r, y ≤ r.foldl (fun a b => if a < b then b else a) x
  | [], x => ⟨List.mem_cons_self .., fun y hy => (by
    rw [List.mem_singleton.mp hy]
    exact Int.le_refl _)⟩
  | z :: r, x => by
    rw [List.foldl_cons]
    obtain ⟨h1, h2⟩ := fold_max r (if x < z then z else x)
    refine ⟨?_, fun y hy => ?_⟩
    · rcases List.mem_cons.mp h1 with e | e
      · rw [e]
        split
        · exact List.mem_cons_of_mem _ (List.mem_cons_self ..)
        · exact List.mem_cons_self ..
      · exact List.mem_cons_of_mem _ (List.mem_cons_of_mem _ e)
    · have h0 := h2 _ (List.mem_cons_self ..)
      rcases List.mem_cons.mp hy with e | hy
      · subst e
        refine Int.le_trans ?_ h0
        split <;> omega
      · rcases List.mem_cons.mp hy with e | hy
        · subst e
          refine Int.le_trans ?_ h0
          split <;> omega
        · exact h2 y (List.mem_cons_of_mem _ hy)
theorem fold_min : ∀ (r : List Int) (x : Int), r.foldl (fun a b => if b < a then b else a) x ∈ x :: r ∧ ∀ y ∈ x :: r, r.foldl (fun a b => if b < a then b else a) x ≤ y
  | [], x => ⟨List.mem_cons_self .., fun y hy => (by
    rw [List.mem_singleton.mp hy]
    exact Int.le_refl _)⟩
  | z :: r, x => by
    rw [List.foldl_cons]
    obtain ⟨h1, h2⟩ := fold_min r (if z < x then z else x)
    refine ⟨?_, fun y hy => ?_⟩
    · rcases List.mem_cons.mp h1 with e | e
      · rw [e]
        split
        · exact List.mem_cons_of_mem _ (List.mem_cons_self ..)
        · exact List.mem_cons_self ..
      · exact List.mem_cons_of_mem _ (List.mem_cons_of_mem _ e)
    · have h0 := h2 _ (List.mem_cons_self ..)
      rcases List.mem_cons.mp hy with e | hy
      · subst e
        refine Int.le_trans h0 ?_
        split <;> omega
      · rcases List.mem_cons.mp hy with e | hy
        · subst e
          refine Int.le_trans h0 ?_
          split <;> omega
        · exact h2 y (List.mem_cons_of_mem _ hy)
theorem lmax_mem {l : List Int} (h : l ≠ []) : lmax l ∈ l ∧ ∀ y ∈ l, y ≤ lmax l := by
  cases l with
  | nil => exact absurd rfl h
  | cons x r => exact fold_max r x
theorem lmin_mem {l : List Int} (h : l ≠ []) : lmin l ∈ l ∧ ∀ y ∈ l, lmin l ≤ y := by
  cases l with
  | nil => exact absurd rfl h
  | cons x r => exact fold_min r x
def extM1 (f : List Int → Int) : Fn := fun as S => match as with
  | [d] => match getL d S with
    | some l => match allIn l with
      | some bs => if bs = [] then .bad else .ok (.int (f bs)) S
      | none => .bad
    | none => .bad
  | _ => .bad
def max1M : Fn := extM1 lmax
def min1M : Fn := extM1 lmin
section
variable {X : Cx} {M : Lm} {W : WX}
theorem ext1_ok {id : String} {f : List Int → Int} {r : List V → Hp → VK → Prop} (hr : CallR X (.builtin id) r) (hi : ∀ (a : Addr) (ns : List Int) (H : Hp) (Q : VK), SqL X.K H a (ns.map V.int) → ns ≠ [] → Q (.int (f ns)) H → r [.ref a] H Q) : CallR X (.builtin id) (rCl X.K M W (extM1 f)) := call_of fun as xs z σ' Q k qa h => by
  unfold extM1 at h
  split at h
  · obtain ⟨v, rfl, q⟩ := encAs1 qa
    rename_i d
    cases g : getL d z.S with
    | none =>
      rw [g] at h
      exact h.elim
    | some l =>
      rw [g] at h
      dsimp only at h
      cases r : allIn l with
      | none =>
        rw [r] at h
        exact h.elim
      | some bs =>
        rw [r] at h
        have h' : Out X.K M (EncA X.K M) W σ' z Q (if bs = [] then Res.bad else .ok (.int (f bs)) z.S) := h
        by_cases c : bs = []
        · rw [if_pos c] at h'
          exact h'.elim
        · rw [if_neg c] at h'
          obtain ⟨a, vs, rfl, hs, hl⟩ := getL_ok k q g
          rw [allIn_enc r hl] at hs
          exact ⟨_, hr, hi a bs _ _ hs c (out_int k h')⟩
  · exact h.elim
theorem max1_ok (hc : X.calm = true) : CallR X (.builtin "max") (rCl X.K M W max1M) := ext1_ok (cr_max hc) fun a ns H Q hs n q => ⟨a, ns, rfl, hs, List.length_pos_iff.mpr n, fun m hm hy => by
  obtain ⟨h1, h2⟩ := lmax_mem n
  have e : m = lmax ns := Int.le_antisymm (h2 m hm) (hy _ h1)
  rw [e]
  exact q⟩
theorem min1_ok (hc : X.calm = true) : CallR X (.builtin "min") (rCl X.K M W min1M) := ext1_ok (cr_min hc) fun a ns H Q hs n q => ⟨a, ns, rfl, hs, List.length_pos_iff.mpr n, fun m hm hy => by
  obtain ⟨h1, h2⟩ := lmin_mem n
  have e : m = lmin ns := Int.le_antisymm (hy _ h1) (h2 m hm)
  rw [e]
  exact q⟩
end
section
variable {S : Sto} {E : D → Sto → Prop} {R : D → Sto → Prop}
theorem o_ext1 {f : List Int → Int} {d : D} {l : List D} {bs : List Int} (e : getL d S = some l) (e2 : allIn l = some bs) (n : bs ≠ []) (h : R (.int (f bs)) S) : OKR (extM1 f [d] S) R E := by
  unfold extM1
  dsimp only
  rw [e]
  dsimp only
  rw [e2]
  dsimp only
  rw [if_neg n]
  exact h
theorem o_sum {d : D} {l : List D} {bs : List Int} (e : getL d S = some l) (e2 : allIn l = some bs) (h : R (.int bs.sum) S) : OKR (sumM [d] S) R E := by
  unfold sumM
  dsimp only
  rw [e]
  dsimp only
  rw [e2]
  exact h
theorem allIn_map : ∀ ns : List Int, allIn (ns.map D.int) = some ns
  | [] => rfl
  | n :: ns => by
    show (allIn (ns.map D.int)).map _ = _ <;> first
      | (rw [allIn_map ns]; rfl)
      | skip
end
section
variable {S : Sto} {E : D → Sto → Prop} {R : D → Sto → Prop} {env : Env}
def OKF : List (Env → Sto → Res D) → Env → Sto → (List D → Sto → Prop) → Prop
  | [], _, S, Q => Q [] S
  | f :: fs, env, S, Q => OKR (f env S) (fun d S1 => OKF fs env S1 fun ds S2 => Q (d :: ds) S2) fun _ _ => False
theorem okf_ev : ∀ (fs : List (Env → Sto → Res D)) (S : Sto) (Q : List D → Sto → Prop), OKF fs env S Q → ∃ ds S1, evalFs fs env S = some (ds, S1) ∧ Q ds S1
  | [], S, Q, h => ⟨[], S, rfl, h⟩
  | f :: fs, S, Q, h => by
    obtain ⟨d, S1, e, q⟩ := OKR.ok (show OKR (f env S) (fun d S1 => OKF fs env S1 fun ds S2 => Q (d :: ds) S2) fun _ _ => False from h)
    obtain ⟨ds, S2, e2, q2⟩ := okf_ev fs S1 _ q
    refine ⟨d :: ds, S2, ?_, q2⟩
    unfold evalFs
    rw [e]
    dsimp only
    rw [e2]
    rfl
theorem o_fN {Q : List D → Sto → Prop} (h : Q [] S) : OKF [] env S Q := h
theorem o_fC {f : Env → Sto → Res D} {fs : List (Env → Sto → Res D)} {Q : List D → Sto → Prop} (h : OKR (f env S) (fun d S1 => OKF fs env S1 fun ds S2 => Q (d :: ds) S2) fun _ _ => False) : OKF (f :: fs) env S Q := h
def dispC (ss : List (List Nat)) (fs : List (Env → Sto → Res D)) : Bool := decide (ss.Nodup) && (decide (ss.length ≤ 15) && (decide (ss.length = fs.length) && !ss.isEmpty))
theorem o_disp {ss : List (List Nat)} {fs : List (Env → Sto → Res D)} (c : dispC ss fs = true) (h : OKF fs env S fun ds S1 => (ds.all nr && decide (ds.length = ss.length)) = true ∧ R (.ref S1.length) (S1 ++ [.dic false (zipP ss ds)])) : OKR (dispO ss fs env S) R E := by
  obtain ⟨ds, S1, e, q1, q2⟩ := okf_ev fs S _ h
  unfold dispC at c
  rw [Bool.and_eq_true, Bool.and_eq_true, Bool.and_eq_true] at c
  rw [Bool.and_eq_true] at q1
  obtain ⟨c1, c2, c3, c4⟩ := c
  refine o_dispO ⟨ds, S1, e, q1.1, ⟨of_decide_eq_true c1, of_decide_eq_true c2, of_decide_eq_true c3, of_decide_eq_true q1.2, fun z => ?_⟩, q2⟩
  rw [z] at c4
  cases c4
theorem o_dispd {ss : List (List Nat)} {fs : List (Env → Sto → Res D)} (c : dispC ss fs = true) (h : OKF fs env S fun ds S1 => (ds.all nr && decide (ds.length = ss.length)) = true ∧ R (.dic (zipP ss ds)) S1) : OKR (dispF ss fs env S) R E := by
  obtain ⟨ds, S1, e, q1, q2⟩ := okf_ev fs S _ h
  unfold dispC at c
  rw [Bool.and_eq_true, Bool.and_eq_true, Bool.and_eq_true] at c
  rw [Bool.and_eq_true] at q1
  obtain ⟨c1, c2, c3, c4⟩ := c
  unfold dispF dispR
  rw [e]
  dsimp only
  rw [frzL_nr q1.1]
  show OKR ((if ss.Nodup ∧ ss.length ≤ 15 ∧ ss.length = fs.length ∧ ds.length = ss.length ∧ ss ≠ [] then Res.ok (zipP ss ds) S1 else .bad).bind _) R E
  rw [if_pos ⟨of_decide_eq_true c1, of_decide_eq_true c2, of_decide_eq_true c3, of_decide_eq_true q1.2, fun z => (by
    rw [z] at c4
    cases c4)⟩]
  exact q2
theorem and_b {b : Bool} {A : Prop} (e : b = true) (h : A) : b = true ∧ A := ⟨e, h⟩
theorem o_intI {i : Int} (h : R (.int i) S) : OKR (intM [.int i] S) R E := h
theorem o_intB {b : Bool} (h : R (.int (if b = true then 1 else 0)) S) : OKR (intM [.bl b] S) R E := h
theorem o_min2 {i j : Int} (h : R (.int (if j < i then j else i)) S) : OKR (min2M [.int i, .int j] S) R E := h
theorem o_max2 {i j : Int} (h : R (.int (if j > i then j else i)) S) : OKR (max2M [.int i, .int j] S) R E := h
end
end Sm
/-! Sm31: a lambda handed to a def of the text. -/
namespace Sm
open PySem PySem.Spec PyProof.Rows L2
/-- no lambda is at hand -/
structure Bare (M : Lm) : Prop where
  fn : M.fn = none
  caps : M.caps = []
  codes : M.codes = []
def Lm.lam (M : Lm) (f : Addr) (env : Env) (σ : St) (c : Addr) (q : Str) : Lm := { M with fn := some f, caps := [(env, σ)], codes := [(c, q)] }
section
variable {K : PySem.W.Frag} {M M' : Lm} {z z' : Sg} {H : Hp} {ow : Addr → Prop}
mutual
theorem Enc.re (h1 : M.cls = M'.cls) (h2 : M.fld = M'.fld) : ∀ {d : D} {v : V}, Enc K M H ow d v → Enc K M' H ow d v
  | _, _, .non => .non
  | _, _, .bl b => .bl b
  | _, _, .int i => .int i
  | _, _, .str s => .str s
  | _, _, .tup h e => .tup h (EncL.re h1 h2 e)
  | _, _, .lst h e => .lst h (EncL.re h1 h2 e)
  | _, _, .dic h n e => .dic h n (EncP.re h1 h2 e)
  | _, _, .exc h n x e => .exc (by rw [← h1]; exact h) n (by unfold XFld at x ⊢; rw [← h2]; exact x) (EncL.re h1 h2 e)
  | _, _, .cls k => by
    rw [h1]
    exact .cls k
  | _, _, .ty t => .ty t
theorem EncL.re (h1 : M.cls = M'.cls) (h2 : M.fld = M'.fld) : ∀ {l : List D} {vs : List V}, EncL K M H ow l vs → EncL K M' H ow l vs
  | _, _, .nil => .nil
  | _, _, .cons h t => .cons (Enc.re h1 h2 h) (EncL.re h1 h2 t)
theorem EncP.re (h1 : M.cls = M'.cls) (h2 : M.fld = M'.fld) : ∀ {l : List (D × D)} {vs : List (Key × V)}, EncP K M H ow l vs → EncP K M' H ow l vs
  | _, _, .nil => .nil
  | _, _, .cons q h t => .cons q (Enc.re h1 h2 h) (EncP.re h1 h2 t)
end
theorem EncA.re (h1 : M.cls = M'.cls) (h2 : M.fld = M'.fld) (h3 : M.fn = none ∨ M'.fn = M.fn) {d : D} {v : V} (h : EncA K M z d v) : EncA K M' z d v := by
  cases h with
  | ref a b => exact .ref a b
  | of h => exact .of (h.re h1 h2)
  | fn e =>
    rcases h3 with q | q
    · rw [q] at e
      cases e
    · exact .fn (q.trans e)
/-- no lambda among them -/
theorem EncA.un (h1 : M.cls = M'.cls) (h2 : M.fld = M'.fld) {d : D} {v : V} (nf : d ≠ .fn) (h : EncA K M z d v) : EncA K M' z d v := by
  cases h with
  | ref a b => exact .ref a b
  | of h => exact .of (h.re h1 h2)
  | fn e => exact absurd rfl nf
theorem ObE.re (h1 : M.cls = M'.cls) (h2 : M.fld = M'.fld) (h3 : M.arr = M'.arr) {a : Addr} {o : Ob} (h : ObE K M z a o) : ObE K M' z a o := by
  cases o with
  | lst fz l =>
    obtain ⟨vs, q, e⟩ := h
    exact ⟨vs, q, e.re h1 h2⟩
  | dic fz l =>
    obtain ⟨vs, q, e⟩ := h
    exact ⟨vs, q, e.re h1 h2⟩
  | arr l =>
    obtain ⟨⟨ha, nf⟩, vs, q, e⟩ := h
    refine ⟨⟨h3 ▸ ha, nf⟩, vs, q, ?_⟩
    clear q
    induction e with
    | nil => exact .nil
    | cons a b ih => exact .cons (a.un h1 h2 (nf _ (List.mem_cons_self ..))) (ih fun d hd => nf d (List.mem_cons_of_mem _ hd))
theorem EncX.re (h1 : M.cls = M'.cls) (h2 : M.fld = M'.fld) {e : D} {c : Value} {d : Option Addr} (h : EncX K M z e c d) : EncX K M' z e c d := by
  obtain ⟨k, l, vs, e1, e2, e3, e4⟩ := h
  refine ⟨k, l, vs, e1, by rw [← h1]; exact e2, ?_, e4.re h1 h2⟩
  unfold XFld at e3 ⊢
  rw [← h2]
  exact e3
variable {f c : Addr} {env : Env} {σ : St} {q : Str}
theorem sok_lam (B : Bare M) (k : SOk K M z) (v : EnvOk K M z env σ) (hc : z.H c = some (LamX.CodeO c q)) (nc : ¬ z.ow c) : SOk K (M.lam f env σ c q) z :=
  ⟨k.len, k.nd, k.gR, k.gT, fun n o a h1 h2 => ObE.re (M := M) (M' := M.lam f env σ c q) rfl rfl rfl (k.obj n o a h1 h2), k.aux.tab, fun p hp => by
    have e : p = (env, σ) := List.mem_singleton.mp hp
    rw [e]
    exact ⟨v.1, fun i d h => let ⟨w, h1, h2⟩ := v.2 i d h; ⟨w, h1, EncA.re (M := M) (M' := M.lam f env σ c q) rfl rfl (.inl B.fn) h2⟩⟩, fun p hp => by
    have e : p = (c, q) := List.mem_singleton.mp hp
    rw [e]
    exact ⟨hc, nc⟩⟩
theorem sok_unlam (B : Bare M) (k : SOk K (M.lam f env σ c q) z) : SOk K M z := by
  refine ⟨k.len, k.nd, k.gR, k.gT, fun n o a h1 h2 => ObE.re (M := M.lam f env σ c q) (M' := M) rfl rfl rfl (k.obj n o a h1 h2), k.aux.tab, fun p hp => ?_, fun p hp => ?_⟩
  · rw [B.caps] at hp
    cases hp
  · rw [B.codes] at hp
    cases hp
theorem not_own {o : HO} (k : SOk K M z) (h : z.H c = some o) (n1 : ∀ xs, o ≠ .lst xs) (n2 : ∀ xs, o ≠ .dK xs) : ¬ z.ow c := by
  rintro (⟨n, u, a1, _, a2⟩ | g)
  · obtain ⟨w, e, hw⟩ := obE_at (k.obj n u c a1 a2)
    rw [h] at e
    cases e
    rcases hw with ⟨xs, e⟩ | ⟨xs, e⟩
    · exact n1 _ e
    · exact n2 _ e
  · obtain ⟨w, e, hw⟩ := k.gT c g
    rw [h] at e
    cases e
    rcases hw with ⟨xs, e⟩ | ⟨xs, e⟩
    · exact n1 _ e
    · exact n2 _ e
/-- the tables grow -/
theorem ext_grown {H1 : Hp} (k : SOk K M z) (e : LamX.ExtN z.H H1) : Ext z { z with H := H1 } where
  keep := fun a o h _ t => e a o h t
  nw := fun a _ n => n
  tup := fun a xs h => e a _ h fun ps z => nomatch z
  frz := fun a o u h => e a _ h fun ps z => nomatch z
  xds := fun a fs h => e a _ h fun ps z => nomatch z
  pre := ⟨[], (List.append_nil _).symm⟩
  grow := Nat.le_refl _
  gh := rfl
  gk := fun g hg => by
    obtain ⟨o, h, h2⟩ := k.gT g hg
    rw [h]
    refine e g o h fun ps z => ?_
    subst z
    rcases h2 with ⟨_, h2⟩ | ⟨_, h2⟩ <;> cases h2
theorem sok_grown {H1 : Hp} (k : SOk K M z) (e : LamX.ExtN z.H H1) (t : LamX.Tabs M.tabs H1) : SOk K M { z with H := H1 } := by
  have x := ext_grown k e
  refine ⟨k.len, k.nd, k.gR, fun g hg => ?_, fun n o a h1 h2 => ?_, k.aux.ext x t⟩
  · obtain ⟨o, h, h2⟩ := k.gT g hg
    exact ⟨o, (x.gk g hg).trans h, h2⟩
  · have q := k.obj n o a h1 h2
    cases o with
    | lst fz l =>
      obtain ⟨vs, h, r⟩ := q
      exact ⟨vs, e a _ h (fun ps z => nomatch z), r.mv x.mv⟩
    | dic fz l =>
      obtain ⟨vs, h, r⟩ := q
      exact ⟨vs, e a _ h (fun ps z => nomatch z), r.mv x.mv⟩
    | arr l =>
      obtain ⟨ha, vs, h, r⟩ := q
      exact ⟨ha, vs, e a _ h (fun ps z => nomatch z), r.ext x⟩
/-- what is wanted of a def, told for the lambda's sake -/
theorem out_lam (B : Bare M) {W : WX} {σ' : St} {Q : VK} {r : Res D} (nf : ∀ d S, r = .ok d S → d ≠ .fn) (h : Out K M (EncA K M) W σ' z Q r) : Out K (M.lam f env σ c q) (EncA K (M.lam f env σ c q)) (fun c d _ H => W c d σ' H) [] z Q r := by
  cases r with
  | ok a S => exact fun z2 b e1 e2 k qa => h z2 b e1 e2 (sok_unlam B k) (EncA.un (M := M.lam f env σ c q) (M' := M) rfl rfl (nf a S rfl) qa)
  | ex e S => exact fun z2 cv d e1 e2 k qa => h z2 cv d e1 e2 (sok_unlam B k) (EncX.re (M := M.lam f env σ c q) (M' := M) rfl rfl qa)
  | bad => exact h
/-- back in the maker's frame -/
theorem out_unlam (B : Bare M) {E : XK} {σ' : St} {Q : VK} {r : Res D} (hc : z.H c = some (LamX.CodeO c q) ∧ ¬ z.ow c) (v : EnvOk K M z env σ) (h : Out K (M.lam f env σ c q) (EncA K (M.lam f env σ c q)) (fun c d _ H => E c d H) [] z Q r) : Out K M (EncA K M) (fun c d _ H => E c d H) σ' z Q r := by
  have up : ∀ z2, Ext z z2 → SOk K M z2 → SOk K (M.lam f env σ c q) z2 := fun z2 x k =>
    sok_lam B k (v.ext x) (x.keep _ _ hc.1 hc.2 LamX.codeO_ne) (x.nw _ ⟨_, hc.1, LamX.codeO_ne⟩ hc.2)
  cases r with
  | ok a S => exact fun z2 b e1 e2 k qa => h z2 b e1 e2 (up z2 e2 k) (EncA.re (M := M) (M' := M.lam f env σ c q) rfl rfl (.inl B.fn) qa)
  | ex e S => exact fun z2 cv d e1 e2 k qa => h z2 cv d e1 e2 (up z2 e2 k) (EncX.re (M := M) (M' := M.lam f env σ c q) rfl rfl qa)
  | bad => exact h
end
/-! ### the lambda called -/
/-- what a call of the lambda at hand does, from all states on that come of s and H -/
structure ActAt (P : Program) (w : World) (K : PySem.W.Frag) (M : Lm) (mg : Str → Option Value) (base : Heap) (j : Nat) (outer : List PySem.Env) (s : Shared) (H : Hp) (T : Sto → Res D) : Prop where
  ex : ∃ f, M.fn = some f ∧ ∀ (s2 : Shared) (H2 : Hp), Un (frs outer) [] H H2 s.heap s2.heap → PySem.W.FnAt f s2.heap ∧
    ∀ (A : Around) (o2 : List PySem.Env) (Q : VK) (E : XK), Room j A → A.guards = some [] → Env0 P w K mg base A o2 s2 H2 → spF K M 0 (fun _ S => T S) [] H2 Q E → codeAny (model P w) A (.call (.ref f) ⟨[], []⟩) (CR (L2.CX P w) o2 P w H2 s2 Q E) s2
def actF (i : Nat) (T : Sto → Res D) : Env → Sto → Res D := fun env S => match env[i]? with
  | some (some .fn) => T S
  | _ => .bad
section
variable {X : Cx} {M : Lm} {W : WX}
theorem s_act {j k : Nat} (i : Nat) {a : Str} {T : Sto → Res D} {p1 p2 : Pos} {outer : List PySem.Env} {s0 : Shared} {H0 : Hp} (hA : ActAt X.prog X.w X.K M X.mg X.base j outer s0 H0 T) (hU : ∀ (pins : List (Addr × Obj)) (σ : St) (H : Hp) (s : Shared), Inv X pins σ H s → Un (frs outer) [] H0 H s0.heap s.heap)
    (hr : Room k X.A) (gd : X.A.guards = some []) (tk : Takes X W) (hj : j ≤ k) (hN : X.N[i]? = some a := by rfl) (hv : Vis X.env.scope a := by first | exact Or.inl rfl | exact Or.inr (Or.inl rfl) | exact Or.inr (Or.inr rfl))
    (hd : (a == ("__debug__" : Str)) = false := by decide) (hcd : (a == ("__classdict__" : Str)) = false := by decide) : SE X M W (.Call (.Name a p1) [] [] p2) (actF i T) := by
  obtain ⟨f, hf, run⟩ := hA.ex
  refine ⟨fun pins s σ H Q I h => ?_⟩
  obtain ⟨env, z, rfl, kz, v, h⟩ := h
  have key : env[i]? = some (some .fn) ∧ Out X.K M (EncA X.K M) W σ z Q (T z.S) := by
    unfold actF at h
    split at h
    · rename_i e
      exact ⟨e, h⟩
    · exact h.elim
  obtain ⟨v0, hs, q0⟩ := v.2 i _ key.1
  have e0 : v0 = .ref f := by
    cases q0 with
    | of q => cases q
    | fn e =>
      rw [hf] at e
      cases e
      rfl
  subst e0
  refine wpAny_Call_Name_kw (thn ((pe_var (pos := p1) (i := i) hN hv hd hcd).run pins s σ z.H (fun v H1 => v = .ref f ∧ H1 = z.H) I ⟨.ref f, hs, rfl, rfl⟩) fun u s1 hh => ?_)
  obtain ⟨v1, H1, I1, r1, ev, eH⟩ := hh
  subst ev
  rw [eH] at I1
  obtain rfl : u = Value.ref f := r1
  obtain ⟨fa, go⟩ := run s1 z.H (hU _ _ _ _ I1)
  refine PySem.W.callWith_F0 fa ?_
  have h2 : Out X.K M (EncA X.K M) (fun c d _ H => W c d σ H) [] z Q (T z.S) := by
    have h := key.2
    cases e : T z.S with
    | ok a S =>
      rw [e] at h
      exact h
    | ex a S =>
      rw [e] at h
      exact h
    | bad =>
      rw [e] at h
      exact h
  refine wpAny_call (codeAny_mono (go X.A X.stack Q (fun c d H => W c d σ H) (hr.mono hj) gd I1.env0 ⟨[], z, rfl, kz, rfl, .nil, h2⟩) fun r s' hq => ?_)
  cases r with
  | error e => exact tk e s' (XE.of_call I1 (fun _ _ _ z => z) hq)
  | ok fl =>
    cases fl with
    | ret u => exact I1.after hq
    | next => exact False.elim hq
    | brk => exact False.elim hq
    | cont => exact False.elim hq
end
/-! ### a def that calls what it got -/
structure FnL (P : Program) (w : World) (K : PySem.W.Frag) (M : Lm) (mg : Str → Option Value) (base : Heap) (k j : Nat) (g : Addr) (gd : FuncData) (a : Str) (m : (Sto → Res D) → Fn) : Prop where
  nofn : ∀ T as S d S', m T as S = .ok d S' → d ≠ .fn
  run : ∀ (f : Addr) (env : Env) (σ : St) (c : Addr) (q : Str) (T : Sto → Res D) (A : Around) (outer : List PySem.Env) (s : Shared) (H : Hp) (args : Args) (us : List Value) (vs : List V) (Q : VK) (E : XK), Room k A → A.guards = some [] → Env0 P w K mg base A outer s H →
    BindsTo s gd args ([a].zip us) → Vals vs us → ActAt P w K (M.lam f env σ c q) mg base j outer s H T → spF K (M.lam f env σ c q) 1 (m T) vs H Q E → codeAny (model P w) A (.call (.ref g) args) (CR (L2.CX P w) outer P w H s Q E) s
theorem fin_nofn {n : Nat} {d d' : D} {S S' : Sto} (h : fin n d S = .ok d' S') : d' ≠ .fn := fun z => by
  subst z
  unfold fin at h
  split at h
  · cases h
  · split at h
    · cases h
    · split at h <;> cases h
  · rename_i n1 _
    cases h
    exact n1 rfl
theorem fnM_nofn {n k : Nat} {body : Env → Sto → SR} {as : List D} {S S' : Sto} {d : D} (h : fnM n k true body as S = .ok d S') : d ≠ .fn := by
  unfold fnM at h
  split at h
  · unfold fnEnd at h
    split at h
    · rw [if_pos rfl] at h
      exact fin_nofn h
    · rw [if_pos rfl] at h
      exact fin_nofn h
    · cases h
    · cases h
  · cases h
section
variable {P : Program} {w : World} {K : PySem.W.Frag} {M : Lm} {mg : Str → Option Value} {base : Heap}
theorem FnL.of {x qual : Str} {st : Stmt} {g : Addr} {gd : FuncData} {N : List Str} {a : Str} {k j nk : Nat} {body : (Sto → Res D) → Env → Sto → SR} (na : M.arr = false) (F : Fun K x qual st g gd) (S : FnScope N [a] (defScope st)) (hk : N.length - 1 = nk) (hN : 1 ≤ N.length)
    (hbody : ∀ (f : Addr) (env : Env) (σ : St) (c : Addr) (q : Str) (T : Sto → Res D) (cdv : Value), gd.code = cdv → ∀ (A : Around) (outer : List PySem.Env) (s : Shared) (H : Hp) (E : XK), ActAt P w K (M.lam f env σ c q) mg base j outer s H T →
      Room k (A.deeper (envOfC qual (defScope st) s.heap.objs.size g cdv)) → (A.deeper (envOfC qual (defScope st) s.heap.objs.size g cdv)).guards = some [] →
      ∀ W, Takes (cxOf (L2.CX P w) P w K mg base N qual (defScope st) g cdv A outer s H E) W → PassesOwn (model P w) (A.deeper (envOfC qual (defScope st) s.heap.objs.size g cdv)) (envOfC qual (defScope st) s.heap.objs.size g cdv) (cxOf (L2.CX P w) P w K mg base N qual (defScope st) g cdv A outer s H E).xe →
      SSs (cxOf (L2.CX P w) P w K mg base N qual (defScope st) g cdv A outer s H E) (M.lam f env σ c q) W (defBody st) (body T)) :
    FnL P w K M mg base (k + 1) j g gd a (fun T => fnM 1 nk true (body T)) := by
  obtain ⟨oc, od, kV, doc, pm, an, cdv, ct, osl, rfl, lk, hcd⟩ := F.ex
  refine ⟨fun T as S d S' h => fnM_nofn h, ?_⟩
  intro f env σ c q T A outer s H args us vs Q E hr hg e0 hb r hA hsp
  obtain ⟨as, z, rfl, kz, hla, hq, hout⟩ := hsp
  have hl : vs.length = [a].length := by rw [← hq.length]; exact hla
  have KX : K.In s.heap := e0.mod.kin.keeps fun b o e => (e0.bs b o e).1
  have lim : s.heap.NoLimit := e0.mod.nolimit.keeps fun b o e => (e0.bs b o e).1
  have hkind : ∀ y ∈ [a].zip us, (defScope st).names.lookup y.1 = some .local ∨ ((defScope st).names.lookup y.1 = some .cell ∧ ((cellsFrom (s.heap.objs.size + 1) (defScope st).names []).lookup y.1).isSome = true) := by
    rintro ⟨n, v⟩ hy
    rcases S.par n (List.of_mem_zip hy).1 with q | q
    · exact .inl q
    · exact .inr ⟨q, PySem.W.cellsFrom_some _ _ _ (.inl q)⟩
  refine codeAny_call_function hr.depth (KX _ _ lk) rfl S.co S.gen rfl (PySem.W.codeRec_of KX hcd) (hb _ _ _ _ ?_)
  refine wpAny_newFunctionEnv_cells S.kind hkind fun env' he s1 x => ?_
  subst he
  refine ⟨lim.keeps x.toInCall.keep, codeAny_func ?_⟩
  have I : Inv (cxOf (L2.CX P w) P w K mg base N qual (defScope st) g cdv A outer s z.H E) [] (L2.start N vs) z.H s1 := inv_start S hr.hd e0 hl r x
  have tk : Takes (cxOf (L2.CX P w) P w K mg base N qual (defScope st) g cdv A outer s z.H E) (fun c d _ H => E c d H) := takes_of rfl rfl rfl rfl
  have ht := hbody f env σ c q T cdv rfl A outer s z.H E hA (hr.deeper _) hg _ tk (passes_of rfl)
  have hq2 : tS K (M.lam f env σ c q) (fun c d _ H => E c d H) (body T) { nx := fun _ H' => Q .non H', rt := Q } (L2.start N vs) z.H := by
    refine ⟨as.map some ++ List.replicate nk none, z, rfl, kz, ?_, fn_end (c := true) (show (M.lam f env σ c q).arr = false from na) kz ?_⟩
    · rw [← hk]
      exact env_start (ps := [a]) hq hla hN
    · unfold fnM at hout
      rw [if_pos hla] at hout
      exact hout
  refine wpAny_mono (ht.run [] s1 (L2.start N vs) z.H _ I hq2) (fun fl s' hs => ?_) fun e s' hs => hs
  have fin' : ∀ {σ' : St} {H' : Hp} {v : V} {u : Value}, Inv (cxOf (L2.CX P w) P w K mg base N qual (defScope st) g cdv A outer s z.H E) [] σ' H' s' → RelV v u → Q v H' → CE outer P w z.H s Q u s' := by
    intro σ' H' v u J rv q
    exact ⟨v, H', J.os, J.bare, J.base, J.hok, rv, q⟩
  cases fl with
  | next =>
    obtain ⟨σ', H', J, q⟩ := hs
    exact fin' (v := V.non) (u := Value.none) J rfl q
  | ret u =>
    obtain ⟨v, σ', H', J, rv, q⟩ := hs
    exact fin' J rv q
  | brk =>
    obtain ⟨_, _, _, q⟩ := hs
    exact q.elim
  | cont =>
    obtain ⟨_, _, _, q⟩ := hs
    exact q.elim
/-- such a def of the text, its promise kept -/
structure DefL (P : Program) (w : World) (K : PySem.W.Frag) (M : Lm) (mg : Str → Option Value) (base : Heap) (x : Str) (k j : Nat) (a : Str) (m : (Sto → Res D) → Fn) : Prop where
  ex : ∃ (g : Addr) (gd : FuncData), FnL P w K M mg base k j g gd a m ∧ mg x = some (.ref g) ∧ PySem.W.keepIn K (.ref g) = true ∧ Binds K gd [a] []
theorem Kn.defL {x : Str} {st : Stmt} {a : Str} {f : Addr} {fd : FuncData} {k j : Nat} {m : (Sto → Res D) → Fn} (N : Kn K mg x st [a] f fd) (F : FnL P w K M mg base k j f fd a m) : DefL P w K M mg base x k j a m := ⟨f, fd, F, N.at_, N.kp, N.bi⟩
end
/-! ### the maker -/
/-- where a maker of lambdas keeps them -/
structure Mak (M : Lm) (mg : Str → Option Value) (base : Heap) (cdv : Value) (q : Str) : Prop where
  ex : ∃ c P, cdv = .ref c ∧ LamX.TabB base mg c P ∧ (P, q) ∈ M.tabs ∧ ∀ p ∈ M.tabs, p.1 = P → p.2 = q
def lamF (m : (Sto → Res D) → Fn) (E : Env → Sto → Res D) : Env → Sto → Res D := fun env S => m (fun S1 => E env S1) [.fn] S
section
variable {X : Cx} {M : Lm} {W : WX}
theorem s_lam {k j l : Nat} {x a : Str} {m : (Sto → Res D) → Fn} {params : Arguments} {body : Expr} {scope : Scope} {b : Env → Sto → Res D} {p lpos pos : Pos} (N : DefL X.prog X.w X.K M X.mg X.base x k j a m) (B : Bare M) (Z : Mak M X.mg X.base X.env.code (X.env.qual ++ "<lambda>"))
    (hr : Room l X.A) (gd : X.A.guards = some []) (tk : Takes X W)
    (hbody : ∀ (A : Around) (outer : List PySem.Env) (s : Shared) (H : Hp) (E : XK) (f c' : Addr), Room (j - 1) (A.deeper (LamX.lamEnv X scope s.heap.objs.size f c')) → (A.deeper (LamX.lamEnv X scope s.heap.objs.size f c')).guards = some [] →
      ∀ W', Takes (LamX.lamCx X A outer s H E scope f c') W' → SE (LamX.lamCx X A outer s H E scope f c') M W' body b)
    (hj : 1 ≤ j := by decide) (hkl : k ≤ l := by decide) (L : LamX.LamS X.env.scope scope := by exact LamX.lamS_by (by kernel_rfl)) (hdef : defaultsOf params X.env = ([], []) := by rfl)
    (hbind : ∀ (q : Str) (cl : List (Str × Addr)) (pm cv ctv : Value), bindArgs (PySem.W.kla_fn "<lambda>" q params body scope cl pm cv ctv) ⟨[], []⟩ = pure [] := by exact fun _ _ _ _ _ => rfl) (hg : Gl X x := by rfl) (hdb : (x == ("__debug__" : Str)) = false := by decide) :
    SE X M W (.Call (.Name x p) [.Lambda params body scope lpos] [] pos) (lamF m b) := by
  obtain ⟨g, fd, F, hm, hk, hb⟩ := N.ex
  obtain ⟨c, Pt, hcode, TB, hmT, hu⟩ := Z.ex
  refine ⟨fun pins s σ H Q I h => ?_⟩
  obtain ⟨env, z, rfl, kz, v, h⟩ := h
  refine wpAny_Call_Name_kw (ld_glob I hg hm ?_ hdb)
  refine PySem.W.callWith_K (h₀ := X.base) I.ok.mod.kin hk ?_ (by rfl) (by rfl)
  show wpAny _ _ (spliced ((false, eval (.Lambda params body scope lpos) X.env) :: backTo pos (starEach [] X.env))) _ _ s
  refine Calls.spliced_cons (LamX.lam_make2 (T := M.tabs) I TB hcode hmT hu kz.aux.tab hdef (L.has I.ok) fun f c1 pm ctv H1 s1 I1 eN T1 hf hfn hfr hco => ?_)
  refine Calls.spliced_nil ⟨I1.kIn, ?_⟩
  have x1 := ext_grown kz eN
  have k1 := sok_grown kz eN T1
  have v1 := v.ext x1
  have nc : ¬ Sg.ow { z with H := H1 } c1 := not_own k1 hco (fun xs z => by unfold LamX.CodeO at z; cases z) fun xs z => by unfold LamX.CodeO at z; cases z
  have k2 := sok_lam (f := f) B k1 v1 hco nc
  have h0 : Out X.K M (EncA X.K M) W σ z Q (m (fun S1 => b env S1) [.fn] z.S) := h
  have h1 := out_lam (f := f) (env := env) (σ := σ) (c := c1) (q := X.env.qual ++ "<lambda>") B (fun d S e => F.nofn _ _ _ _ _ e) (Out.rebase x1 h0)
  have act : ActAt X.prog X.w X.K (M.lam f env σ c1 (X.env.qual ++ "<lambda>")) X.mg X.base j X.stack s1 H1 (fun S => b env S) := by
    refine ⟨f, rfl, fun s2 H2 un => ?_⟩
    have of2 := un.keep f _ hf hfn hfr (List.not_mem_nil)
    refine ⟨⟨_, _, _, _, of2⟩, fun A o2 Q' E' hr2 gd2 e02 hsp => ?_⟩
    obtain ⟨as, z2, rfl, kz2, _, _, hout⟩ := hsp
    have code2 := kz2.aux.code _ (List.mem_singleton.mpr rfl)
    have cap2 : EnvOk X.K M z2 env σ := by
      have r := kz2.aux.cap _ (List.mem_singleton.mpr rfl)
      refine ⟨r.1, fun i d e => ?_⟩
      obtain ⟨w1, a1, _⟩ := v.2 i d e
      obtain ⟨w2, a2, q2⟩ := r.2 i d e
      refine ⟨w2, a2, EncA.un (M := M.lam f env σ c1 (X.env.qual ++ "<lambda>")) (M' := M) rfl rfl (fun zf => ?_) q2⟩
      subst zf
      obtain ⟨w3, _, q3⟩ := v.2 i _ e
      cases q3 with
      | of q => cases q
      | fn e3 =>
        rw [B.fn] at e3
        cases e3
    obtain ⟨⟨oc, fs, tk2, ho, hd2, hv2⟩, _, _⟩ := e02.hok c1 _ code2.1
    have NL : s2.heap.NoLimit := e02.mod.nolimit.keeps fun b o e => (e02.bs b o e).1
    refine PySem.W.kla_callFunE hr2.depth of2 rfl L.co L.gen rfl ⟨c1, oc, fs, tk2, rfl, ho, hd2, hv2⟩ ?_
    rw [hbind]
    refine wpAny_pure (wpAny_newFunctionEnv (fun y hy => (L.own y hy).2) (fun y hy => absurd hy (by simp)) (fun h2 ns2 sb2 => ⟨NL.fresh _ sb2, ?_⟩) L.kind)
    have kp2 : ∀ b o, s2.heap.get? b = some o → h2.get? b = some o := fun b o e => sb2.extBut b o (Nat.ne_of_lt (Heap.lt_size e)) (Heap.get?_push_of_some _ e)
    have J := LamX.lam_start2 (E := E') (f := f) (c' := c1) (tk := s2.toks + ([] : List (Str × Value)).length) I1 L e02 hr2.hd un ns2 kp2
    have hr3 : Room (j - 1) (A.deeper (LamX.lamEnv X scope s2.heap.objs.size f c1)) := by
      obtain ⟨j', rfl⟩ : ∃ j', j = j' + 1 := ⟨j - 1, by omega⟩
      exact hr2.deeper _
    have tk3 : Takes (LamX.lamCx X A o2 s2 z2.H E' scope f c1) (fun c d _ H => E' c d H) := takes_of rfl rfl rfl rfl
    have hq3 : tE X.K M (fun c d _ H => E' c d H) b σ z2.H Q' := ⟨env, z2, rfl, sok_unlam B kz2, cap2, out_unlam B code2 cap2 hout⟩
    refine PySem.W.kla_codeExpr (wpAny_mono ((hbody A o2 s2 z2.H E' f c1 hr3 gd2 _ tk3).run [] _ _ z2.H Q' J hq3) (fun u s3 hs => ?_) fun e s3 hs => hs)
    obtain ⟨w3, H3, J3, r3, q3⟩ := hs
    exact ⟨w3, H3, J3.os, J3.bare, J3.base, J3.hok, r3, q3⟩
  have hb' := hb s1 [.ref f] I1.kIn rfl
  refine wpAny_call (codeAny_mono (F.run f env σ c1 (X.env.qual ++ "<lambda>") (fun S => b env S) X.A X.stack s1 H1 ⟨[.ref f], []⟩ [.ref f] [.ref f] Q (fun c d H => W c d σ H) (hr.mono hkl) gd I1.env0 hb' (.cons rfl .nil) act ⟨[.fn], { z with H := H1 }, rfl, k2, rfl, .cons (.fn rfl) .nil, h1⟩) fun r s' hq => ?_)
  cases r with
  | error e => exact tk e s' (XE.of_call I1 (fun _ _ _ z => z) hq)
  | ok fl =>
    cases fl with
    | ret u => exact I1.after hq
    | next => exact False.elim hq
    | brk => exact False.elim hq
    | cont => exact False.elim hq
end
theorem SubOk.lam {K : PySem.W.Frag} {M : Lm} {f c : Addr} {env : Env} {σ : St} {q : Str} {sub : Nat → Nat → Option Bool} (h : SubOk K M sub) : SubOk K (M.lam f env σ c q) sub := ⟨h.kit, h.exm, h.exc, h.ve⟩
end Sm
/-! Sm32: where the makers of lambdas stand. -/
namespace Sm
open PySem PySem.Spec PyProof.Rows L2
theorem mk0_nil {K : PySem.W.Frag} {h : Heap} : Mk0 K [] h := ⟨fun _ z => (by cases z), fun _ z => (by cases z), fun _ z => (by cases z)⟩
theorem mk0_cons {K : PySem.W.Frag} {h : Heap} {mg : Str → Option Value} {q : Program} {x : Str} {c Pt f : Addr} {n : Str} {o1 o2 : Value} {d1 d2 : Option Addr} {fd : FuncData} {vs : Array Value} {s1 s2 : Array (Option Value)} {cs : Mk} (TP : ∃ lo mean mb, Top q lo mean mg mb h) (X : K.In h)
    (hr : ((recsOf q).find? (fun e => e.name == x)).isSome = true) (a : PySem.W.nsIn K mainGlobals x = some (some (.ref f))) (l : K.lookup f = some ⟨o1, d1, .func fd, s1⟩) (hc : fd.code = .ref c) (m : K.lookup c = some ⟨o2, d2, .fields vs, s2⟩) (p : vs[11]? = some (.ref Pt)) (n0 : K.lookup Pt = none) (T : Mk0 K cs h) : Mk0 K ((c, Pt, n) :: cs) h := by
  obtain ⟨lo, mean, mb, TP⟩ := TP
  obtain ⟨d, hd⟩ := Option.isSome_iff_exists.mp hr
  have ht : PySem.W.tabIn K x = some (c, Pt) := by
    unfold PySem.W.tabIn
    rw [a]
    dsimp only
    rw [l]
    dsimp only
    rw [hc]
    dsimp only
    rw [m]
    dsimp only
    rw [p]
  have key := PySem.W.tab_of TP X hd ht
  refine ⟨fun p hp => ?_, fun p hp => ?_, fun p hp => ?_⟩
  · rcases List.mem_cons.mp hp with e | e
    · rw [e]
      exact key.2
    · exact T.at_ p e
  · rcases List.mem_cons.mp hp with e | e
    · rw [e]
      exact n0
    · exact T.off p e
  · rcases List.mem_cons.mp hp with e | e
    · rw [e]
      exact key.1
    · exact T.hd p e
theorem room_un {k : Nat} {A : Around} (h : Room k A) : A.units + 65 < cLine := by
  have := h.un
  omega
theorem room_un1 {k : Nat} {A : Around} (h : Room k A) : A.units + 1 < cLine := by
  have := h.un
  omega
theorem mkB_hd {base : Heap} {mg : Str → Option Value} {a : Addr × Addr × Str} {cs : Mk} (h : MkB base mg (a :: cs)) : LamX.TabB base mg a.1 a.2.1 := h a (List.mem_cons_self ..)
theorem mkB_tl {base : Heap} {mg : Str → Option Value} {a : Addr × Addr × Str} {cs : Mk} (h : MkB base mg (a :: cs)) : MkB base mg cs := fun p hp => h p (List.mem_cons_of_mem _ hp)
theorem mak_of {M : Lm} {mg : Str → Option Value} {base : Heap} {cdv : Value} {c Pt : Addr} {n : Str} (e : cdv = .ref c) (h : LamX.TabB base mg c Pt) (hm : (M.tabs.contains (Pt, n)) = true) (hu : (M.tabs.all fun p => !(p.1 == Pt) || p.2 == n) = true) : Mak M mg base cdv n := by
  refine ⟨c, Pt, e, h, by simpa using hm, fun p hp q => ?_⟩
  have r := List.all_eq_true.mp hu p hp
  rw [q] at r
  simpa using r
end Sm
/-! Sm33: d.get. -/
namespace Sm
open PySem PySem.Spec PyProof.Rows L2
section
variable {X : Cx} {M : Lm} {W : WX}
def rGetK : V → List V → Hp → VK → Prop := fun x xs H Q => ∃ (a : Addr) (kvs : List (Key × V)) (k : Key) (d : V), x = .ref a ∧ ((xs = [kV k] ∧ d = .non) ∨ xs = [kV k, d]) ∧ H a = some (.dK kvs) ∧ Q ((valV kvs k).getD d) H
theorem mt_getK (hu : X.A.units + 1 < cLine) : MtR X "dict.get" rGetK := by
  intro pins s σ H x xs v us Q I rx rxs h
  obtain ⟨a, kvs, k, d, rfl, hx, ha, q⟩ := h
  obtain rfl : v = Value.ref a := rx
  have g : DGet H a (kV k) (valV kvs k) := DGet.k ha
  rcases hx with ⟨rfl, rfl⟩ | rfl
  · cases rxs with
    | cons r t =>
      cases t
      exact d_get1 hu I g r fun w' s' I' rw' => ⟨_, H, I', rw', q⟩
  · cases rxs with
    | cons r t =>
      cases t with
      | cons r2 t2 =>
        cases t2
        exact d_get2 hu I g r r2 fun w' s' I' rw' => ⟨_, H, I', rw', q⟩
def getDM (l : List (D × D)) (k d : D) (S : Sto) : Res D := ixL (dkey k) fun _ => .ok ((lookD l k).getD d) S
def getM : Mt := fun d as S => match as with
  | [k] => ixL (getP d S) fun l => getDM l k .non S
  | [k, x] => ixL (getP d S) fun l => getDM l k x S
  | _ => .bad
theorem get_ok (hu : X.A.units + 1 < cLine) : MtR X "dict.get" (rMt X.K M W getM) := mt_of fun d as x xs z σ' Q k qa qs h => by
  have core : ∀ (i e : D) (y w : V) (l : List (D × D)) (a : Addr) (kvs : List (Key × V)), EncA X.K M z i y → EncA X.K M z e w → EncP X.K M z.H z.ow l kvs → z.H a = some (.dK kvs) → Out X.K M (EncA X.K M) W σ' z Q (getDM l i e z.S) → ∃ q, y = kV q ∧ Q ((valV kvs q).getD w) z.H := by
    intro i e y w l a kvs qi qe ql ha h
    unfold getDM at h
    cases hk : dkey i with
    | none =>
      rw [hk] at h
      exact h.elim
    | some q =>
      rw [hk] at h
      have e1 := key_enc qi hk
      have lk := lookD_enc hk ql
      refine ⟨q, e1, ?_⟩
      have h2 : Out X.K M (EncA X.K M) W σ' z Q (.ok ((lookD l i).getD e) z.S) := h
      cases hl : lookD l i with
      | none =>
        rw [hl] at h2
        rw [lk.2 hl]
        exact h2 z w rfl (Ext.refl z) k qe
      | some d2 =>
        rw [hl] at h2
        obtain ⟨v2, e2, q2⟩ := lk.1 d2 hl
        rw [e2]
        exact h2 z v2 rfl (Ext.refl z) k (.of q2)
  match as, qs, h with
  | [i], qs, h =>
    obtain ⟨y, rfl, qy⟩ := encAs1 qs
    have h' : Out X.K M (EncA X.K M) W σ' z Q (ixL (getP d z.S) fun l => getDM l i .non z.S) := h
    cases hp : getP d z.S with
    | none =>
      rw [hp] at h'
      exact h'.elim
    | some l =>
      rw [hp] at h'
      obtain ⟨a, kvs, rfl, ha, hl⟩ := getP_ok k qa hp
      obtain ⟨q, e1, r⟩ := core i .non y .non l a kvs qy (.of .non) hl ha h'
      exact ⟨_, mt_getK hu, a, kvs, q, .non, rfl, .inl ⟨by rw [e1], rfl⟩, ha, r⟩
  | [i, e], qs, h =>
    obtain ⟨y, w, rfl, qy, qw⟩ := encAs2 qs
    have h' : Out X.K M (EncA X.K M) W σ' z Q (ixL (getP d z.S) fun l => getDM l i e z.S) := h
    cases hp : getP d z.S with
    | none =>
      rw [hp] at h'
      exact h'.elim
    | some l =>
      rw [hp] at h'
      obtain ⟨a, kvs, rfl, ha, hl⟩ := getP_ok k qa hp
      obtain ⟨q, e1, r⟩ := core i e y w l a kvs qy qw hl ha h'
      exact ⟨_, mt_getK hu, a, kvs, q, w, rfl, .inr (by rw [e1]), ha, r⟩
end
section
variable {S : Sto} {R : D → Sto → Prop} {E : D → Sto → Prop}
theorem o_get2 {d k x y : D} {l : List (D × D)} {q : Key} (hl : getP d S = some l) (hk : dkey k = some q) (e : (lookD l k).getD x = y) (h : R y S) : OKR (getM d [k, x] S) R E := by
  show OKR (ixL (getP d S) fun l => getDM l k x S) R E
  rw [hl]
  show OKR (getDM l k x S) R E
  unfold getDM
  rw [hk]
  rw [← e] at h
  exact h
end
end Sm
/-! Sm34: k in d. -/
namespace Sm
open PySem PySem.Spec PyProof.Rows L2
section
variable {X : Cx} {M : Lm} {W : WX}
def rInP (neg : Bool) : R2 := fun x y H Q => ∃ (a : Addr) (kvs : List (Key × V)) (k : Key), x = kV k ∧ y = .ref a ∧ H a = some (.dK kvs) ∧ Q (.bl (if neg then !(valV kvs k).isSome else (valV kvs k).isSome)) H
theorem op_inP0 (hu : X.A.units + 1 < cLine) : OpR X (compareOp .In) (rInP false) := by
  intro pins s σ H x y v u Q I rx ry h
  obtain ⟨a, kvs, k, rfl, rfl, ha, q⟩ := h
  obtain rfl : u = Value.ref a := ry
  exact d_in hu I (DGet.k ha) rx fun s3 I3 => ⟨.bl _, H, I3, rfl, q⟩
theorem op_notInP0 (hu : X.A.units + 1 < cLine) : OpR X (compareOp .NotIn) (rInP true) := by
  intro pins s σ H x y v u Q I rx ry h
  obtain ⟨a, kvs, k, rfl, rfl, ha, q⟩ := h
  obtain rfl : u = Value.ref a := ry
  exact d_notIn hu I (DGet.k ha) rx fun s3 I3 => ⟨.bl _, H, I3, rfl, q⟩
def inPD (neg : Bool) (a b : D) (S : Sto) : Res D := ixL (getP b S) fun l => ixL (dkey a) fun _ => .ok (.bl (if neg then !(lookD l a).isSome else (lookD l a).isSome)) S
theorem inP_core {neg : Bool} {a b : D} {x y : V} {z : Sg} {σ' : St} {Q : VK} (k : SOk X.K M z) (qa : EncA X.K M z a x) (qb : EncA X.K M z b y) (h : Out X.K M (EncA X.K M) W σ' z Q (inPD neg a b z.S)) : rInP neg x y z.H Q := by
  unfold inPD at h
  cases hp : getP b z.S with
  | none =>
    rw [hp] at h
    exact h.elim
  | some l =>
    rw [hp] at h
    obtain ⟨ad, kvs, rfl, ha, hl⟩ := getP_ok k qb hp
    cases hk : dkey a with
    | none =>
      rw [hk] at h
      exact h.elim
    | some q =>
      rw [hk] at h
      have e1 := key_enc qa hk
      have lk := lookD_enc hk hl
      have e : (valV kvs q).isSome = (lookD l a).isSome := by
        cases r : lookD l a with
        | none =>
          rw [lk.2 r]
          rfl
        | some d =>
          obtain ⟨v, e2, _⟩ := lk.1 d r
          rw [e2]
          rfl
      refine ⟨ad, kvs, q, e1, rfl, ha, ?_⟩
      rw [e]
      exact out_bl k h
theorem inP_ok (hu : X.A.units + 1 < cLine) : OpR X (compareOp .In) (rOp X.K M W (inPD false)) := op_of fun a b x y z σ' Q k qa qb h => ⟨_, op_inP0 hu, inP_core k qa qb h⟩
theorem notInP_ok (hu : X.A.units + 1 < cLine) : OpR X (compareOp .NotIn) (rOp X.K M W (inPD true)) := op_of fun a b x y z σ' Q k qa qb h => ⟨_, op_notInP0 hu, inP_core k qa qb h⟩
end
section
variable {S : Sto} {R : D → Sto → Prop} {E : D → Sto → Prop}
theorem o_inP {neg : Bool} {a b : D} {l : List (D × D)} {q : Key} {r : Bool} (hl : getP b S = some l) (hk : dkey a = some q) (e : (lookD l a).isSome = r) (h : R (.bl (if neg then !r else r)) S) : OKR (inPD neg a b S) R E := by
  unfold inPD
  rw [hl, hk]
  show OKR (.ok (.bl (if neg then !(lookD l a).isSome else (lookD l a).isSome)) S) R E
  rw [e]
  exact h
end
/-! a tuple beside the empty one -/
section
variable {X : Cx} {M : Lm} {W : WX}
def rEqE (K : PySem.W.Frag) : R2 := fun x y H Q => ∃ (a b : Addr) (xs : List V), x = .ref a ∧ y = .ref b ∧ SqT K H a xs ∧ SqT K H b [] ∧ Q (.bl xs.isEmpty) H
theorem op_eqE0 (hu : X.A.units + 64 < cLine) : OpR X (compareOp .Eq) (rEqE X.K) := by
  intro pins s σ H x y v u Q I rx ry h
  obtain ⟨a, b, xs, rfl, rfl, ha, hb, q⟩ := h
  obtain rfl : v = Value.ref a := rx
  obtain rfl : u = Value.ref b := ry
  obtain ⟨us, r1, ⟨o1, g1, c1, d1⟩, _⟩ := I.tuple ha
  obtain ⟨ws, r2, ⟨o2, g2, c2, d2⟩, _⟩ := I.tuple hb
  cases r2
  refine PySem.SeqAt.eq_tupleAt (e := fun _ => true) (items := us.toArray) (items2 := #[]) ⟨o1, g1, c1, d1⟩ ⟨o2, g2, c2, d2⟩ (by omega) (fun j h1 h2 => absurd h2 (Nat.not_lt_zero j)) (fin_bl I q ?_)
  cases r1 with
  | nil => rfl
  | cons _ _ => simp
def eqED (a b : D) (S : Sto) : Res D := match a, b with
  | .tup l, .tup [] => .ok (.bl l.isEmpty) S
  | a, b => eqD a b S
theorem eqE_ok (hu : X.A.units + 64 < cLine) : OpR X (compareOp .Eq) (rOp X.K M W eqED) := op_of fun a b x y z σ' Q k qa qb h => by
  have gen : eqED a b z.S = eqD a b z.S → ∃ r, OpR X (compareOp .Eq) r ∧ r x y z.H Q := fun e => ⟨_, eq_ok hu, z, a, b, σ', rfl, k, qa, qb, by rw [← e]; exact h⟩
  cases a with
  | tup l =>
    cases b with
    | tup l2 =>
      cases l2 with
      | nil =>
        have h' : Out X.K M (EncA X.K M) W σ' z Q (.ok (.bl l.isEmpty) z.S) := h
        cases qa with
        | of qa =>
          cases qb with
          | of qb =>
            cases qa with
            | tup ra la =>
              cases qb with
              | tup rb lb =>
                cases lb
                refine ⟨_, op_eqE0 hu, _, _, _, rfl, rfl, ra, rb, ?_⟩
                have e : ∀ (l : List D) (vs : List V), EncL X.K M z.H z.ow l vs → l.isEmpty = vs.isEmpty := fun _ _ la => by cases la <;> rfl
                rw [← e _ _ la]
                exact out_bl k h'
      | cons _ _ => exact gen rfl
    | _ => exact gen rfl
  | _ => exact gen rfl
end
section
variable {S : Sto} {R : D → Sto → Prop} {E : D → Sto → Prop}
theorem o_eqE {l : List D} (h : R (.bl l.isEmpty) S) : OKR (eqED (.tup l) (.tup []) S) R E := h
end
theorem FnS.bad {P : Program} {w : World} {K : PySem.W.Frag} {M : Lm} {mg : Str → Option Value} {base : Heap} {k : Nat} {f : Addr} {fd : FuncData} {ps : List Str} : FnS P w K M mg base k f fd ps (fun _ _ => .bad) :=
  ⟨fun _ _ _ => rfl, fun A outer s H args us vs Q E hr hg e0 hb r hsp => by
    obtain ⟨as, z, rfl, kz, hla, hq, hout⟩ := hsp
    exact hout.elim⟩
end Sm
/-! Sm35: list(range(..)), tuple(range(..)), list(..) as one's own. -/
namespace Sm
open PySem PySem.Spec PyProof.Rows L2
section
variable {K : PySem.W.Frag} {M : Lm} {z : Sg}
theorem enc_ints {H : Hp} {ow : Addr → Prop} : ∀ l : List Int, EncL K M H ow (l.map D.int) (l.map V.int)
  | [] => .nil
  | i :: l => .cons (.int i) (enc_ints l)
theorem rangeL_eq : ∀ (n : Nat) (lo : Int), rangeL lo n = ((List.range n).map fun i => lo + (i : Nat)).map D.int
  | 0, _ => rfl
  | n + 1, lo => by
    rw [rangeL, rangeL_eq n, List.range_succ_eq_map, List.map_cons, List.map_cons, List.map_map, List.map_map, List.map_map]
    congr 1
    · simp
    · refine List.map_congr_left fun i _ => ?_
      simp only [Function.comp]
      congr 1
      omega
theorem rgV_eq (a b : Int) : rgV a b = ((List.range (b - a).toNat).map fun i => a + (i : Nat)).map V.int := by
  unfold rgV
  rw [List.map_map]
  rfl
theorem enc_rg {H : Hp} {ow : Addr → Prop} (a b : Int) : EncL K M H ow (rangeL a (b - a).toNat) (rgV a b) := by
  rw [rangeL_eq, rgV_eq]
  exact enc_ints _
end
def rgOkB (a b : Int) : Bool := decide (-(2 ^ 62) ≤ a) && (decide (a < 2 ^ 62) && (decide (-(2 ^ 62) ≤ b) && (decide (b < 2 ^ 62) && decide ((b - a).toNat ≤ 2 ^ 24))))
theorem rgOk_of {a b : Int} (h : rgOkB a b = true) : RgOk a b := by
  unfold rgOkB at h
  rw [Bool.and_eq_true, Bool.and_eq_true, Bool.and_eq_true, Bool.and_eq_true, decide_eq_true_iff, decide_eq_true_iff, decide_eq_true_iff, decide_eq_true_iff, decide_eq_true_iff] at h
  exact ⟨h.1, h.2.1, h.2.2.1, h.2.2.2.1, h.2.2.2.2⟩
/-- what is made of a range: a list, one's own list, a tuple -/
def mkL (l : List D) (S : Sto) : Res D := .ok (.lst l) S
def mkO (l : List D) (S : Sto) : Res D := .ok (.ref S.length) (S ++ [.lst false l])
def mkT (l : List D) (S : Sto) : Res D := .ok (.tup l) S
def rg1F (mk : List D → Sto → Res D) (f : Env → Sto → Res D) : Env → Sto → Res D := fun env S => (f env S).bind fun d S1 => match d with
  | .int j => if rgOkB 0 j = true then mk (rangeL 0 (j - 0).toNat) S1 else .bad
  | _ => .bad
def rg2F (mk : List D → Sto → Res D) (f g : Env → Sto → Res D) : Env → Sto → Res D := fun env S => (f env S).bind fun d S1 => (g env S1).bind fun e S2 => match d, e with
  | .int i, .int j => if rgOkB i j = true then mk (rangeL i (j - i).toNat) S2 else .bad
  | _, _ => .bad
section
variable {X : Cx} {M : Lm} {W : WX}
theorem t_rg1 {f : Env → Sto → Res D} {mk : List D → Sto → Res D} {R : Int → Int → Hp → VK → Prop} {σ : St} {H : Hp} {Q : VK}
    (hR : ∀ (z : Sg) (a b : Int), SOk X.K M z → rgOkB a b = true → Out X.K M (EncA X.K M) W σ z Q (mk (rangeL a (b - a).toNat) z.S) → R a b z.H Q)
    (h : tE X.K M W (rg1F mk f) σ H Q) : tRg1 (tE X.K M W f) σ H fun a b H1 => R a b H1 Q := by
  obtain ⟨env, z, rfl, k, v, h⟩ := h
  refine ⟨env, z, rfl, k, v, (Out.bind h).imp fun b H1 q => ?_⟩
  obtain ⟨d, z1, rfl, _, x, k1, q, h1⟩ := q
  cases d with
  | int j =>
    rw [encA_int q]
    have h1' : Out X.K M (EncA X.K M) W σ z1 Q (if rgOkB 0 j = true then mk (rangeL 0 (j - 0).toNat) z1.S else Res.bad) := h1
    by_cases c : rgOkB 0 j = true
    · rw [if_pos c] at h1'
      exact ⟨j, rfl, hR z1 0 j k1 c h1'⟩
    · rw [if_neg c] at h1'
      exact h1'.elim
  | _ => exact h1.elim
theorem t_rg2 {f g : Env → Sto → Res D} {mk : List D → Sto → Res D} {R : Int → Int → Hp → VK → Prop} {σ : St} {H : Hp} {Q : VK}
    (hR : ∀ (z : Sg) (a b : Int), SOk X.K M z → rgOkB a b = true → Out X.K M (EncA X.K M) W σ z Q (mk (rangeL a (b - a).toNat) z.S) → R a b z.H Q)
    (h : tE X.K M W (rg2F mk f g) σ H Q) : tRg2 (tE X.K M W f) (tE X.K M W g) σ H fun a b H1 => R a b H1 Q := by
  obtain ⟨env, z, rfl, k, v, h⟩ := h
  refine ⟨env, z, rfl, k, v, (Out.bind h).imp fun b H1 q => ?_⟩
  obtain ⟨d, z1, rfl, _, x, k1, q, h1⟩ := q
  refine ⟨env, z1, rfl, k1, v.ext x, (Out.bind h1).imp fun b2 H2 q2 => ?_⟩
  obtain ⟨e, z2, rfl, _, x2, k2, q2, h2⟩ := q2
  have q' := q.ext x2
  match d, e, q', q2, h2 with
  | .int i, .int j, q', q2, h2 =>
    rw [encA_int q', encA_int q2]
    have h2' : Out X.K M (EncA X.K M) W σ z2 Q (if rgOkB i j = true then mk (rangeL i (j - i).toNat) z2.S else Res.bad) := h2
    by_cases c : rgOkB i j = true
    · rw [if_pos c] at h2'
      exact ⟨i, j, rfl, rfl, hR z2 i j k2 c h2'⟩
    · rw [if_neg c] at h2'
      exact h2'.elim
theorem s_lstR1 {a : Expr} {f : Env → Sto → Res D} {p p2 pos pos2 : Pos} (hc : X.calm = true) (bl : X.mg "list" = none) (br : X.mg "range" = none) (ha : SE X M W a f) (hg : Gl X "list" := by rfl) (hg2 : Gl X "range" := by rfl) (na : starEach [a] X.env = (false, eval a X.env) :: starEach [] X.env := by rfl)
    (na2 : starEach [.Call (.Name "range" p2) [a] [] pos2] X.env = (false, eval (.Call (.Name "range" p2) [a] [] pos2) X.env) :: starEach [] X.env := by rfl) : SE X M W (.Call (.Name "list" p) [.Call (.Name "range" p2) [a] [] pos2] [] pos) (rg1F mkL f) :=
  pe_imp (pe_listRg hc hg bl (prg_1 hg2 br ha na) na2) fun σ H Q h => t_rg1 (R := fun a b H1 Q => RgOk a b ∧ ∀ q, H1 q = none → Q (.ref q) (upd H1 q (.lst (rgV a b)))) (fun z a b k c h => ⟨rgOk_of c, out_lst k (enc_rg a b) h⟩) h
theorem s_lstR1O {a : Expr} {f : Env → Sto → Res D} {p p2 pos pos2 : Pos} (hc : X.calm = true) (bl : X.mg "list" = none) (br : X.mg "range" = none) (ha : SE X M W a f) (hg : Gl X "list" := by rfl) (hg2 : Gl X "range" := by rfl) (na : starEach [a] X.env = (false, eval a X.env) :: starEach [] X.env := by rfl)
    (na2 : starEach [.Call (.Name "range" p2) [a] [] pos2] X.env = (false, eval (.Call (.Name "range" p2) [a] [] pos2) X.env) :: starEach [] X.env := by rfl) : SE X M W (.Call (.Name "list" p) [.Call (.Name "range" p2) [a] [] pos2] [] pos) (rg1F mkO f) :=
  pe_imp (pe_listRg hc hg bl (prg_1 hg2 br ha na) na2) fun σ H Q h => t_rg1 (R := fun a b H1 Q => RgOk a b ∧ ∀ q, H1 q = none → Q (.ref q) (upd H1 q (.lst (rgV a b)))) (fun z a b k c h => ⟨rgOk_of c, out_own k (enc_rg a b) h⟩) h
theorem s_tupR1 {a : Expr} {f : Env → Sto → Res D} {p p2 pos pos2 : Pos} (hc : X.calm = true) (bl : X.mg "tuple" = none) (br : X.mg "range" = none) (ha : SE X M W a f) (hg : Gl X "tuple" := by rfl) (hg2 : Gl X "range" := by rfl) (na : starEach [a] X.env = (false, eval a X.env) :: starEach [] X.env := by rfl)
    (na2 : starEach [.Call (.Name "range" p2) [a] [] pos2] X.env = (false, eval (.Call (.Name "range" p2) [a] [] pos2) X.env) :: starEach [] X.env := by rfl) : SE X M W (.Call (.Name "tuple" p) [.Call (.Name "range" p2) [a] [] pos2] [] pos) (rg1F mkT f) :=
  pe_imp (pe_tupRg hc hg bl (prg_1 hg2 br ha na) na2) fun σ H Q h => t_rg1 (R := fun a b H1 Q => RgOk a b ∧ ∀ q, H1 q = none → Q (.ref q) (upd H1 q (.tup (rgV a b)))) (fun z a b k c h => ⟨rgOk_of c, out_tup k (enc_rg a b) h⟩) h
theorem s_lstR2 {a b : Expr} {f g : Env → Sto → Res D} {p p2 pos pos2 : Pos} (hc : X.calm = true) (bl : X.mg "list" = none) (br : X.mg "range" = none) (ha : SE X M W a f) (hb : SE X M W b g) (hg : Gl X "list" := by rfl) (hg2 : Gl X "range" := by rfl) (na : starEach [a, b] X.env = (false, eval a X.env) :: starEach [b] X.env := by rfl)
    (nb : starEach [b] X.env = (false, eval b X.env) :: starEach [] X.env := by rfl) (hp : (backTo pos2 (starEach [b] X.env)).any (·.1) = false := by rfl)
    (na2 : starEach [.Call (.Name "range" p2) [a, b] [] pos2] X.env = (false, eval (.Call (.Name "range" p2) [a, b] [] pos2) X.env) :: starEach [] X.env := by rfl) : SE X M W (.Call (.Name "list" p) [.Call (.Name "range" p2) [a, b] [] pos2] [] pos) (rg2F mkL f g) :=
  pe_imp (pe_listRg hc hg bl (prg_2 hg2 br ha hb na nb hp) na2) fun σ H Q h => t_rg2 (R := fun a b H1 Q => RgOk a b ∧ ∀ q, H1 q = none → Q (.ref q) (upd H1 q (.lst (rgV a b)))) (fun z a b k c h => ⟨rgOk_of c, out_lst k (enc_rg a b) h⟩) h
theorem s_lstR2O {a b : Expr} {f g : Env → Sto → Res D} {p p2 pos pos2 : Pos} (hc : X.calm = true) (bl : X.mg "list" = none) (br : X.mg "range" = none) (ha : SE X M W a f) (hb : SE X M W b g) (hg : Gl X "list" := by rfl) (hg2 : Gl X "range" := by rfl) (na : starEach [a, b] X.env = (false, eval a X.env) :: starEach [b] X.env := by rfl)
    (nb : starEach [b] X.env = (false, eval b X.env) :: starEach [] X.env := by rfl) (hp : (backTo pos2 (starEach [b] X.env)).any (·.1) = false := by rfl)
    (na2 : starEach [.Call (.Name "range" p2) [a, b] [] pos2] X.env = (false, eval (.Call (.Name "range" p2) [a, b] [] pos2) X.env) :: starEach [] X.env := by rfl) : SE X M W (.Call (.Name "list" p) [.Call (.Name "range" p2) [a, b] [] pos2] [] pos) (rg2F mkO f g) :=
  pe_imp (pe_listRg hc hg bl (prg_2 hg2 br ha hb na nb hp) na2) fun σ H Q h => t_rg2 (R := fun a b H1 Q => RgOk a b ∧ ∀ q, H1 q = none → Q (.ref q) (upd H1 q (.lst (rgV a b)))) (fun z a b k c h => ⟨rgOk_of c, out_own k (enc_rg a b) h⟩) h
theorem s_tupR2 {a b : Expr} {f g : Env → Sto → Res D} {p p2 pos pos2 : Pos} (hc : X.calm = true) (bl : X.mg "tuple" = none) (br : X.mg "range" = none) (ha : SE X M W a f) (hb : SE X M W b g) (hg : Gl X "tuple" := by rfl) (hg2 : Gl X "range" := by rfl) (na : starEach [a, b] X.env = (false, eval a X.env) :: starEach [b] X.env := by rfl)
    (nb : starEach [b] X.env = (false, eval b X.env) :: starEach [] X.env := by rfl) (hp : (backTo pos2 (starEach [b] X.env)).any (·.1) = false := by rfl)
    (na2 : starEach [.Call (.Name "range" p2) [a, b] [] pos2] X.env = (false, eval (.Call (.Name "range" p2) [a, b] [] pos2) X.env) :: starEach [] X.env := by rfl) : SE X M W (.Call (.Name "tuple" p) [.Call (.Name "range" p2) [a, b] [] pos2] [] pos) (rg2F mkT f g) :=
  pe_imp (pe_tupRg hc hg bl (prg_2 hg2 br ha hb na nb hp) na2) fun σ H Q h => t_rg2 (R := fun a b H1 Q => RgOk a b ∧ ∀ q, H1 q = none → Q (.ref q) (upd H1 q (.tup (rgV a b)))) (fun z a b k c h => ⟨rgOk_of c, out_tup k (enc_rg a b) h⟩) h
/-- list(..): one's own copy -/
def listO : Fn := fun as S => match as with
  | [.tup l] => mkO l S
  | [d] => match getL d S with
    | some l => mkO l S
    | none => .bad
  | _ => .bad
theorem listO_ok : CallR X (.type "list") (rCl X.K M W listO) := call_of fun as xs z σ' Q k qa h => by
  unfold listO at h
  split at h
  · obtain ⟨v, rfl, q⟩ := encAs1 qa
    obtain ⟨a, vs, rfl, hs, hl⟩ := encA_tup q
    exact ⟨_, call_list_of, a, vs, rfl, .inr hs, out_own k hl h⟩
  · obtain ⟨v, rfl, q⟩ := encAs1 qa
    rename_i d _
    cases g : getL d z.S with
    | none =>
      rw [g] at h
      exact h.elim
    | some l =>
      rw [g] at h
      obtain ⟨a, vs, rfl, hs, hl⟩ := getL_ok k q g
      exact ⟨_, call_list_of, a, vs, rfl, .inl hs, out_own k hl h⟩
  · exact h.elim
end
section
variable {S : Sto} {env : Env} {R : D → Sto → Prop} {E : D → Sto → Prop} {f g : Env → Sto → Res D} {mk : List D → Sto → Res D}
theorem o_rg1 (h : OKR (f env S) (fun d S1 => ∃ j, d = .int j ∧ rgOkB 0 j = true ∧ OKR (mk (rangeL 0 (j - 0).toNat) S1) R E) E) : OKR (rg1F mk f env S) R E := o_bind (h.mono (fun d S1 q => by
  obtain ⟨j, rfl, c, q⟩ := q
  show OKR (if rgOkB 0 j = true then mk (rangeL 0 (j - 0).toNat) S1 else .bad) R E
  rw [if_pos c]
  exact q) fun _ _ q => q)
theorem o_rg2 (h : OKR (f env S) (fun d S1 => OKR (g env S1) (fun e S2 => ∃ i j, d = .int i ∧ e = .int j ∧ rgOkB i j = true ∧ OKR (mk (rangeL i (j - i).toNat) S2) R E) E) E) : OKR (rg2F mk f g env S) R E := o_bind (h.mono (fun d S1 q => o_bind (q.mono (fun e S2 q => by
  obtain ⟨i, j, rfl, rfl, c, q⟩ := q
  show OKR (if rgOkB i j = true then mk (rangeL i (j - i).toNat) S2 else .bad) R E
  rw [if_pos c]
  exact q) fun _ _ q => q)) fun _ _ q => q)
theorem o_mkL {l : List D} (h : R (.lst l) S) : OKR (mkL l S) R E := h
theorem o_mkT {l : List D} (h : R (.tup l) S) : OKR (mkT l S) R E := h
theorem o_mkO {l : List D} (h : R (.ref S.length) (S ++ [.lst false l])) : OKR (mkO l S) R E := h
theorem rgOkB_of {a b : Int} (h0 : -1000000 ≤ a) (h1 : a ≤ 1000000) (h2 : -1000000 ≤ b) (h3 : b ≤ 1000000) : rgOkB a b = true := by
  unfold rgOkB
  rw [decide_eq_true (by omega), decide_eq_true (by omega), decide_eq_true (by omega), decide_eq_true (by omega), decide_eq_true (by omega)]
  rfl
theorem and_g {a b : Int} {A : Prop} (e : rgOkB a b = true) (h : A) : rgOkB a b = true ∧ A := ⟨e, h⟩
theorem ex_g1 {x : Int} {A : Int → Prop} (e : rgOkB 0 x = true) (h : A x) : ∃ j, D.int x = .int j ∧ rgOkB 0 j = true ∧ A j := ⟨x, rfl, e, h⟩
theorem ex_g2 {x y : Int} {A : Int → Int → Prop} (e : rgOkB x y = true) (h : A x y) : ∃ i j, D.int x = .int i ∧ D.int y = .int j ∧ rgOkB i j = true ∧ A i j := ⟨x, y, rfl, rfl, e, h⟩
end
end Sm
/-! Sm36: the walk's rules, picked by what stands in the goal. -/
namespace Sm
open PySem PySem.Spec PyProof.Rows L2
class Rule (G : Prop) (C : outParam Prop) : Prop where
  out : C → G
class RuleS (G : Prop) (C : outParam Prop) : Prop where
  out : C → G
section
variable {α β : Type} {P : α → Sto → Prop} {E : D → Sto → Prop} {S : Sto} {env : Env} {N B C : Env → Sto → Prop} {T : D → Sto → Prop} {X : D → Env → Sto → Prop} {R : D → Sto → Prop} {f g h : Env → Sto → Res D}
instance r_o_con {d : D} : Rule (OKR (conF d env S) R E) (R d S) := ⟨fun h => o_con h⟩
end
section
variable {α β : Type} {P : α → Sto → Prop} {E : D → Sto → Prop} {S : Sto} {env : Env} {N B C : Env → Sto → Prop} {T : D → Sto → Prop} {X : D → Env → Sto → Prop} {R : D → Sto → Prop} {f g h : Env → Sto → Res D}
instance r_o_bin {o : D → D → Sto → Res D} : Rule (OKR (binF o f g env S) R E) (OKR (f env S) (fun x S1 => OKR (g env S1) (fun y S2 => OKR (o x y S2) R E) E) E) := ⟨fun h => o_bin h⟩
end
section
variable {α β : Type} {P : α → Sto → Prop} {E : D → Sto → Prop} {S : Sto} {env : Env} {N B C : Env → Sto → Prop} {T : D → Sto → Prop} {X : D → Env → Sto → Prop} {R : D → Sto → Prop} {f g h : Env → Sto → Res D}
instance r_o_call {m : Fn} {k : Env → Sto → Res (List D)} : Rule (OKR (callF m k env S) R E) (OKR (k env S) (fun as S1 => OKR (m as S1) R E) E) := ⟨fun h => o_call h⟩
end
section
variable {α β : Type} {P : α → Sto → Prop} {E : D → Sto → Prop} {S : Sto} {env : Env} {N B C : Env → Sto → Prop} {T : D → Sto → Prop} {X : D → Env → Sto → Prop} {R : D → Sto → Prop} {f g h : Env → Sto → Res D}
instance r_o_nil {R : List D → Sto → Prop} : Rule (OKR (nilA env S) R E) (R [] S) := ⟨fun h => o_nil h⟩
end
section
variable {α β : Type} {P : α → Sto → Prop} {E : D → Sto → Prop} {S : Sto} {env : Env} {N B C : Env → Sto → Prop} {T : D → Sto → Prop} {X : D → Env → Sto → Prop} {R : D → Sto → Prop} {f g h : Env → Sto → Res D}
instance r_o_cons {k : Env → Sto → Res (List D)} {R : List D → Sto → Prop} : Rule (OKR (consA f k env S) R E) (OKR (f env S) (fun d S1 => OKR (k env S1) (fun l S2 => R (d :: l) S2) E) E) := ⟨fun h => o_cons h⟩
end
section
variable {α β : Type} {P : α → Sto → Prop} {E : D → Sto → Prop} {S : Sto} {env : Env} {N B C : Env → Sto → Prop} {T : D → Sto → Prop} {X : D → Env → Sto → Prop} {R : D → Sto → Prop} {f g h : Env → Sto → Res D}
instance r_o_neg  : Rule (OKR (negF f env S) R E) (OKR (f env S) (fun d S1 => ∃ i, d = .int i ∧ R (.int (-i)) S1) E) := ⟨fun h => o_neg h⟩
end
section
variable {α β : Type} {P : α → Sto → Prop} {E : D → Sto → Prop} {S : Sto} {env : Env} {N B C : Env → Sto → Prop} {T : D → Sto → Prop} {X : D → Env → Sto → Prop} {R : D → Sto → Prop} {f g h : Env → Sto → Res D}
instance r_o_not  : Rule (OKR (notV f env S) R E) (OKR (f env S) (fun d S1 => Bl d fun b => R (.bl (!b)) S1) E) := ⟨fun h => o_not h⟩
end
section
variable {α β : Type} {P : α → Sto → Prop} {E : D → Sto → Prop} {S : Sto} {env : Env} {N B C : Env → Sto → Prop} {T : D → Sto → Prop} {X : D → Env → Sto → Prop} {R : D → Sto → Prop} {f g h : Env → Sto → Res D}
instance r_o_and  : Rule (OKR (andV f g env S) R E) (OKR (f env S) (fun d S1 => Bl d fun b => Br b (OKR (g env S1) R E) (R (.bl false) S1)) E) := ⟨fun h => o_and h⟩
end
section
variable {α β : Type} {P : α → Sto → Prop} {E : D → Sto → Prop} {S : Sto} {env : Env} {N B C : Env → Sto → Prop} {T : D → Sto → Prop} {X : D → Env → Sto → Prop} {R : D → Sto → Prop} {f g h : Env → Sto → Res D}
instance r_o_or  : Rule (OKR (orV f g env S) R E) (OKR (f env S) (fun d S1 => Bl d fun b => Br b (R (.bl true) S1) (OKR (g env S1) R E)) E) := ⟨fun h => o_or h⟩
end
section
variable {α β : Type} {P : α → Sto → Prop} {E : D → Sto → Prop} {S : Sto} {env : Env} {N B C : Env → Sto → Prop} {T : D → Sto → Prop} {X : D → Env → Sto → Prop} {R : D → Sto → Prop} {f g h : Env → Sto → Res D}
instance r_o_ite {t : Env → Sto → Res Bool} : Rule (OKR (iteF t f g env S) R E) (OKR (t env S) (fun b S1 => Br b (OKR (f env S1) R E) (OKR (g env S1) R E)) E) := ⟨fun h => o_ite h⟩
end
section
variable {α β : Type} {P : α → Sto → Prop} {E : D → Sto → Prop} {S : Sto} {env : Env} {N B C : Env → Sto → Prop} {T : D → Sto → Prop} {X : D → Env → Sto → Prop} {R : D → Sto → Prop} {f g h : Env → Sto → Res D}
instance r_o_chain {o p : D → D → Sto → Res D} : Rule (OKR (chainF o p f g h env S) R E) (OKR (f env S) (fun x S1 => OKR (g env S1) (fun y S2 => OKR (o x y S2) (fun d S3 => Bl d fun b => Br b (OKR (h env S3) (fun w S4 => OKR (p y w S4) R E) E) (R (.bl false) S3)) E) E) E) := ⟨fun h => o_chain h⟩
end
section
variable {α β : Type} {P : α → Sto → Prop} {E : D → Sto → Prop} {S : Sto} {env : Env} {N B C : Env → Sto → Prop} {T : D → Sto → Prop} {X : D → Env → Sto → Prop} {R : D → Sto → Prop} {f g h : Env → Sto → Res D}
instance r_o_tup {k : Env → Sto → Res (List D)} : Rule (OKR (tupF k env S) R E) (OKR (k env S) (fun l S1 => OKR (frzL l S1) (fun l S2 => l.length ≤ LINE ∧ R (.tup l) S2) E) E) := ⟨fun h => o_tup h⟩
end
section
variable {α β : Type} {P : α → Sto → Prop} {E : D → Sto → Prop} {S : Sto} {env : Env} {N B C : Env → Sto → Prop} {T : D → Sto → Prop} {X : D → Env → Sto → Prop} {R : D → Sto → Prop} {f g h : Env → Sto → Res D}
instance r_o_lst {k : Env → Sto → Res (List D)} : Rule (OKR (lstF k env S) R E) (OKR (k env S) (fun l S1 => OKR (frzL l S1) (fun l S2 => l.length ≤ LINE ∧ R (.lst l) S2) E) E) := ⟨fun h => o_lst h⟩
end
section
variable {α β : Type} {P : α → Sto → Prop} {E : D → Sto → Prop} {S : Sto} {env : Env} {N B C : Env → Sto → Prop} {T : D → Sto → Prop} {X : D → Env → Sto → Prop} {R : D → Sto → Prop} {f g h : Env → Sto → Res D}
instance r_o_lstO {k : Env → Sto → Res (List D)} : Rule (OKR (lstO k env S) R E) (OKR (k env S) (fun l S1 => OKR (frzL l S1) (fun l S2 => l.length ≤ LINE ∧ R (.ref S2.length) (S2 ++ [.lst false l])) E) E) := ⟨fun h => o_lstO h⟩
end
section
variable {α β : Type} {P : α → Sto → Prop} {E : D → Sto → Prop} {S : Sto} {env : Env} {N B C : Env → Sto → Prop} {T : D → Sto → Prop} {X : D → Env → Sto → Prop} {R : D → Sto → Prop} {f g h : Env → Sto → Res D}
instance r_o_frz0 {R : List D → Sto → Prop} : Rule (OKR (frzL [] S) R E) (R [] S) := ⟨fun h => o_frz0 h⟩
end
section
variable {α β : Type} {P : α → Sto → Prop} {E : D → Sto → Prop} {S : Sto} {env : Env} {N B C : Env → Sto → Prop} {T : D → Sto → Prop} {X : D → Env → Sto → Prop} {R : D → Sto → Prop} {f g h : Env → Sto → Res D}
instance r_o_frzc {d : D} {l : List D} {R : List D → Sto → Prop} : Rule (OKR (frzL (d :: l) S) R E) (OKR (frz1 d S) (fun d S1 => OKR (frzL l S1) (fun l S2 => R (d :: l) S2) E) E) := ⟨fun h => o_frzc h⟩
end
section
variable {α β : Type} {P : α → Sto → Prop} {E : D → Sto → Prop} {S : Sto} {env : Env} {N B C : Env → Sto → Prop} {T : D → Sto → Prop} {X : D → Env → Sto → Prop} {R : D → Sto → Prop} {f g h : Env → Sto → Res D}
instance r_o_mt {t : Ty} {m : Mt} {k : Env → Sto → Res (List D)} : Rule (OKR (mtF t m f k env S) R E) (OKR (f env S) (fun d S1 => hasTy t d S1 = true ∧ OKR (k env S1) (fun as S2 => OKR (m d as S2) R E) E) E) := ⟨fun h => o_mt h⟩
end
section
variable {α β : Type} {P : α → Sto → Prop} {E : D → Sto → Prop} {S : Sto} {env : Env} {N B C : Env → Sto → Prop} {T : D → Sto → Prop} {X : D → Env → Sto → Prop} {R : D → Sto → Prop} {f g h : Env → Sto → Res D}
instance r_o_mt0 {t : Ty} {m : Mt} : Rule (OKR (mtF0 t m f env S) R E) (OKR (f env S) (fun d S1 => hasTy t d S1 = true ∧ OKR (m d [] S1) R E) E) := ⟨fun h => o_mt0 h⟩
end
section
variable {α β : Type} {P : α → Sto → Prop} {E : D → Sto → Prop} {S : Sto} {env : Env} {N B C : Env → Sto → Prop} {T : D → Sto → Prop} {X : D → Env → Sto → Prop} {R : D → Sto → Prop} {f g h : Env → Sto → Res D}
instance r_o_slice {lo hi : Env → Sto → Res (Option Int)} : Rule (OKR (sliceF f lo hi env S) R E) (OKR (f env S) (fun a S1 => OKR (lo env S1) (fun l S2 => OKR (hi env S2) (fun h S3 => OKR (cutD a l h S3) R E) E) E) E) := ⟨fun h => o_slice h⟩
end
section
variable {α β : Type} {P : α → Sto → Prop} {E : D → Sto → Prop} {S : Sto} {env : Env} {N B C : Env → Sto → Prop} {T : D → Sto → Prop} {X : D → Env → Sto → Prop} {R : D → Sto → Prop} {f g h : Env → Sto → Res D}
instance r_o_nopart {R : Option Int → Sto → Prop} : Rule (OKR (noPart env S) R E) (R none S) := ⟨fun h => o_nopart h⟩
end
section
variable {α β : Type} {P : α → Sto → Prop} {E : D → Sto → Prop} {S : Sto} {env : Env} {N B C : Env → Sto → Prop} {T : D → Sto → Prop} {X : D → Env → Sto → Prop} {R : D → Sto → Prop} {f g h : Env → Sto → Res D}
instance r_o_part {R : Option Int → Sto → Prop} : Rule (OKR (partF f env S) R E) (OKR (f env S) (fun d S1 => ∃ i, d = .int i ∧ R (some i) S1) E) := ⟨fun h => o_part h⟩
end
section
variable {α β : Type} {P : α → Sto → Prop} {E : D → Sto → Prop} {S : Sto} {env : Env} {N B C : Env → Sto → Prop} {T : D → Sto → Prop} {X : D → Env → Sto → Prop} {R : D → Sto → Prop} {f g h : Env → Sto → Res D}
instance r_o_rev  : Rule (OKR (revF f env S) R E) (OKR (f env S) (fun a S1 => ∃ l, getL a S1 = some l ∧ R (.lst l.reverse) S1) E) := ⟨fun h => o_rev h⟩
end
section
variable {α β : Type} {P : α → Sto → Prop} {E : D → Sto → Prop} {S : Sto} {env : Env} {N B C : Env → Sto → Prop} {T : D → Sto → Prop} {X : D → Env → Sto → Prop} {R : D → Sto → Prop} {f g h : Env → Sto → Res D}
instance r_o_dic0  : Rule (OKR (dic0 env S) R E) (R (.dic []) S) := ⟨fun h => o_dic0 h⟩
end
section
variable {α β : Type} {P : α → Sto → Prop} {E : D → Sto → Prop} {S : Sto} {env : Env} {N B C : Env → Sto → Prop} {T : D → Sto → Prop} {X : D → Env → Sto → Prop} {R : D → Sto → Prop} {f g h : Env → Sto → Res D}
instance r_o_dicO  : Rule (OKR (dicO env S) R E) (R (.ref S.length) (S ++ [.dic false []])) := ⟨fun h => o_dicO h⟩
end
section
variable {α β : Type} {P : α → Sto → Prop} {E : D → Sto → Prop} {S : Sto} {env : Env} {N B C : Env → Sto → Prop} {T : D → Sto → Prop} {X : D → Env → Sto → Prop} {R : D → Sto → Prop} {f g h : Env → Sto → Res D}
instance r_o_isB {R : Bool → Sto → Prop} : Rule (OKR (isB f env S) R E) (OKR (f env S) (fun d S1 => Bl d fun b => R b S1) E) := ⟨fun h => o_isB h⟩
end
section
variable {α β : Type} {P : α → Sto → Prop} {E : D → Sto → Prop} {S : Sto} {env : Env} {N B C : Env → Sto → Prop} {T : D → Sto → Prop} {X : D → Env → Sto → Prop} {R : D → Sto → Prop} {f g h : Env → Sto → Res D}
instance r_o_andT {f g : Env → Sto → Res Bool} {R : Bool → Sto → Prop} : Rule (OKR (andT f g env S) R E) (OKR (f env S) (fun b S1 => Br b (OKR (g env S1) R E) (R false S1)) E) := ⟨fun h => o_andT h⟩
end
section
variable {α β : Type} {P : α → Sto → Prop} {E : D → Sto → Prop} {S : Sto} {env : Env} {N B C : Env → Sto → Prop} {T : D → Sto → Prop} {X : D → Env → Sto → Prop} {R : D → Sto → Prop} {f g h : Env → Sto → Res D}
instance r_o_orT {f g : Env → Sto → Res Bool} {R : Bool → Sto → Prop} : Rule (OKR (orT f g env S) R E) (OKR (f env S) (fun b S1 => Br b (R true S1) (OKR (g env S1) R E)) E) := ⟨fun h => o_orT h⟩
end
section
variable {α β : Type} {P : α → Sto → Prop} {E : D → Sto → Prop} {S : Sto} {env : Env} {N B C : Env → Sto → Prop} {T : D → Sto → Prop} {X : D → Env → Sto → Prop} {R : D → Sto → Prop} {f g h : Env → Sto → Res D}
instance r_o_notT {f : Env → Sto → Res Bool} {R : Bool → Sto → Prop} : Rule (OKR (notT f env S) R E) (OKR (f env S) (fun b S1 => R (!b) S1) E) := ⟨fun h => o_notT h⟩
end
section
variable {α β : Type} {P : α → Sto → Prop} {E : D → Sto → Prop} {S : Sto} {env : Env} {N B C : Env → Sto → Prop} {T : D → Sto → Prop} {X : D → Env → Sto → Prop} {R : D → Sto → Prop} {f g h : Env → Sto → Res D}
instance r_o_yes {R : Bool → Sto → Prop} : Rule (OKR (yesF env S) R E) (R true S) := ⟨fun h => o_yes h⟩
end
section
variable {α β : Type} {P : α → Sto → Prop} {E : D → Sto → Prop} {S : Sto} {env : Env} {N B C : Env → Sto → Prop} {T : D → Sto → Prop} {X : D → Env → Sto → Prop} {R : D → Sto → Prop} {f g h : Env → Sto → Res D}
instance r_bl_mk {x : Bool} {R : Bool → Prop} : Rule (Bl (.bl x) R) (R x) := ⟨fun h => bl_mk h⟩
end
section
variable {α β : Type} {P : α → Sto → Prop} {E : D → Sto → Prop} {S : Sto} {env : Env} {N B C : Env → Sto → Prop} {T : D → Sto → Prop} {X : D → Env → Sto → Prop} {R : D → Sto → Prop} {f g h : Env → Sto → Res D}
instance r_br_t {A B : Prop} : Rule (Br true A B) (A) := ⟨fun h => br_t h⟩
end
section
variable {α β : Type} {P : α → Sto → Prop} {E : D → Sto → Prop} {S : Sto} {env : Env} {N B C : Env → Sto → Prop} {T : D → Sto → Prop} {X : D → Env → Sto → Prop} {R : D → Sto → Prop} {f g h : Env → Sto → Res D}
instance r_br_f {A B : Prop} : Rule (Br false A B) (B) := ⟨fun h => br_f h⟩
end
section
variable {α β : Type} {P : α → Sto → Prop} {E : D → Sto → Prop} {S : Sto} {env : Env} {N B C : Env → Sto → Prop} {T : D → Sto → Prop} {X : D → Env → Sto → Prop} {R : D → Sto → Prop} {f g h : Env → Sto → Res D}
instance r_br_not {x : Bool} {A B : Prop} : Rule (Br (!x) A B) (Br x B A) := ⟨fun h => br_not h⟩
end
section
variable {E : D → Sto → Prop} {S : Sto} {R : D → Sto → Prop} {env : Env}
instance r_br_self {α : Type} [DecidableEq α] {x : α} {A B : Prop} : Rule (Br (decide (x = x)) A B) (A) := ⟨fun h => br_self h⟩
end
section
variable {α β : Type} {P : α → Sto → Prop} {E : D → Sto → Prop} {S : Sto} {env : Env} {N B C : Env → Sto → Prop} {T : D → Sto → Prop} {X : D → Env → Sto → Prop} {R : D → Sto → Prop} {f g h : Env → Sto → Res D}
instance r_o_lc {own : List Nat} {it : Env → Sto → Res Itm} {t : Tgt} {c : Env → Sto → Res Bool} {e : Env → Sto → Res D} : Rule (OKR (lcF own it t c e env S) R E) (OKR (it env S) (fun J S1 => J.l.length ≤ LINE ∧ OKR (lcL t c e J.g J.o (wipeE env own) J.l S1) (fun l S2 => R (.lst l) S2) E) E) := ⟨fun h => o_lc h⟩
end
section
variable {α β : Type} {P : α → Sto → Prop} {E : D → Sto → Prop} {S : Sto} {env : Env} {N B C : Env → Sto → Prop} {T : D → Sto → Prop} {X : D → Env → Sto → Prop} {R : D → Sto → Prop} {f g h : Env → Sto → Res D}
instance r_o_lcO {own : List Nat} {it : Env → Sto → Res Itm} {t : Tgt} {c : Env → Sto → Res Bool} {e : Env → Sto → Res D} : Rule (OKR (lcO own it t c e env S) R E) (OKR (it env S) (fun J S1 => J.l.length ≤ LINE ∧ OKR (lcL t c e J.g J.o (wipeE env own) J.l S1) (fun l S2 => R (.ref S2.length) (S2 ++ [.lst false l])) E) E) := ⟨fun h => o_lcO h⟩
end
section
variable {α β : Type} {P : α → Sto → Prop} {E : D → Sto → Prop} {S : Sto} {env : Env} {N B C : Env → Sto → Prop} {T : D → Sto → Prop} {X : D → Env → Sto → Prop} {R : D → Sto → Prop} {f g h : Env → Sto → Res D}
instance r_o_itR1 {k : Env → Sto → Res (List D)} {R : Itm → Sto → Prop} : Rule (OKR (itR1 k env S) R E) (OKR (k env S) (fun as S1 => ∃ j, as = [.int j] ∧ isSm j = true ∧ R ⟨rangeL 0 j.toNat, none, none⟩ S1) E) := ⟨fun h => o_itR1 h⟩
end
section
variable {α β : Type} {P : α → Sto → Prop} {E : D → Sto → Prop} {S : Sto} {env : Env} {N B C : Env → Sto → Prop} {T : D → Sto → Prop} {X : D → Env → Sto → Prop} {R : D → Sto → Prop} {f g h : Env → Sto → Res D}
instance r_o_itR2 {k : Env → Sto → Res (List D)} {R : Itm → Sto → Prop} : Rule (OKR (itR2 k env S) R E) (OKR (k env S) (fun as S1 => ∃ i j, as = [.int i, .int j] ∧ (isSm i && isSm j) = true ∧ R ⟨rangeL i (j - i).toNat, none, none⟩ S1) E) := ⟨fun h => o_itR2 h⟩
end
section
variable {α β : Type} {P : α → Sto → Prop} {E : D → Sto → Prop} {S : Sto} {env : Env} {N B C : Env → Sto → Prop} {T : D → Sto → Prop} {X : D → Env → Sto → Prop} {R : D → Sto → Prop} {f g h : Env → Sto → Res D}
instance r_o_itS {R : Itm → Sto → Prop} : Rule (OKR (itS f env S) R E) (OKR (f env S) (fun d S1 => Sq d S1 R) E) := ⟨fun h => o_itS h⟩
end
section
variable {α β : Type} {P : α → Sto → Prop} {E : D → Sto → Prop} {S : Sto} {env : Env} {N B C : Env → Sto → Prop} {T : D → Sto → Prop} {X : D → Env → Sto → Prop} {R : D → Sto → Prop} {f g h : Env → Sto → Res D}
instance r_o_itE {k : Env → Sto → Res (List D)} {R : Itm → Sto → Prop} : Rule (OKR (itE k env S) R E) (OKR (k env S) (fun as S1 => SqE as S1 R) E) := ⟨fun h => o_itE h⟩
end
section
variable {α β : Type} {P : α → Sto → Prop} {E : D → Sto → Prop} {S : Sto} {env : Env} {N B C : Env → Sto → Prop} {T : D → Sto → Prop} {X : D → Env → Sto → Prop} {R : D → Sto → Prop} {f g h : Env → Sto → Res D}
instance r_o_add {i j : Int} : Rule (OKR (addD (.int i) (.int j) S) R E) (R (.int (i + j)) S) := ⟨fun h => o_add h⟩
end
section
variable {α β : Type} {P : α → Sto → Prop} {E : D → Sto → Prop} {S : Sto} {env : Env} {N B C : Env → Sto → Prop} {T : D → Sto → Prop} {X : D → Env → Sto → Prop} {R : D → Sto → Prop} {f g h : Env → Sto → Res D}
instance r_o_sub {i j : Int} : Rule (OKR (subD (.int i) (.int j) S) R E) (R (.int (i - j)) S) := ⟨fun h => o_sub h⟩
end
section
variable {α β : Type} {P : α → Sto → Prop} {E : D → Sto → Prop} {S : Sto} {env : Env} {N B C : Env → Sto → Prop} {T : D → Sto → Prop} {X : D → Env → Sto → Prop} {R : D → Sto → Prop} {f g h : Env → Sto → Res D}
instance r_o_lt {i j : Int} : Rule (OKR (ltD (.int i) (.int j) S) R E) (R (.bl (decide (i < j))) S) := ⟨fun h => o_lt h⟩
end
section
variable {α β : Type} {P : α → Sto → Prop} {E : D → Sto → Prop} {S : Sto} {env : Env} {N B C : Env → Sto → Prop} {T : D → Sto → Prop} {X : D → Env → Sto → Prop} {R : D → Sto → Prop} {f g h : Env → Sto → Res D}
instance r_o_le {i j : Int} : Rule (OKR (leD (.int i) (.int j) S) R E) (R (.bl (decide (i ≤ j))) S) := ⟨fun h => o_le h⟩
end
section
variable {α β : Type} {P : α → Sto → Prop} {E : D → Sto → Prop} {S : Sto} {env : Env} {N B C : Env → Sto → Prop} {T : D → Sto → Prop} {X : D → Env → Sto → Prop} {R : D → Sto → Prop} {f g h : Env → Sto → Res D}
instance r_o_gt {i j : Int} : Rule (OKR (gtD (.int i) (.int j) S) R E) (R (.bl (decide (j < i))) S) := ⟨fun h => o_gt h⟩
end
section
variable {α β : Type} {P : α → Sto → Prop} {E : D → Sto → Prop} {S : Sto} {env : Env} {N B C : Env → Sto → Prop} {T : D → Sto → Prop} {X : D → Env → Sto → Prop} {R : D → Sto → Prop} {f g h : Env → Sto → Res D}
instance r_o_ge {i j : Int} : Rule (OKR (geD (.int i) (.int j) S) R E) (R (.bl (decide (j ≤ i))) S) := ⟨fun h => o_ge h⟩
end
section
variable {E : D → Sto → Prop} {S : Sto} {R : D → Sto → Prop} {env : Env}
instance r_o_inS {c : Nat} {s : List Nat} : Rule (OKR (inD false (.str [c]) (.str s) S) R E) (R (.bl (decide (c ∈ s))) S) := ⟨fun h => o_inS h⟩
end
section
variable {E : D → Sto → Prop} {S : Sto} {R : D → Sto → Prop} {env : Env}
instance r_o_ninS {c : Nat} {s : List Nat} : Rule (OKR (inD true (.str [c]) (.str s) S) R E) (R (.bl (!decide (c ∈ s))) S) := ⟨fun h => o_ninS h⟩
end
section
variable {E : D → Sto → Prop} {S : Sto} {R : D → Sto → Prop} {env : Env}
instance r_o_eqS {a b : List Nat} : Rule (OKR (eqD (.str a) (.str b) S) R E) (R (.bl (decide (a = b))) S) := ⟨fun h => o_eqS h⟩
end
section
variable {E : D → Sto → Prop} {S : Sto} {R : D → Sto → Prop} {env : Env}
instance r_o_neS {a b : List Nat} : Rule (OKR (neD (.str a) (.str b) S) R E) (R (.bl (!decide (a = b))) S) := ⟨fun h => o_neS h⟩
end
section
variable {E : D → Sto → Prop} {S : Sto} {R : D → Sto → Prop} {env : Env}
instance r_o_eqI {a b : Int} : Rule (OKR (eqD (.int a) (.int b) S) R E) (R (.bl (decide (a = b))) S) := ⟨fun h => o_eqI h⟩
end
section
variable {E : D → Sto → Prop} {S : Sto} {R : D → Sto → Prop} {env : Env}
instance r_o_neI {a b : Int} : Rule (OKR (neD (.int a) (.int b) S) R E) (R (.bl (!decide (a = b))) S) := ⟨fun h => o_neI h⟩
end
section

instance r_ex_int {x : Int} {A : Int → Prop} : Rule (∃ i, D.int x = .int i ∧ A i) (A x) := ⟨fun h => ex_int h⟩
end
section
variable {α β : Type} {P : α → Sto → Prop} {E : D → Sto → Prop} {S : Sto} {env : Env} {N B C : Env → Sto → Prop} {T : D → Sto → Prop} {X : D → Env → Sto → Prop} {R : D → Sto → Prop} {f g h : Env → Sto → Res D}
instance r_sq_lst {l : List D} {R : Itm → Sto → Prop} : Rule (Sq (.lst l) S R) (R ⟨l, none, none⟩ S) := ⟨fun h => sq_lst h⟩
end
section
variable {α β : Type} {P : α → Sto → Prop} {E : D → Sto → Prop} {S : Sto} {env : Env} {N B C : Env → Sto → Prop} {T : D → Sto → Prop} {X : D → Env → Sto → Prop} {R : D → Sto → Prop} {f g h : Env → Sto → Res D}
instance r_sq_tup {l : List D} {R : Itm → Sto → Prop} : Rule (Sq (.tup l) S R) (R ⟨l, none, none⟩ S) := ⟨fun h => sq_tup h⟩
end
section
variable {α β : Type} {P : α → Sto → Prop} {E : D → Sto → Prop} {S : Sto} {env : Env} {N B C : Env → Sto → Prop} {T : D → Sto → Prop} {X : D → Env → Sto → Prop} {R : D → Sto → Prop} {f g h : Env → Sto → Res D}
instance r_sq_str {s : List Nat} {R : Itm → Sto → Prop} : Rule (Sq (.str s) S R) (R ⟨sgL s, none, none⟩ S) := ⟨fun h => sq_str h⟩
end
section
variable {α β : Type} {P : α → Sto → Prop} {E : D → Sto → Prop} {S : Sto} {env : Env} {N B C : Env → Sto → Prop} {T : D → Sto → Prop} {X : D → Env → Sto → Prop} {R : D → Sto → Prop} {f g h : Env → Sto → Res D}
instance r_sqe_lst {l : List D} {R : Itm → Sto → Prop} : Rule (SqE [.lst l] S R) (R ⟨enumL 0 l, none, none⟩ S) := ⟨fun h => sqe_lst h⟩
end
section
variable {S : Sto} {E : D → Sto → Prop} {R : D → Sto → Prop}
instance r_o_abs {i : Int} : Rule (OKR (absM [.int i] S) R E) (R (.int i.natAbs) S) := ⟨fun h => o_abs h⟩
end
section
variable {S : Sto} {E : D → Sto → Prop} {R : D → Sto → Prop} {env : Env}
instance r_o_intI {i : Int} : Rule (OKR (intM [.int i] S) R E) (R (.int i) S) := ⟨fun h => o_intI h⟩
end
section
variable {S : Sto} {E : D → Sto → Prop} {R : D → Sto → Prop} {env : Env}
instance r_o_intB {b : Bool} : Rule (OKR (intM [.bl b] S) R E) (R (.int (if b = true then 1 else 0)) S) := ⟨fun h => o_intB h⟩
end
section
variable {S : Sto} {E : D → Sto → Prop} {R : D → Sto → Prop} {env : Env}
instance r_o_min2 {i j : Int} : Rule (OKR (min2M [.int i, .int j] S) R E) (R (.int (if j < i then j else i)) S) := ⟨fun h => o_min2 h⟩
end
section
variable {S : Sto} {E : D → Sto → Prop} {R : D → Sto → Prop} {env : Env}
instance r_o_max2 {i j : Int} : Rule (OKR (max2M [.int i, .int j] S) R E) (R (.int (if j > i then j else i)) S) := ⟨fun h => o_max2 h⟩
end
section
variable {S : Sto} {E : D → Sto → Prop} {R : D → Sto → Prop} {env : Env}
instance r_o_fC {f : Env → Sto → Res D} {fs : List (Env → Sto → Res D)} {Q : List D → Sto → Prop} : Rule (OKF (f :: fs) env S Q) (OKR (f env S) (fun d S1 => OKF fs env S1 fun ds S2 => Q (d :: ds) S2) fun _ _ => False) := ⟨fun h => o_fC h⟩
end
section
variable {S : Sto} {E : D → Sto → Prop} {R : D → Sto → Prop} {env : Env}
instance r_o_fN {Q : List D → Sto → Prop} : Rule (OKF [] env S Q) (Q [] S) := ⟨fun h => o_fN h⟩
end
section
variable {S : Sto} {E : D → Sto → Prop} {R : D → Sto → Prop} {env : Env} {f : Env → Sto → Res D}
instance r_o_mdIn {l : List (List Nat × D)} {neg : Bool} : Rule (OKR (mdIn l neg f env S) R E) (OKR (f env S) (fun d S1 => ∃ s, d = .str s ∧ R (.bl (if neg then !(lookM l s).isSome else (lookM l s).isSome)) S1) E) := ⟨fun h => o_mdIn h⟩
end
section
variable {S : Sto} {E : D → Sto → Prop} {R : D → Sto → Prop} {env : Env} {f : Env → Sto → Res D}
instance r_o_mdIx {l : List (List Nat × D)} : Rule (OKR (mdIx l f env S) R E) (OKR (f env S) (fun d S1 => ∃ s x, d = .str s ∧ lookM l s = some x ∧ R x S1) E) := ⟨fun h => o_mdIx h⟩
end
section
variable {S : Sto} {E : D → Sto → Prop} {R : D → Sto → Prop} {env : Env} {f : Env → Sto → Res D}
instance r_ex_str {s : List Nat} {A : List Nat → Prop} : Rule (∃ t, D.str s = .str t ∧ A t) (A s) := ⟨fun h => ex_str h⟩
end
section
variable {α β : Type} {S S1 : Sto} {P : α → Sto → Prop} {E : D → Sto → Prop} {N B C : Env → Sto → Prop} {T : D → Sto → Prop} {X : D → Env → Sto → Prop} {env : Env} {R : D → Sto → Prop}
instance r_o_lcC {t : Tgt} {c : Env → Sto → Res Bool} {e : Env → Sto → Res D} {o : Option Ob} {d : D} {r : List D} {Q : List D → Sto → Prop} : Rule (OKR (lcL t c e none o env (d :: r) S) Q E) (∃ env1, t.put d env = some env1 ∧ OKR (c env1 S) (fun b S1 => Br b (OKR (e env1 S1) (fun v S2 => OKR (frz1 v S2) (fun w S3 => OKR (lcL t c e none o env r S3) (fun l S4 => Q (w :: l) S4) E) fun _ _ => False) fun _ _ => False) (OKR (lcL t c e none o env r S1) Q E)) fun _ _ => False) := ⟨fun h => o_lcC h⟩
end
section
variable {α β : Type} {S S1 : Sto} {P : α → Sto → Prop} {E : D → Sto → Prop} {N B C : Env → Sto → Prop} {T : D → Sto → Prop} {X : D → Env → Sto → Prop} {env : Env} {R : D → Sto → Prop}
instance r_o_lcN {t : Tgt} {c : Env → Sto → Res Bool} {e : Env → Sto → Res D} {o : Option Ob} {Q : List D → Sto → Prop} : Rule (OKR (lcL t c e none o env [] S) Q E) (Q [] S) := ⟨fun h => o_lcN h⟩
end
section
variable {α β : Type} {P : α → Sto → Prop} {E : D → Sto → Prop} {S : Sto} {env : Env} {N B C : Env → Sto → Prop} {T : D → Sto → Prop} {X : D → Env → Sto → Prop} {R : D → Sto → Prop} {f g h : Env → Sto → Res D}
instance r_o_nofin {n : Nat} {d : D} {S' : Sto} : Rule (OKR (if false = true then fin n d S' else .ok d S') R E) (R d S') := ⟨fun h => o_nofin h⟩
end
section
variable {α β : Type} {P : α → Sto → Prop} {E : D → Sto → Prop} {S : Sto} {env : Env} {N B C : Env → Sto → Prop} {T : D → Sto → Prop} {X : D → Env → Sto → Prop} {R : D → Sto → Prop} {f g h : Env → Sto → Res D}
instance r_o_seq {f g : Env → Sto → SR} : RuleS (OKS (seqF f g env S) N B C T X) (OKS (f env S) (fun e S1 => OKS (g e S1) N B C T X) B C T X) := ⟨fun h => o_seq h⟩
end
section
variable {α β : Type} {P : α → Sto → Prop} {E : D → Sto → Prop} {S : Sto} {env : Env} {N B C : Env → Sto → Prop} {T : D → Sto → Prop} {X : D → Env → Sto → Prop} {R : D → Sto → Prop} {f g h : Env → Sto → Res D}
instance r_o_set {i : Nat} : RuleS (OKS (setF i f env S) N B C T X) (OKR (f env S) (fun d S1 => N (env.set i (some d)) S1) fun e S1 => X e env S1) := ⟨fun h => o_set h⟩
end
section
variable {α β : Type} {P : α → Sto → Prop} {E : D → Sto → Prop} {S : Sto} {env : Env} {N B C : Env → Sto → Prop} {T : D → Sto → Prop} {X : D → Env → Sto → Prop} {R : D → Sto → Prop} {f g h : Env → Sto → Res D}
instance r_o_ret  : RuleS (OKS (retF f env S) N B C T X) (OKR (f env S) (fun d S1 => T d S1) fun e S1 => X e env S1) := ⟨fun h => o_ret h⟩
end
section
variable {α β : Type} {P : α → Sto → Prop} {E : D → Sto → Prop} {S : Sto} {env : Env} {N B C : Env → Sto → Prop} {T : D → Sto → Prop} {X : D → Env → Sto → Prop} {R : D → Sto → Prop} {f g h : Env → Sto → Res D}
instance r_o_retN  : RuleS (OKS (retN env S) N B C T X) (T .non S) := ⟨fun h => o_retN h⟩
end
section
variable {α β : Type} {P : α → Sto → Prop} {E : D → Sto → Prop} {S : Sto} {env : Env} {N B C : Env → Sto → Prop} {T : D → Sto → Prop} {X : D → Env → Sto → Prop} {R : D → Sto → Prop} {f g h : Env → Sto → Res D}
instance r_o_drop  : RuleS (OKS (dropF f env S) N B C T X) (OKR (f env S) (fun d S1 => N env S1) fun e S1 => X e env S1) := ⟨fun h => o_drop h⟩
end
section
variable {α β : Type} {P : α → Sto → Prop} {E : D → Sto → Prop} {S : Sto} {env : Env} {N B C : Env → Sto → Prop} {T : D → Sto → Prop} {X : D → Env → Sto → Prop} {R : D → Sto → Prop} {f g h : Env → Sto → Res D}
instance r_o_nop  : RuleS (OKS (nopF env S) N B C T X) (N env S) := ⟨fun h => o_nop h⟩
end
section
variable {α β : Type} {P : α → Sto → Prop} {E : D → Sto → Prop} {S : Sto} {env : Env} {N B C : Env → Sto → Prop} {T : D → Sto → Prop} {X : D → Env → Sto → Prop} {R : D → Sto → Prop} {f g h : Env → Sto → Res D}
instance r_o_brk  : RuleS (OKS (brkF env S) N B C T X) (B env S) := ⟨fun h => o_brk h⟩
end
section
variable {α β : Type} {P : α → Sto → Prop} {E : D → Sto → Prop} {S : Sto} {env : Env} {N B C : Env → Sto → Prop} {T : D → Sto → Prop} {X : D → Env → Sto → Prop} {R : D → Sto → Prop} {f g h : Env → Sto → Res D}
instance r_o_cnt  : RuleS (OKS (cntF env S) N B C T X) (C env S) := ⟨fun h => o_cnt h⟩
end
section
variable {α β : Type} {P : α → Sto → Prop} {E : D → Sto → Prop} {S : Sto} {env : Env} {N B C : Env → Sto → Prop} {T : D → Sto → Prop} {X : D → Env → Sto → Prop} {R : D → Sto → Prop} {f g h : Env → Sto → Res D}
instance r_o_if {t : Env → Sto → Res Bool} {f g : Env → Sto → SR} : RuleS (OKS (ifF t f g env S) N B C T X) (OKR (t env S) (fun b S1 => Br b (OKS (f env S1) N B C T X) (OKS (g env S1) N B C T X)) fun e S1 => X e env S1) := ⟨fun h => o_if h⟩
end
section
variable {α β : Type} {P : α → Sto → Prop} {E : D → Sto → Prop} {S : Sto} {env : Env} {N B C : Env → Sto → Prop} {T : D → Sto → Prop} {X : D → Env → Sto → Prop} {R : D → Sto → Prop} {f g h : Env → Sto → Res D}
instance r_o_par {is : List Nat} {k : Env → Sto → Res (List D)} : RuleS (OKS (parF is k env S) N B C T X) (OKR (k env S) (fun as S1 => as.length = is.length ∧ N (parF.putAll is as env) S1) fun e S1 => X e env S1) := ⟨fun h => o_par h⟩
end
section
variable {α β : Type} {P : α → Sto → Prop} {E : D → Sto → Prop} {S : Sto} {env : Env} {N B C : Env → Sto → Prop} {T : D → Sto → Prop} {X : D → Env → Sto → Prop} {R : D → Sto → Prop} {f g h : Env → Sto → Res D}
instance r_o_unp {t : Tgt} : RuleS (OKS (unpF t f env S) N B C T X) (OKR (f env S) (fun d S1 => ∃ env1, t.put d env = some env1 ∧ N env1 S1) fun e S1 => X e env S1) := ⟨fun h => o_unp h⟩
end
section
variable {α β : Type} {P : α → Sto → Prop} {E : D → Sto → Prop} {S : Sto} {env : Env} {N B C : Env → Sto → Prop} {T : D → Sto → Prop} {X : D → Env → Sto → Prop} {R : D → Sto → Prop} {f g h : Env → Sto → Res D}
instance r_o_put {o i e : Env → Sto → Res D} : RuleS (OKS (putF o i e env S) N B C T X) (OKR (e env S) (fun v S1 => OKR (o env S1) (fun a S2 => OKR (i env S2) (fun b S3 => OKR (setD a b v S3) (fun _ S4 => N env S4) fun e S1 => X e env S1) fun e S1 => X e env S1) fun e S1 => X e env S1) fun e S1 => X e env S1) := ⟨fun h => o_put h⟩
end
section
variable {α β : Type} {P : α → Sto → Prop} {E : D → Sto → Prop} {S : Sto} {env : Env} {N B C : Env → Sto → Prop} {T : D → Sto → Prop} {X : D → Env → Sto → Prop} {R : D → Sto → Prop} {f g h : Env → Sto → Res D}
instance r_o_for {it : Env → Sto → Res Itm} {t : Tgt} {b : Env → Sto → SR} : RuleS (OKS (itF it t b env S) N B C T X) (OKR (it env S) (fun J S1 => OKS (forL t b J.g J.o J.l env S1) N B C T X) fun e S1 => X e env S1) := ⟨fun h => o_for h⟩
end
section
variable {α β : Type} {S S1 : Sto} {P : α → Sto → Prop} {E : D → Sto → Prop} {N B C : Env → Sto → Prop} {T : D → Sto → Prop} {X : D → Env → Sto → Prop} {env : Env} {R : D → Sto → Prop}
instance r_o_raise {k : Nat} : RuleS (OKS (raiseF k env S) N B C T X) (X (.exc k []) env S) := ⟨fun h => o_raise h⟩
end
section
variable {α β : Type} {S S1 : Sto} {P : α → Sto → Prop} {E : D → Sto → Prop} {N B C : Env → Sto → Prop} {T : D → Sto → Prop} {X : D → Env → Sto → Prop} {env : Env} {R : D → Sto → Prop}
instance r_o_try {isA : Nat → Option Bool} {i j : Nat} {f : Env → Sto → SR} : RuleS (OKS (tryF isA i j f env S) N B C T X) (OKS (f env S) N B C T fun e env1 S1 => Caught isA e (N ((env1.set j (some e)).set i none) S1) (X e env1 S1)) := ⟨fun h => o_try h⟩
end
section
variable {S : Sto} {env : Env} {R : D → Sto → Prop} {E : D → Sto → Prop} {f g : Env → Sto → Res D} {mk : List D → Sto → Res D}
instance r_o_rg1  : Rule (OKR (rg1F mk f env S) R E) (OKR (f env S) (fun d S1 => ∃ j, d = .int j ∧ rgOkB 0 j = true ∧ OKR (mk (rangeL 0 (j - 0).toNat) S1) R E) E) := ⟨fun h => o_rg1 h⟩
end
section
variable {S : Sto} {env : Env} {R : D → Sto → Prop} {E : D → Sto → Prop} {f g : Env → Sto → Res D} {mk : List D → Sto → Res D}
instance r_o_rg2  : Rule (OKR (rg2F mk f g env S) R E) (OKR (f env S) (fun d S1 => OKR (g env S1) (fun e S2 => ∃ i j, d = .int i ∧ e = .int j ∧ rgOkB i j = true ∧ OKR (mk (rangeL i (j - i).toNat) S2) R E) E) E) := ⟨fun h => o_rg2 h⟩
end
section
variable {S : Sto} {env : Env} {R : D → Sto → Prop} {E : D → Sto → Prop} {f g : Env → Sto → Res D} {mk : List D → Sto → Res D}
instance r_o_mkL {l : List D} : Rule (OKR (mkL l S) R E) (R (.lst l) S) := ⟨fun h => o_mkL h⟩
end
section
variable {S : Sto} {env : Env} {R : D → Sto → Prop} {E : D → Sto → Prop} {f g : Env → Sto → Res D} {mk : List D → Sto → Res D}
instance r_o_mkT {l : List D} : Rule (OKR (mkT l S) R E) (R (.tup l) S) := ⟨fun h => o_mkT h⟩
end
section
variable {S : Sto} {env : Env} {R : D → Sto → Prop} {E : D → Sto → Prop} {f g : Env → Sto → Res D} {mk : List D → Sto → Res D}
instance r_o_mkO {l : List D} : Rule (OKR (mkO l S) R E) (R (.ref S.length) (S ++ [.lst false l])) := ⟨fun h => o_mkO h⟩
end
instance r_var {i : Nat} {env : Env} {S : Sto} {R E : D → Sto → Prop} : Rule (OKR (varF i env S) R E) (∃ d, env[i]? = some (some d) ∧ R d S) := ⟨fun ⟨_, e, h⟩ => o_var e h⟩
theorem ex_var {a : Option (Option D)} {A : D → Prop} {d : D} (e : a = some (some d)) (h : A d) : ∃ d, a = some (some d) ∧ A d := ⟨d, e, h⟩
end Sm
/-! Sm37: guards of the walk. -/
namespace Sm
open PySem PySem.Spec PyProof.Rows L2
/-- goals for which a rule asks something more -/
class HasC (G : Prop) : Prop where
  go : G → G
section
variable {α : Type} {S S' : Sto} {env : Env} {R E : D → Sto → Prop} {N B C : Env → Sto → Prop} {T : D → Sto → Prop} {X : D → Env → Sto → Prop}
instance {d : D} : HasC (OKR (frz1 d S) R E) := ⟨id⟩
instance {d : D} {d2 : D} : HasC (OKR (ixD d d2 S) R E) := ⟨id⟩
instance {d : D} {n : Nat} : HasC (OKR (if true = true then fin n d S' else .ok d S') R E) := ⟨id⟩
instance {as : List D} : HasC (OKR (lenM as S) R E) := ⟨id⟩
instance {d : D} {d2 : D} {b : Bool} : HasC (OKR (inD b d d2 S) R E) := ⟨id⟩
instance {d : D} {d2 : D} : HasC (OKR (eqD d d2 S) R E) := ⟨id⟩
instance {d : D} {d2 : D} : HasC (OKR (neD d d2 S) R E) := ⟨id⟩
instance {d : D} {d2 : D} {b : Bool} : HasC (OKR (isNonD b d d2 S) R E) := ⟨id⟩
instance {as : List D} : HasC (OKR (isiM as S) R E) := ⟨id⟩
instance {as : List D} {sub : Nat → Nat → Option Bool} : HasC (OKR (isiX sub as S) R E) := ⟨id⟩
instance {d : D} {d2 : D} : HasC (OKR (mulD d d2 S) R E) := ⟨id⟩
instance {d : D} {d2 : D} : HasC (OKR (fdivD d d2 S) R E) := ⟨id⟩
instance {d : D} {d2 : D} : HasC (OKR (powD d d2 S) R E) := ⟨id⟩
instance {ss : List (List Nat)} {fs : List (Env → Sto → Res D)} : HasC (OKR (dispO ss fs env S) R E) := ⟨id⟩
instance {ss : List (List Nat)} {fs : List (Env → Sto → Res D)} : HasC (OKR (dispF ss fs env S) R E) := ⟨id⟩
instance {d : D} {lo : Option Int} {hi : Option Int} : HasC (OKR (cutD d lo hi S) R E) := ⟨id⟩
instance {lm : (Sto → Res D) → Fn} {lb : Env → Sto → Res D} : HasC (OKR (lamF lm lb env S) R E) := ⟨id⟩
instance {i : Nat} {o : Int → Int → Int} {f : Env → Sto → Res D} : HasC (OKS (augF i o f env S) N B C T X) := ⟨id⟩
theorem g_br {b : Bool} {A B : Prop} (h : Br b A B) : Br b A B := h
theorem g_ex {α : Type} {p : α → Prop} (h : ∃ x, p x) : ∃ x, p x := h
theorem g_and {A B : Prop} (h : A ∧ B) : A ∧ B := h
end
end Sm
/-! Sm38: defs that leave the store as it is (where own lists hold one's own objects). -/
namespace Sm
open PySem PySem.Spec PyProof.Rows L2
def isFn : D → Bool
  | .fn => true
  | _ => false
def endN (r : SR) : Res D := match r with
  | .nx _ S' => .ok .non S'
  | .rt d S' => if isFn d = true then .bad else .ok d S'
  | .ex e _ S' => .ex e S'
  | _ => .bad
/-- a def of n parameters and k more names; the store stays -/
def fnN (n k : Nat) (body : Env → Sto → SR) : Fn := fun args S =>
  if args.length = n then endN (body (args.map some ++ List.replicate k none) S) else .bad
theorem fnN_nofn {n k : Nat} {body : Env → Sto → SR} {as : List D} {S S' : Sto} {d : D} (h : fnN n k body as S = .ok d S') : d ≠ .fn := fun z => by
  subst z
  unfold fnN at h
  split at h
  · unfold endN at h
    split at h
    · cases h
    · split at h
      · cases h
      · rename_i c
        cases h
        exact c rfl
    · cases h
    · cases h
  · cases h
section
variable {P : Program} {w : World} {K : PySem.W.Frag} {M : Lm} {mg : Str → Option Value} {base : Heap} {z z' : Sg}
theorem fn_endN {Q : VK} {E : XK} {r : SR} (k : SOk K M z) (h : Out K M (EncA K M) (fun c d _ H => E c d H) [] z Q (endN r)) :
    OutS K M (fun c d _ H => E c d H) { nx := fun _ H' => Q .non H', rt := Q } z r := by
  cases r with
  | nx env S' => exact fun z' σ' e x k' v' => h z' .non e x k' (.of .non)
  | rt d S' =>
    have h' : Out K M (EncA K M) (fun c d _ H => E c d H) [] z Q (if isFn d = true then .bad else .ok d S') := h
    by_cases c : isFn d = true
    · rw [if_pos c] at h'
      exact h'.elim
    · rw [if_neg c] at h'
      exact fun z' v e x k' q => h' z' v e x k' q
  | bk env S' => exact h.elim
  | ct env S' => exact h.elim
  | ex e env S' => exact fun z' σ' cls d e1 x k' v' q => h z' cls d e1 x k' q
  | bad => exact h.elim
/-- a def keeps its promise -/
theorem FnS.ofN {x qual : Str} {st : Stmt} {f : Addr} {fd : FuncData} {N ps : List Str} {k nk : Nat} {body : Env → Sto → SR} (F : Fun K x qual st f fd) (S : FnScope N ps (defScope st)) (hk : N.length - ps.length = nk) (hN : ps.length ≤ N.length)
    (hbody : ∀ (cdv : Value), fd.code = cdv → ∀ (A : Around) (outer : List PySem.Env) (s : Shared) (H : Hp) (E : XK), Room k (A.deeper (envOfC qual (defScope st) s.heap.objs.size f cdv)) → (A.deeper (envOfC qual (defScope st) s.heap.objs.size f cdv)).guards = some [] →
      ∀ W, Takes (cxOf (L2.CX P w) P w K mg base N qual (defScope st) f cdv A outer s H E) W → PassesOwn (model P w) (A.deeper (envOfC qual (defScope st) s.heap.objs.size f cdv)) (envOfC qual (defScope st) s.heap.objs.size f cdv) (cxOf (L2.CX P w) P w K mg base N qual (defScope st) f cdv A outer s H E).xe →
      SSs (cxOf (L2.CX P w) P w K mg base N qual (defScope st) f cdv A outer s H E) M W (defBody st) body) :
    FnS P w K M mg base (k + 1) f fd ps (fnN ps.length nk body) := by
  obtain ⟨oc, od, kV, doc, pm, an, cdv, ct, osl, rfl, lk, hcd⟩ := F.ex
  refine ⟨fun args S h => if_neg h, ?_⟩
  intro A outer s H args us vs Q E hr hg e0 hb r hsp
  obtain ⟨as, z, rfl, kz, hla, hq, hout⟩ := hsp
  have hl : vs.length = ps.length := by rw [← hq.length]; exact hla
  have KX : K.In s.heap := e0.mod.kin.keeps fun b o e => (e0.bs b o e).1
  have lim : s.heap.NoLimit := e0.mod.nolimit.keeps fun b o e => (e0.bs b o e).1
  have hkind : ∀ y ∈ ps.zip us, (defScope st).names.lookup y.1 = some .local ∨ ((defScope st).names.lookup y.1 = some .cell ∧ ((cellsFrom (s.heap.objs.size + 1) (defScope st).names []).lookup y.1).isSome = true) := by
    rintro ⟨n, v⟩ hy
    rcases S.par n (List.of_mem_zip hy).1 with q | q
    · exact .inl q
    · exact .inr ⟨q, PySem.W.cellsFrom_some _ _ _ (.inl q)⟩
  refine codeAny_call_function hr.depth (KX _ _ lk) rfl S.co S.gen rfl (PySem.W.codeRec_of KX hcd) (hb _ _ _ _ ?_)
  refine wpAny_newFunctionEnv_cells S.kind hkind fun env he s1 x => ?_
  subst he
  refine ⟨lim.keeps x.toInCall.keep, codeAny_func ?_⟩
  have I : Inv (cxOf (L2.CX P w) P w K mg base N qual (defScope st) f cdv A outer s z.H E) [] (L2.start N vs) z.H s1 := inv_start S hr.hd e0 hl r x
  have tk : Takes (cxOf (L2.CX P w) P w K mg base N qual (defScope st) f cdv A outer s z.H E) (fun c d _ H => E c d H) := takes_of rfl rfl rfl rfl
  have ht := hbody cdv rfl A outer s z.H E (hr.deeper _) hg _ tk (passes_of rfl)
  have hq2 : tS K M (fun c d _ H => E c d H) body { nx := fun _ H' => Q .non H', rt := Q } (L2.start N vs) z.H := by
    refine ⟨as.map some ++ List.replicate nk none, z, rfl, kz, ?_, fn_endN kz ?_⟩
    · rw [← hk]
      exact env_start hq hla hN
    · unfold fnN at hout
      rw [if_pos hla] at hout
      exact hout
  refine wpAny_mono (ht.run [] s1 (L2.start N vs) z.H _ I hq2) (fun fl s' hs => ?_) fun e s' hs => hs
  have fin' : ∀ {σ' : St} {H' : Hp} {v : V} {u : Value}, Inv (cxOf (L2.CX P w) P w K mg base N qual (defScope st) f cdv A outer s z.H E) [] σ' H' s' → RelV v u → Q v H' → CE outer P w z.H s Q u s' := by
    intro σ' H' v u J rv q
    exact ⟨v, H', J.os, J.bare, J.base, J.hok, rv, q⟩
  cases fl with
  | next =>
    obtain ⟨σ', H', J, q⟩ := hs
    exact fin' (v := V.non) (u := Value.none) J rfl q
  | ret u =>
    obtain ⟨v, σ', H', J, rv, q⟩ := hs
    exact fin' J rv q
  | brk =>
    obtain ⟨_, _, _, q⟩ := hs
    exact q.elim
  | cont =>
    obtain ⟨_, _, _, q⟩ := hs
    exact q.elim

end
section
variable {P : Program} {w : World} {K : PySem.W.Frag} {M : Lm} {mg : Str → Option Value} {base : Heap}
theorem FnL.ofN {x qual : Str} {st : Stmt} {g : Addr} {gd : FuncData} {N : List Str} {a : Str} {k j nk : Nat} {body : (Sto → Res D) → Env → Sto → SR} (F : Fun K x qual st g gd) (S : FnScope N [a] (defScope st)) (hk : N.length - 1 = nk) (hN : 1 ≤ N.length)
    (hbody : ∀ (f : Addr) (env : Env) (σ : St) (c : Addr) (q : Str) (T : Sto → Res D) (cdv : Value), gd.code = cdv → ∀ (A : Around) (outer : List PySem.Env) (s : Shared) (H : Hp) (E : XK), ActAt P w K (M.lam f env σ c q) mg base j outer s H T →
      Room k (A.deeper (envOfC qual (defScope st) s.heap.objs.size g cdv)) → (A.deeper (envOfC qual (defScope st) s.heap.objs.size g cdv)).guards = some [] →
      ∀ W, Takes (cxOf (L2.CX P w) P w K mg base N qual (defScope st) g cdv A outer s H E) W → PassesOwn (model P w) (A.deeper (envOfC qual (defScope st) s.heap.objs.size g cdv)) (envOfC qual (defScope st) s.heap.objs.size g cdv) (cxOf (L2.CX P w) P w K mg base N qual (defScope st) g cdv A outer s H E).xe →
      SSs (cxOf (L2.CX P w) P w K mg base N qual (defScope st) g cdv A outer s H E) (M.lam f env σ c q) W (defBody st) (body T)) :
    FnL P w K M mg base (k + 1) j g gd a (fun T => fnN 1 nk (body T)) := by
  obtain ⟨oc, od, kV, doc, pm, an, cdv, ct, osl, rfl, lk, hcd⟩ := F.ex
  refine ⟨fun T as S d S' h => fnN_nofn h, ?_⟩
  intro f env σ c q T A outer s H args us vs Q E hr hg e0 hb r hA hsp
  obtain ⟨as, z, rfl, kz, hla, hq, hout⟩ := hsp
  have hl : vs.length = [a].length := by rw [← hq.length]; exact hla
  have KX : K.In s.heap := e0.mod.kin.keeps fun b o e => (e0.bs b o e).1
  have lim : s.heap.NoLimit := e0.mod.nolimit.keeps fun b o e => (e0.bs b o e).1
  have hkind : ∀ y ∈ [a].zip us, (defScope st).names.lookup y.1 = some .local ∨ ((defScope st).names.lookup y.1 = some .cell ∧ ((cellsFrom (s.heap.objs.size + 1) (defScope st).names []).lookup y.1).isSome = true) := by
    rintro ⟨n, v⟩ hy
    rcases S.par n (List.of_mem_zip hy).1 with q | q
    · exact .inl q
    · exact .inr ⟨q, PySem.W.cellsFrom_some _ _ _ (.inl q)⟩
  refine codeAny_call_function hr.depth (KX _ _ lk) rfl S.co S.gen rfl (PySem.W.codeRec_of KX hcd) (hb _ _ _ _ ?_)
  refine wpAny_newFunctionEnv_cells S.kind hkind fun env' he s1 x => ?_
  subst he
  refine ⟨lim.keeps x.toInCall.keep, codeAny_func ?_⟩
  have I : Inv (cxOf (L2.CX P w) P w K mg base N qual (defScope st) g cdv A outer s z.H E) [] (L2.start N vs) z.H s1 := inv_start S hr.hd e0 hl r x
  have tk : Takes (cxOf (L2.CX P w) P w K mg base N qual (defScope st) g cdv A outer s z.H E) (fun c d _ H => E c d H) := takes_of rfl rfl rfl rfl
  have ht := hbody f env σ c q T cdv rfl A outer s z.H E hA (hr.deeper _) hg _ tk (passes_of rfl)
  have hq2 : tS K (M.lam f env σ c q) (fun c d _ H => E c d H) (body T) { nx := fun _ H' => Q .non H', rt := Q } (L2.start N vs) z.H := by
    refine ⟨as.map some ++ List.replicate nk none, z, rfl, kz, ?_, fn_endN kz ?_⟩
    · rw [← hk]
      exact env_start (ps := [a]) hq hla hN
    · unfold fnN at hout
      rw [if_pos hla] at hout
      exact hout
  refine wpAny_mono (ht.run [] s1 (L2.start N vs) z.H _ I hq2) (fun fl s' hs => ?_) fun e s' hs => hs
  have fin' : ∀ {σ' : St} {H' : Hp} {v : V} {u : Value}, Inv (cxOf (L2.CX P w) P w K mg base N qual (defScope st) g cdv A outer s z.H E) [] σ' H' s' → RelV v u → Q v H' → CE outer P w z.H s Q u s' := by
    intro σ' H' v u J rv q
    exact ⟨v, H', J.os, J.bare, J.base, J.hok, rv, q⟩
  cases fl with
  | next =>
    obtain ⟨σ', H', J, q⟩ := hs
    exact fin' (v := V.non) (u := Value.none) J rfl q
  | ret u =>
    obtain ⟨v, σ', H', J, rv, q⟩ := hs
    exact fin' J rv q
  | brk =>
    obtain ⟨_, _, _, q⟩ := hs
    exact q.elim
  | cont =>
    obtain ⟨_, _, _, q⟩ := hs
    exact q.elim
end
section
variable {R : D → Sto → Prop} {E : D → Sto → Prop} {S : Sto}
theorem o_fnN {n k : Nat} {body : Env → Sto → SR} {args : List D} (hl : args.length = n)
    (h : OKS (body (args.map some ++ List.replicate k none) S) (fun _ S' => R .non S') (fun _ _ => False) (fun _ _ => False) (fun d S' => isFn d = false ∧ R d S') (fun e _ S' => E e S')) : OKR (fnN n k body args S) R E := by
  unfold fnN
  rw [if_pos hl]
  unfold endN
  cases r : body (args.map some ++ List.replicate k none) S with
  | nx e S1 =>
    rw [r] at h
    exact h
  | bk e S1 =>
    rw [r] at h
    exact h.elim
  | ct e S1 =>
    rw [r] at h
    exact h.elim
  | rt d S1 =>
    rw [r] at h
    have h : isFn d = false ∧ R d S1 := h
    dsimp only
    rw [h.1]
    exact h.2
  | ex d e S1 =>
    rw [r] at h
    exact h
  | bad =>
    rw [r] at h
    exact h.elim
end
end Sm
/-! Sm39: own lists that hold one's own objects. -/
namespace Sm
open PySem PySem.Spec PyProof.Rows L2
/-- the items of such a list -/
def getA (d : D) (S : Sto) : Option (List D) := match d with
  | .ref n => match S[n]? with
    | some (.arr l) => some l
    | _ => none
  | _ => none
section
variable {K : PySem.W.Frag} {M : Lm} {z z' : Sg}
theorem getA_ok {d : D} {v : V} {l : List D} (k : SOk K M z) (q : EncA K M z d v) (e : getA d z.S = some l) : ∃ n a vs, d = .ref n ∧ z.S[n]? = some (.arr l) ∧ v = .ref a ∧ z.R[n]? = some a ∧ z.H a = some (.lst vs) ∧ EncAs K M z l vs ∧ M.arr = true ∧ ∀ d ∈ l, d ≠ .fn := by
  cases d with
  | ref n =>
    have e' : (match z.S[n]? with
      | some (.arr l) => some l
      | _ => none) = some l := e
    cases r : z.S[n]? with
    | none =>
      rw [r] at e'
      cases e'
    | some o =>
      rw [r] at e'
      cases o with
      | lst fz l => cases e'
      | dic fz l => cases e'
      | arr l' =>
        have e2 : some l' = some l := e'
        cases e2
        obtain ⟨h0, h1, a, vs, rfl, ha, hv, hl⟩ := ref_arr k q r
        exact ⟨n, a, vs, rfl, r, rfl, ha, hv, hl, h0, h1⟩
  | _ => cases e
theorem EncAs.get : ∀ {l : List D} {vs : List V} {i : Nat} {d : D}, EncAs K M z l vs → l[i]? = some d → ∃ v, vs[i]? = some v ∧ EncA K M z d v
  | _, _, _, _, .nil, e => by simp at e
  | _, _, 0, _, .cons h _, e => by
    simp at e
    subst e
    exact ⟨_, rfl, h⟩
  | _, _, i + 1, d, .cons _ t, e => by
    obtain ⟨v, h1, h2⟩ := EncAs.get (i := i) (d := d) t (by simpa using e)
    exact ⟨v, by simpa using h1, h2⟩
theorem EncAs.app : ∀ {l r : List D} {vs us : List V}, EncAs K M z l vs → EncAs K M z r us → EncAs K M z (l ++ r) (vs ++ us)
  | _, _, _, _, .nil, s => s
  | _, _, _, _, .cons h t, s => .cons h (EncAs.app t s)
theorem not_fn {d : D} (h : isFn d = false) : d ≠ .fn := fun z => by
  subst z
  cases h
theorem nofn_all {l : List D} (h : (l.all fun d => !isFn d) = true) : ∀ d ∈ l, d ≠ .fn := fun d hd => by
  have q := List.all_eq_true.mp h d hd
  exact not_fn (by simpa using q)
end
section
variable {X : Cx} {M : Lm} {W : WX}
/-- [a, b, ..] that may hold one's own -/
def arrO (g : Env → Sto → Res (List D)) : Env → Sto → Res D := fun env S => (g env S).bind fun l S1 => if (decide (l.length ≤ LINE) && l.all fun d => !isFn d) = true then .ok (.ref S1.length) (S1 ++ [.arr l]) else .bad
theorem s_arrO {es : List Expr} {pos : Pos} {g : Env → Sto → Res (List D)} (ar : M.arr = true) (h : SA X M W es g) : SE X M W (.List es pos) (arrO g) := by
  refine pe_imp (pe_lst h) fun σ H Q hh => ?_
  obtain ⟨env, z, rfl, k, v, hh⟩ := hh
  refine ⟨env, z, rfl, k, v, (Out.bind hh).imp fun vs H1 q => ?_⟩
  obtain ⟨l, z1, rfl, _, x, k1, q, h1⟩ := q
  have h1' : Out X.K M (EncA X.K M) W σ z1 Q (if (decide (l.length ≤ LINE) && l.all fun d => !isFn d) = true then .ok (.ref z1.S.length) (z1.S ++ [.arr l]) else .bad) := h1
  by_cases c : (decide (l.length ≤ LINE) && l.all fun d => !isFn d) = true
  · rw [if_pos c] at h1'
    rw [Bool.and_eq_true, decide_eq_true_iff] at c
    refine ⟨by rw [← q.length, ← line_eq]; exact c.1, fun p np => ?_⟩
    have hb : ObE X.K M (z1.push p (.lst vs) (.arr l)) p (.arr l) := ⟨⟨ar, nofn_all c.2⟩, vs, upd_same, q.ext (ext_push np k1)⟩
    exact h1' (z1.push p (.lst vs) (.arr l)) (.ref p) rfl (ext_push np k1) (sok_push np k1 hb) (encA_push k1)
  · rw [if_neg c] at h1'
    exact h1'.elim
/-- a[i] of such a list -/
def ixA (a i : D) (S : Sto) : Res D := ixL (getA a S) fun l => match i with
  | .int k => ixL (atI l k) fun d => .ok d S
  | _ => .bad
theorem atI_encA {K : PySem.W.Frag} {z : Sg} {l : List D} {vs : List V} {j : Int} {d : D} (h : EncAs K M z l vs) (e : atI l j = some d) : ∃ w, atI vs j = some w ∧ EncA K M z d w := by
  unfold atI at e ⊢
  rw [← h.length]
  cases r : ixN l.length j with
  | none =>
    rw [r] at e
    cases e
  | some m =>
    rw [r] at e
    exact h.get e
theorem ixA_ok : IxR X (rOp X.K M W ixA) := by
  intro value slice pins s σ H x y v u Q I rx ry hh hs
  obtain ⟨z, a, i, σ', rfl, k, qa, qi, h⟩ := hh
  unfold ixA at h
  cases hl : getA a z.S with
  | none =>
    rw [hl] at h
    exact h.elim
  | some l =>
    rw [hl] at h
    obtain ⟨n, p, vs, rfl, _, rfl, _, h1, h2, _, _⟩ := getA_ok k qa hl
    cases i with
    | int j =>
      have h' : Out X.K M (EncA X.K M) W σ' z Q (ixL (atI l j) fun d => Res.ok d z.S) := h
      cases r : atI l j with
      | none =>
        rw [r] at h'
        exact h'.elim
      | some d =>
        rw [r] at h'
        obtain ⟨w, w1, w2⟩ := atI_encA h2 r
        rw [encA_int qi] at ry
        exact ix_list value slice pins s σ z.H _ _ v u Q I rx ry ⟨p, vs, j, w, rfl, rfl, SqL.of h1, w1, out_same k w2 h'⟩ hs
    | _ => exact h.elim
theorem s_ixA {a b : Expr} {pos : Pos} {f g : Env → Sto → Res D} (ha : SE X M W a f) (hb : SE X M W b g) (hs : PlainIx b := by exact fun _ _ => rfl) : SE X M W (.Subscript a b pos) (binF ixA f g) := pe_imp (pe_ix ixA_ok ha hb hs) fun _ _ _ h => top_of h
/-- for x in such a list -/
def itA (f : Env → Sto → Res D) : Env → Sto → Res Itm := fun env S => (f env S).bind fun d S1 => match d with
  | .ref n => match S1[n]? with
    | some (.arr l) => .ok ⟨l, some n, some (.arr l)⟩ S1
    | _ => .bad
  | _ => .bad
theorem si_arr {tg e : Expr} {f : Env → Sto → Res D} (h : SE X M W e f) : SI X M W tg e (itA f) := by
  refine ⟨fun pins s σ H R I q => (pi_list h).run pins s σ H R I ?_⟩
  obtain ⟨env, z, rfl, k, v, h⟩ := q
  refine ⟨env, z, rfl, k, v, (Out.bind h).imp fun b H1 q => ?_⟩
  obtain ⟨d, z1, rfl, _, x, k1, q, h1⟩ := q
  cases d with
  | ref n =>
    have h1' : Out X.K M _ W σ z1 R (match z1.S[n]? with
      | some (.arr l) => Res.ok ⟨l, some n, some (.arr l)⟩ z1.S
      | _ => Res.bad : Res Itm) := h1
    cases r : z1.S[n]? with
    | none =>
      rw [r] at h1'
      exact h1'.elim
    | some o =>
      rw [r] at h1'
      cases o with
      | dic fz l => exact h1'.elim
      | lst fz l => exact h1'.elim
      | arr l =>
        obtain ⟨_, _, a, vs, rfl, ha, hv, hl⟩ := ref_arr k1 q r
        have en : z1.R[n]? = some a := ha
        refine ⟨a, rfl, ⟨vs, SqL.of hv⟩, h1' z1 _ rfl (Ext.refl _) k1 ⟨fun m e => (by
          cases e
          exact r), fun z2 x2 k2 ok2 i => ?_⟩⟩
        obtain ⟨_, vs2, hv2, hl2⟩ := k2.obj n _ a (ok2 n rfl) (x2.rAt en)
        refine ⟨fun d hd => ?_, fun hi => ⟨vs2, SqL.of hv2, by rw [← hl2.length]; exact hi⟩⟩
        obtain ⟨w, w1, w2⟩ := hl2.get hd
        refine ⟨⟨vs2, w, SqL.of hv2, w1⟩, fun u H3 y => ?_⟩
        obtain ⟨rfl, y⟩ := y
        have e2 : u = w := Option.some.inj ((y vs2 (SqL.of hv2)).symm.trans w1)
        subst e2
        exact ⟨z2, rfl, rfl, Ext.refl _, k2, w2⟩
  | _ => exact h1.elim
/-- len of such a list -/
def lenA : Fn := fun as S => match as with
  | [d] => ixL (getA d S) fun l => .ok (.int l.length) S
  | _ => .bad
theorem lenA_ok : CallR X (.builtin "len") (rCl X.K M W lenA) := call_of fun as xs z σ' Q k qa h => by
  match as, qa, h with
  | [d], qa, h =>
    obtain ⟨v, rfl, q⟩ := encAs1 qa
    have h' : Out X.K M (EncA X.K M) W σ' z Q (ixL (getA d z.S) fun l => .ok (.int l.length) z.S) := h
    cases hl : getA d z.S with
    | none =>
      rw [hl] at h'
      exact h'.elim
    | some l =>
      rw [hl] at h'
      obtain ⟨n, p, vs, rfl, _, rfl, _, h1, h2, _, _⟩ := getA_ok k q hl
      refine ⟨_, call_len_seq, p, vs, rfl, .inl (SqL.of h1), ?_⟩
      rw [← h2.length]
      exact out_int k h'
/-- a method of such a list -/
def mtA (m : Mt) (f : Env → Sto → Res D) (g : Env → Sto → Res (List D)) : Env → Sto → Res D := fun env S => (f env S).bind fun d S1 => if (getA d S1).isSome = true then (g env S1).bind fun as S2 => m d as S2 else .bad
theorem s_mtA {m : Mt} {id : String} {name : Str} {o e : Expr} {es : List Expr} {apos cpos : Pos} {f : Env → Sto → Res D} {g : Env → Sto → Res (List D)} (hm : MtR X id (rMt X.K M W m)) (ho : SE X M W o f) (ha : SA X M W (e :: es) g) (pa : PlainAttrs "list") (slot : Slot "list" name id) (hty : typeOf (.builtin id) = pure (.type "method_descriptor"))
    (hbase : attributeBase o name X.env (eval o X.env) = eval o X.env := by rfl)
    (hfew : ((backTo cpos (starEach (e :: es) X.env)).all (fun x => !x.1) && (backToKw cpos (keywordEach [] X.env)).all (fun x => x.1.isSome)
      && decide ((e :: es).length + ([] : List Keyword).length + (if ([] : List Keyword).isEmpty then 0 else 1) < 30)) = true := by rfl)
    (hline : (apos.endLine == cpos.line) = true := by rfl) (hs : starEach (e :: es) X.env = (false, eval e X.env) :: starEach es X.env := by rfl) (hplain : (backTo cpos (starEach es X.env)).any (·.1) = false := by rfl) :
    SE X M W (.Call (.Attribute o name apos) (e :: es) [] cpos) (mtA m f g) := by
  refine pe_imp (pe_bm pa slot hty hm ho ha hbase hfew hline hs hplain) fun σ H Q h => ?_
  obtain ⟨env, z, rfl, k, v, h⟩ := h
  refine ⟨env, z, rfl, k, v, (Out.bind h).imp fun b H1 q => ?_⟩
  obtain ⟨d, z1, rfl, _, x, k1, q, h1⟩ := q
  by_cases c : (getA d z1.S).isSome = true
  · rw [if_pos c] at h1
    have ty : tyV X.K "list" b z1.H := by
      cases hl : getA d z1.S with
      | none =>
        rw [hl] at c
        cases c
      | some l =>
        obtain ⟨n, p, vs, rfl, _, rfl, _, h2, _, _, _⟩ := getA_ok k1 q hl
        exact .inl ⟨rfl, vs, SqL.of h2⟩
    refine ⟨ty, env, z1, rfl, k1, v.ext x, (Out.bind h1).imp fun b2 H2 q2 => ?_⟩
    obtain ⟨as, z2, rfl, _, x2, k2, q2, h2⟩ := q2
    exact ⟨z2, d, as, σ, rfl, k2, q.ext x2, q2, h2⟩
  · rw [if_neg c] at h1
    exact h1.elim
/-- append to such a list -/
def appA : Mt := fun d as S => match d, as with
  | .ref n, [y] => match S[n]? with
    | some (.arr l) => if (decide (l.length < LINE) && !isFn y) = true then .ok .non (S.set n (.arr (l ++ [y]))) else .bad
    | _ => .bad
  | _, _ => .bad
theorem appA_ok : MtR X "list.append" (rMt X.K M W appA) := mt_of fun d as x xs z σ' Q k qa qs h => by
  match d, as, qa, qs, h with
  | .ref n, [y], qa, qs, h =>
    obtain ⟨w, rfl, qy⟩ := encAs1 qs
    have h0 : Out X.K M (EncA X.K M) W σ' z Q (match z.S[n]? with
      | some (.arr l) => if (decide (l.length < LINE) && !isFn y) = true then .ok .non (z.S.set n (.arr (l ++ [y]))) else .bad
      | _ => .bad) := h
    cases hn : z.S[n]? with
    | none =>
      rw [hn] at h0
      exact h0.elim
    | some o =>
      rw [hn] at h0
      cases o with
      | dic fz l => exact h0.elim
      | lst fz l => exact h0.elim
      | arr l =>
        dsimp only at h0
        by_cases cl : (decide (l.length < LINE) && !isFn y) = true
        · rw [if_pos cl] at h0
          rw [Bool.and_eq_true, decide_eq_true_iff] at cl
          obtain ⟨ha, nf, p, vs, rfl, hp, hv, hl⟩ := ref_arr k qa hn
          have hx := ext_wrt (o := .lst (vs ++ [w])) (b := .arr (l ++ [y])) k hn hp rfl
          refine ⟨_, mt_append, p, vs, w, rfl, rfl, hv, by rw [← hl.length, ← line_eq]; exact cl.1, ?_⟩
          refine h0 (z.wrt n p (.lst (vs ++ [w])) (.arr (l ++ [y]))) .non rfl hx (sok_wrt k hn hp rfl ⟨⟨ha, fun d hd => ?_⟩, vs ++ [w], upd_same, (hl.app (.cons qy .nil)).ext hx⟩) (.of .non)
          rcases List.mem_append.mp hd with hd | hd
          · exact nf d hd
          · rw [List.mem_singleton.mp hd]
            exact not_fn (by simpa using cl.2)
        · rw [if_neg cl] at h0
          exact h0.elim
end
section
variable {S : Sto} {env : Env} {R : D → Sto → Prop} {E : D → Sto → Prop} {f g : Env → Sto → Res D}
theorem o_arrO {k : Env → Sto → Res (List D)} (h : OKR (k env S) (fun l S1 => (decide (l.length ≤ LINE) && l.all fun d => !isFn d) = true ∧ R (.ref S1.length) (S1 ++ [.arr l])) E) : OKR (arrO k env S) R E := o_bind (h.mono (fun l S1 q => by
  rw [if_pos q.1]
  exact q.2) fun _ _ q => q)
theorem o_ixA {a : D} {l : List D} {k : Int} {d : D} (hl : getA a S = some l) (e : atI l k = some d) (h : R d S) : OKR (ixA a (.int k) S) R E := by
  unfold ixA
  rw [hl]
  show OKR (ixL (atI l k) fun d => Res.ok d S) R E
  rw [e]
  exact h
theorem o_itA {R : Itm → Sto → Prop} (h : OKR (f env S) (fun d S1 => ∃ n l, d = .ref n ∧ S1[n]? = some (.arr l) ∧ R ⟨l, some n, some (.arr l)⟩ S1) E) : OKR (itA f env S) R E := o_bind (h.mono (fun d S1 q => by
  obtain ⟨n, l, rfl, e, q⟩ := q
  dsimp only
  rw [e]
  exact q) fun _ _ q => q)
theorem o_lenA {a : D} {l : List D} (hl : getA a S = some l) (h : R (.int l.length) S) : OKR (lenA [a] S) R E := by
  show OKR (ixL (getA a S) fun l => Res.ok (.int l.length) S) R E
  rw [hl]
  exact h
theorem o_mtA {m : Mt} {k : Env → Sto → Res (List D)} (h : OKR (f env S) (fun d S1 => (getA d S1).isSome = true ∧ OKR (k env S1) (fun as S2 => OKR (m d as S2) R E) E) E) : OKR (mtA m f k env S) R E := o_bind (h.mono (fun d S1 q => by
  rw [if_pos q.1]
  exact o_bind q.2) fun _ _ q => q)
theorem o_appA {n : Nat} {l : List D} {y : D} (hn : S[n]? = some (.arr l)) (hl : l.length < LINE) (hy : isFn y = false) (h : R .non (S.set n (.arr (l ++ [y])))) : OKR (appA (.ref n) [y] S) R E := by
  unfold appA
  dsimp only
  rw [hn]
  dsimp only
  rw [if_pos (by rw [decide_eq_true hl, hy]; rfl)]
  exact h
end
end Sm
/-! Sm40: lists put together as one's own. -/
namespace Sm
open PySem PySem.Spec PyProof.Rows L2
/-- a + b, one's own -/
def addO (a b : D) (S : Sto) : Res D := match getL a S, getL b S with
  | some s, some t => if s.length + t.length ≤ LINE then .ok (.ref S.length) (S ++ [.lst false (s ++ t)]) else .bad
  | _, _ => .bad
section
variable {X : Cx} {M : Lm} {W : WX}
theorem addO_ok : OpR X (binaryOp .Add) (rOp X.K M W addO) := op_of fun a b x y z σ' Q k qa qb h => by
  unfold addO at h
  cases ha : getL a z.S with
  | none =>
    rw [ha] at h
    exact h.elim
  | some s =>
    cases hb : getL b z.S with
    | none =>
      rw [ha, hb] at h
      exact h.elim
    | some t =>
      rw [ha, hb] at h
      dsimp only at h
      by_cases c : s.length + t.length ≤ LINE
      · rw [if_pos c] at h
        obtain ⟨p, vs, rfl, r1, e1⟩ := getL_rd k qa ha
        obtain ⟨p2, vs2, rfl, r2, e2⟩ := getL_rd k qb hb
        exact ⟨_, op_catL, p, p2, vs, vs2, rfl, rfl, r1, r2, by
          rw [← e1.length, ← e2.length, ← line_eq]
          exact c, out_own k (e1.app e2) h⟩
      · rw [if_neg c] at h
        exact h.elim
end
section
variable {S : Sto} {R : D → Sto → Prop} {E : D → Sto → Prop}
theorem and_nf {d : D} {A : Prop} (e : isFn d = false) (h : A) : isFn d = false ∧ A := ⟨e, h⟩
theorem and_ga {d : D} {l : List D} {A : Prop} (e : getA d S = some l) (h : A) : (getA d S).isSome = true ∧ A := ⟨by rw [e]; rfl, h⟩
theorem and_ar {l : List D} {A : Prop} (e : l.length ≤ LINE) (e2 : (l.all fun d => !isFn d) = true) (h : A) : (decide (l.length ≤ LINE) && l.all fun d => !isFn d) = true ∧ A := ⟨by rw [decide_eq_true e, e2]; rfl, h⟩
theorem o_addO {a b : D} {s t : List D} (ha : getL a S = some s) (hb : getL b S = some t) (hl : s.length + t.length ≤ LINE) (h : R (.ref S.length) (S ++ [.lst false (s ++ t)])) : OKR (addO a b S) R E := by
  unfold addO
  rw [ha, hb]
  dsimp only
  rw [if_pos hl]
  exact h
end
end Sm
/-! Sm41: comparisons of four. -/
namespace Sm
open PySem PySem.Spec PyProof.Rows L2
section
variable {X : Cx} {M : Lm} {W : WX} {K : PySem.W.Frag} {z : Sg} {pos : Pos} {ta tb tc td : TE} {a b c d : Expr}
def tChain3 (r1 r2 r3 : R2) (ta tb tc td : TE) : TE := fun σ H Q => ta σ H fun x H1 => tb σ H1 fun y H2 => r1 x y H2 fun z H3 => ∃ k, z = .bl k ∧
  (if k = true then tc σ H3 fun w H4 => r2 y w H4 fun z' H5 => ∃ k', z' = .bl k' ∧ (if k' = true then td σ H5 fun u H6 => r3 w u H6 Q else Q (.bl false) H5) else Q (.bl false) H3)
theorem pe_chain3 {o1 o2 o3 : CmpOp} {r1 r2 r3 : R2} (h1 : OpR X (compareOp o1) r1) (h2 : OpR X (compareOp o2) r2) (h3 : OpR X (compareOp o3) r3) (ha : PE X a ta) (hb : PE X b tb) (hc : PE X c tc) (hd : PE X d td)
    (hm : lastMarks [o1, o2, o3] [b, c, d] = false := by with_unfolding_all rfl) : PE X (.Compare a [o1, o2, o3] [b, c, d] pos) (tChain3 r1 r2 r3 ta tb tc td) := by
  refine ⟨fun pins s σ H Q I h => ?_⟩
  refine Compare_chain (thn (ha.run pins s σ H _ I h) fun v s1 ⟨x, H1, I1, e1, q1⟩ => chain_link (thn (hb.run pins s1 σ H1 _ I1 q1) fun u s2 ⟨y, H2, I2, e2, q2⟩ =>
    thn (h1 pins s2 σ H2 x y v u _ I2 e1 e2 q2) fun d s3 ⟨z, H3, I3, e3, k, e, q3⟩ => ?_)) hm
  subst e
  cases e3
  refine wpAny_truthy_bool ?_
  cases k with
  | false => exact ite_ff ⟨.bl false, H3, I3, rfl, q3⟩
  | true =>
    refine ite_tt (chain_link (thn (hc.run pins s3 σ H3 _ I3 q3) fun w' s4 ⟨z', H4, I4, e4, q4⟩ => thn (h2 pins s4 σ H4 y z' u w' _ I4 e2 e4 q4) fun d' s5 ⟨z2, H5, I5, e5, k2, e6, q5⟩ => ?_))
    subst e6
    cases e5
    refine wpAny_truthy_bool ?_
    cases k2 with
    | false => exact ite_ff ⟨.bl false, H5, I5, rfl, q5⟩
    | true => exact ite_tt (chain_last (thn (hd.run pins s5 σ H5 _ I5 q5) fun w2 s6 ⟨z3, H6, I6, e7, q6⟩ => h3 pins s6 σ H6 z' z3 w' w2 Q I6 e4 e7 q6))
theorem pt_chain3 {o1 o2 o3 : CmpOp} {r1 r2 r3 : R2} (h1 : OpR X (compareOp o1) r1) (h2 : OpR X (compareOp o2) r2) (h3 : OpR X (compareOp o3) r3) (ha : PE X a ta) (hb : PE X b tb) (hc : PE X c tc) (hd : PE X d td)
    (hm : lastMarks [o1, o2, o3] [b, c, d] = false := by with_unfolding_all rfl) : PT X (.Compare a [o1, o2, o3] [b, c, d] pos) (tTest (tChain3 r1 r2 r3 ta tb tc td)) := by
  refine ⟨fun pins s σ H Q I h => ?_⟩
  refine isTrue_chain (thn (ha.run pins s σ H _ I h) fun v s1 ⟨x, H1, I1, e1, q1⟩ => test_link (thn (hb.run pins s1 σ H1 _ I1 q1) fun u s2 ⟨y, H2, I2, e2, q2⟩ =>
    thn (h1 pins s2 σ H2 x y v u _ I2 e1 e2 q2) fun d s3 ⟨z, H3, I3, e3, k, e, q3⟩ => ?_)) hm
  subst e
  cases e3
  refine wpAny_truthy_bool ?_
  cases k with
  | false =>
    obtain ⟨k', e', q'⟩ := q3
    cases e'
    exact ite_ff ⟨H3, I3, q'⟩
  | true =>
    refine ite_tt (test_link (thn (hc.run pins s3 σ H3 _ I3 q3) fun w' s4 ⟨z', H4, I4, e4, q4⟩ => thn (h2 pins s4 σ H4 y z' u w' _ I4 e2 e4 q4) fun d' s5 ⟨z2, H5, I5, e5, k2, e6, q5⟩ => ?_))
    subst e6
    cases e5
    refine wpAny_truthy_bool ?_
    cases k2 with
    | false =>
      obtain ⟨k', e', q'⟩ := q5
      cases e'
      exact ite_ff ⟨H5, I5, q'⟩
    | true =>
      refine ite_tt (test_last (thn (hd.run pins s5 σ H5 _ I5 q5) fun w2 s6 ⟨z3, H6, I6, e7, q6⟩ => thn (h3 pins s6 σ H6 z' z3 w' w2 _ I6 e4 e7 q6) fun d3 s7 ⟨z4, H7, I7, e8, k3, e9, q7⟩ => ?_))
      subst e9
      cases e8
      exact wpAny_truthy_bool ⟨H7, I7, q7⟩
/-! ### a == b == c == d -/
def chain3F (o p q : D → D → Sto → Res D) (f g h i : Env → Sto → Res D) : Env → Sto → Res D := fun env S => (f env S).bind fun x S1 => (g env S1).bind fun y S2 => (o x y S2).bind fun c S3 => match c with
  | .bl true => (h env S3).bind fun w S4 => (p y w S4).bind fun c2 S5 => match c2 with
    | .bl true => (i env S5).bind fun u S6 => q w u S6
    | .bl false => .ok (.bl false) S5
    | _ => .bad
  | .bl false => .ok (.bl false) S3
  | _ => .bad
theorem tchain3_of {o p q : D → D → Sto → Res D} {f g h i : Env → Sto → Res D} {σ : St} {H : Hp} {Q : VK} (hh : tE K M W (chain3F o p q f g h i) σ H Q) : tChain3 (rOp K M W o) (rOp K M W p) (rOp K M W q) (tE K M W f) (tE K M W g) (tE K M W h) (tE K M W i) σ H Q := by
  obtain ⟨env, z, rfl, k, v, hh⟩ := hh
  refine ⟨env, z, rfl, k, v, (Out.bind hh).imp fun b H1 q => ?_⟩
  obtain ⟨a1, z1, rfl, _, x1, k1, q, h1⟩ := q
  refine ⟨env, z1, rfl, k1, v.ext x1, (Out.bind h1).imp fun b2 H2 q2 => ?_⟩
  obtain ⟨a2, z2, rfl, _, x2, k2, q2, h2⟩ := q2
  refine ⟨z2, a1, a2, σ, rfl, k2, q.ext x2, q2, (Out.bind h2).imp fun b3 H3 q3 => ?_⟩
  obtain ⟨a3, z3, rfl, _, x3, k3, q3, h3⟩ := q3
  cases a3 with
  | bl c =>
    refine ⟨c, encA_bl q3, ?_⟩
    cases c with
    | true =>
      rw [if_pos rfl]
      refine ⟨env, z3, rfl, k3, v.ext (x1.trans (x2.trans x3)), (Out.bind h3).imp fun b4 H4 q4 => ?_⟩
      obtain ⟨a4, z4, rfl, _, x4, k4, q4, h4⟩ := q4
      refine ⟨z4, a2, a4, σ, rfl, k4, q2.ext (x3.trans x4), q4, (Out.bind h4).imp fun b5 H5 q5 => ?_⟩
      obtain ⟨a5, z5, rfl, _, x5, k5, q5, h5⟩ := q5
      cases a5 with
      | bl c2 =>
        refine ⟨c2, encA_bl q5, ?_⟩
        cases c2 with
        | true =>
          rw [if_pos rfl]
          refine ⟨env, z5, rfl, k5, v.ext (x1.trans (x2.trans (x3.trans (x4.trans x5)))), (Out.bind h5).imp fun b6 H6 q6 => ?_⟩
          obtain ⟨a6, z6, rfl, _, x6, k6, q6, h6⟩ := q6
          exact ⟨z6, a4, a6, σ, rfl, k6, q4.ext (x5.trans x6), q6, h6⟩
        | false =>
          rw [if_neg Bool.false_ne_true]
          exact h5 z5 _ rfl (Ext.refl z5) k5 (.of (.bl false))
      | _ => exact h5.elim
    | false =>
      rw [if_neg Bool.false_ne_true]
      exact h3 z3 _ rfl (Ext.refl z3) k3 (.of (.bl false))
  | _ => exact h3.elim
theorem s_chain3 {o1 o2 o3 : CmpOp} {o p q : D → D → Sto → Res D} {f g h i : Env → Sto → Res D} (h1 : OpR X (compareOp o1) (rOp X.K M W o)) (h2 : OpR X (compareOp o2) (rOp X.K M W p)) (h3 : OpR X (compareOp o3) (rOp X.K M W q)) (ha : SE X M W a f) (hb : SE X M W b g) (hc : SE X M W c h) (hd : SE X M W d i)
    (hm : lastMarks [o1, o2, o3] [b, c, d] = false := by with_unfolding_all rfl) : SE X M W (.Compare a [o1, o2, o3] [b, c, d] pos) (chain3F o p q f g h i) :=
  pe_imp (pe_chain3 h1 h2 h3 ha hb hc hd hm) fun _ _ _ h => tchain3_of h
theorem st_chain3 {o1 o2 o3 : CmpOp} {o p q : D → D → Sto → Res D} {f g h i : Env → Sto → Res D} (h1 : OpR X (compareOp o1) (rOp X.K M W o)) (h2 : OpR X (compareOp o2) (rOp X.K M W p)) (h3 : OpR X (compareOp o3) (rOp X.K M W q)) (ha : SE X M W a f) (hb : SE X M W b g) (hc : SE X M W c h) (hd : SE X M W d i)
    (hm : lastMarks [o1, o2, o3] [b, c, d] = false := by with_unfolding_all rfl) : ST X M W (.Compare a [o1, o2, o3] [b, c, d] pos) (isB (chain3F o p q f g h i)) := by
  refine pt_imp (pt_chain3 h1 h2 h3 ha hb hc hd hm) fun σ H Q hh => ?_
  obtain ⟨env, z, rfl, k, v, hh⟩ := hh
  refine tchain3_of ⟨env, z, rfl, k, v, (Out.bind hh).imp fun b H1 q => ?_⟩
  obtain ⟨a, z1, rfl, _, x, k1, q, h1⟩ := q
  cases a with
  | bl c => exact ⟨c, encA_bl q, h1 z1 c rfl (Ext.refl z1) k1 rfl⟩
  | _ => exact h1.elim
end
section
variable {S : Sto} {env : Env} {R : D → Sto → Prop} {E : D → Sto → Prop} {f g h i : Env → Sto → Res D}
theorem o_chain3 {o p q : D → D → Sto → Res D} (hh : OKR (f env S) (fun x S1 => OKR (g env S1) (fun y S2 => OKR (o x y S2) (fun d S3 => Bl d fun b => Br b (OKR (h env S3) (fun w S4 => OKR (p y w S4) (fun d2 S5 => Bl d2 fun b2 => Br b2 (OKR (i env S5) (fun u S6 => OKR (q w u S6) R E) E) (R (.bl false) S5)) E) E) (R (.bl false) S3)) E) E) E) : OKR (chain3F o p q f g h i env S) R E :=
  o_bind (hh.mono (fun _ _ q => o_bind (q.mono (fun _ _ q => o_bind (q.mono (fun _ _ q => by
    obtain ⟨i, rfl, q⟩ := q
    cases i with
    | true =>
      refine o_bind ((q.1 rfl).mono (fun _ _ q => o_bind (q.mono (fun _ _ q => by
        obtain ⟨i, rfl, q⟩ := q
        cases i with
        | true => exact o_bind (q.1 rfl)
        | false => exact q.2 rfl) fun _ _ q => q)) fun _ _ q => q)
    | false => exact q.2 rfl) fun _ _ q => q)) fun _ _ q => q)) fun _ _ q => q)
instance r_o_chain3 {o p q : D → D → Sto → Res D} : Rule (OKR (chain3F o p q f g h i env S) R E) (OKR (f env S) (fun x S1 => OKR (g env S1) (fun y S2 => OKR (o x y S2) (fun d S3 => Bl d fun b => Br b (OKR (h env S3) (fun w S4 => OKR (p y w S4) (fun d2 S5 => Bl d2 fun b2 => Br b2 (OKR (i env S5) (fun u S6 => OKR (q w u S6) R E) E) (R (.bl false) S5)) E) E) (R (.bl false) S3)) E) E) E) := ⟨fun h => o_chain3 h⟩
end
end Sm
/-! Sm42: a def as a value: its number stands behind the classes' numbers; the call of what a name holds. -/
namespace Sm
open PySem PySem.Spec PyProof.Rows L2
/-- classes from 0 on, defs that are values from 1000 on -/
def MofF (Cs : List Addr) (T : List (Addr × Str)) (A : Bool) (Fs : List Addr) : Lm := { cls := fun k => if k < 1000 then Cs.getD k 0 else Fs.getD (k - 1000) 0, fld := fun _ => [], tabs := T, arr := A }
theorem SubOk.cls {K : PySem.W.Frag} {M M' : Lm} {sub : Nat → Nat → Option Bool} (h : SubOk K M sub) (e : ∀ k j b, sub k j = some b → M'.cls k = M.cls k ∧ M'.cls j = M.cls j) : SubOk K M' sub :=
  ⟨fun k j b q => by rw [(e k j b q).1, (e k j b q).2]; exact h.kit k j b q, fun k j b q => by rw [(e k j b q).1, (e k j b q).2]; exact h.exm k j b q, fun k j b q => by rw [(e k j b q).1]; exact h.exc k j b q, fun k j b q => by rw [(e k j b q).1]; exact h.ve k j b q⟩
theorem subBy_lt {tab : List (Nat × List Bool)} (h : (tab.all fun p => decide (p.1 < 1000) && decide (p.2.length ≤ 1000)) = true) {k j : Nat} {b : Bool} (e : subBy tab k j = some b) : k < 1000 ∧ j < 1000 := by
  unfold subBy at e
  cases q : tab.lookup k with
  | none =>
    rw [q] at e
    cases e
  | some r =>
    rw [q] at e
    have m := List.all_eq_true.mp h _ (lookup_mem q)
    rw [Bool.and_eq_true, decide_eq_true_iff, decide_eq_true_iff] at m
    have e : r[j]? = some b := e
    have := (List.getElem?_eq_some_iff.mp e).1
    have m2 : r.length ≤ 1000 := m.2
    exact ⟨m.1, by omega⟩
theorem sub_mkF {K : PySem.W.Frag} {Cs Fs : List Addr} {T : List (Addr × Str)} {A : Bool} {tab : List (Nat × List Bool)} (hall : ∀ C ∈ Cs, ClK K C) (hrows : ∀ p ∈ tab, RowK K Cs p.1 p.2) (hlt : (tab.all fun p => decide (p.1 < 1000) && decide (p.2.length ≤ 1000)) = true) : SubOk K (MofF Cs T A Fs) (subBy tab) :=
  (sub_mk (T := T) (A := A) hall hrows).cls fun k j b q => ⟨if_pos (subBy_lt hlt q).1, if_pos (subBy_lt hlt q).2⟩
def callVF (tbl : List (Nat × Fn)) (i : Nat) (g : Env → Sto → Res (List D)) : Env → Sto → Res D := fun env S => match env[i]? with
  | some (some (.cls c)) => match tbl.lookup c with
    | some m => callF m g env S
    | none => .bad
  | _ => .bad
structure TV (X : Cx) (M : Lm) (k : Nat) (tbl : List (Nat × Fn)) : Prop where
  ex : ∀ c m, tbl.lookup c = some m → ∃ fd ps, FnS X.prog X.w X.K M X.mg X.base k (M.cls c) fd ps m ∧ PySem.W.keepIn X.K (.ref (M.cls c)) = true ∧ Binds X.K fd ps []
section
variable {X : Cx} {M : Lm} {W : WX}
theorem tv_nil {k : Nat} : TV X M k [] := ⟨fun c m e => by cases e⟩
theorem tv_cons {j k c : Nat} {ps : List Str} {m : Fn} {x : Str} {tbl : List (Nat × Fn)} (N : Def X.prog X.w X.K M X.mg X.base x j ps m) (G : X.mg x = some (.ref (M.cls c))) (t : TV X M k tbl) (hj : j ≤ k := by decide) : TV X M k ((c, m) :: tbl) := by
  refine ⟨fun c2 m2 e => ?_⟩
  by_cases q : (c2 == c) = true
  · rw [List.lookup_cons, q] at e
    have e2 : c2 = c := by simpa using q
    cases e
    subst e2
    obtain ⟨f, fd, F, h1, h2, h3⟩ := N.ex
    rw [G] at h1
    cases h1
    exact ⟨fd, ps, F.mono hj, h2, h3⟩
  · rw [List.lookup_cons, Bool.eq_false_iff.mpr q] at e
    exact t.ex c2 m2 e
theorem s_callV {k : Nat} (i : Nat) {a : Str} {p pos : Pos} {e : Expr} {es : List Expr} {g : Env → Sto → Res (List D)} {tbl : List (Nat × Fn)} (hT : TV X M k tbl) (hr : Room k X.A) (gd : X.A.guards = some []) (tk : Takes X W) (ha : SA X M W (e :: es) g)
    (hN : X.N[i]? = some a := by rfl) (hv : Vis X.env.scope a := by first | exact Or.inl rfl | exact Or.inr (Or.inl rfl) | exact Or.inr (Or.inr rfl)) (hd : (a == ("__debug__" : Str)) = false := by decide) (hcd : (a == ("__classdict__" : Str)) = false := by decide)
    (he : starEach (e :: es) X.env = (false, eval e X.env) :: starEach es X.env := by rfl) (hpl : (backTo pos (starEach es X.env)).any (·.1) = false := by rfl) : SE X M W (.Call (.Name a p) (e :: es) [] pos) (callVF tbl i g) := by
  refine ⟨fun pins s σ H Q I h => ?_⟩
  obtain ⟨env, z, rfl, kz, v, h⟩ := h
  have key : ∃ c m, env[i]? = some (some (.cls c)) ∧ tbl.lookup c = some m ∧ Out X.K M (EncA X.K M) W σ z Q (callF m g env z.S) := by
    unfold callVF at h
    split at h
    · rename_i c e1
      split at h
      · rename_i m e2
        exact ⟨c, m, e1, e2, h⟩
      · exact h.elim
    · exact h.elim
  obtain ⟨c, m, e1, e2, h⟩ := key
  obtain ⟨fd, ps, F, hk, hb⟩ := hT.ex c m e2
  obtain ⟨v0, hs, q0⟩ := v.2 i _ e1
  have e0 : v0 = .ref (M.cls c) := by
    cases q0 with
    | of q =>
      cases q
      rfl
  subst e0
  refine wpAny_Call_Name_kw (thn ((pe_var (pos := p) (i := i) hN hv hd hcd).run pins s σ z.H (fun v H1 => v = .ref (M.cls c) ∧ H1 = z.H) I ⟨.ref (M.cls c), hs, rfl, rfl⟩) fun u s1 hh => ?_)
  obtain ⟨v1, H1, I1, r1, ev, eH⟩ := hh
  subst ev
  rw [eH] at I1
  obtain rfl : u = Value.ref (M.cls c) := r1
  refine PySem.W.callWith_K (h₀ := X.base) I1.ok.mod.kin hk (thn (ha.run pos pins s1 σ z.H _ I1 ⟨env, z, rfl, kz, v, Out.bind h⟩) fun us s2 hh => ?_) he hpl
  obtain ⟨vs, H2, I2, r, args, z1, rfl, eq, x1, k1, q, h1⟩ := hh
  exact ⟨I2.kIn, run_fnS F hr gd hb tk I2 r k1 q h1⟩
end
end Sm
/-! Sm43: xs.pop(i) of one's own list; dict(pairs); d.update(dict) of one's own dict; sorted of ints. -/
namespace Sm
open PySem PySem.Spec PyProof.Rows L2
/-! ### xs.pop(i) -/
def popAt (n : Nat) (k : Nat) (l : List D) (S : Sto) : Res D := match l[k]? with
  | some y => .ok y (S.set n (.lst false (l.eraseIdx k)))
  | none => .bad
def popIn (n : Nat) (i : Int) (S : Sto) : Res D := match S[n]? with
  | some (.lst false l) => if (decide (-(2 ^ 63) ≤ i) && decide (i < 2 ^ 63)) = true then (match seqIndex? i l.length with
    | some k => popAt n k l S
    | none => .bad) else .bad
  | _ => .bad
def popM : Mt := fun d as S => match d, as with
  | .ref n, [.int i] => popIn n i S
  | .ref n, [] => (match S[n]? with
    | some (.lst false l) => popAt n (l.length - 1) l S
    | _ => .bad)
  | _, _ => .bad
section
variable {K : PySem.W.Frag} {M : Lm} {z : Sg}
theorem encL_erase {H : Hp} {ow : Addr → Prop} : ∀ {l : List D} {vs : List V} (k : Nat), EncL K M H ow l vs → EncL K M H ow (l.eraseIdx k) (vs.eraseIdx k)
  | _, _, _, .nil => by simp [EncL.nil]
  | _, _, 0, .cons h t => by simpa using t
  | _, _, k + 1, .cons h t => by
    simp only [List.eraseIdx_cons_succ]
    exact .cons h (encL_erase k t)
theorem encL_at {H : Hp} {ow : Addr → Prop} : ∀ {l : List D} {vs : List V} {k : Nat} {y : D}, EncL K M H ow l vs → l[k]? = some y → ∃ v, vs[k]? = some v ∧ Enc K M H ow y v
  | _, _, _, _, .nil, h => by simp at h
  | _, _, 0, _, .cons h t, e => by
    simp at e
    subst e
    exact ⟨_, rfl, h⟩
  | _, _, k + 1, _, .cons h t, e => by
    simp at e
    obtain ⟨v, h1, h2⟩ := encL_at t e
    exact ⟨v, by simpa using h1, h2⟩
variable {X : Cx} {W : WX}
theorem pop_ok : MtR X "list.pop" (rMt X.K M W popM) := by
  intro pins s σ H x xs v us Q I rx rxs hh
  obtain ⟨z, d, as, σ', rfl, k, qa, qs, h⟩ := hh
  have core : ∀ (n j : Nat) (l : List D), EncA X.K M z (.ref n) x → z.S[n]? = some (.lst false l) → Out X.K M (EncA X.K M) W σ' z Q (popAt n j l z.S) → ∃ p vs y, x = .ref p ∧ z.H p = some (.lst vs) ∧ vs.length = l.length ∧ vs[j]? = some y ∧ Q y (upd z.H p (.lst (vs.eraseIdx j))) := by
    intro n j l qa hn h1
    unfold popAt at h1
    cases hy : l[j]? with
    | none =>
      rw [hy] at h1
      exact h1.elim
    | some y =>
      rw [hy] at h1
      obtain ⟨p, vs, rfl, hp, hv, hl⟩ := ref_lst k qa hn
      obtain ⟨w, hw, qw⟩ := encL_at hl hy
      have hx := ext_wrt (o := .lst (vs.eraseIdx j)) (b := .lst false (l.eraseIdx j)) k hn hp rfl
      exact ⟨p, vs, w, rfl, hv, hl.length.symm, hw, h1 (z.wrt n p (.lst (vs.eraseIdx j)) (.lst false (l.eraseIdx j))) w rfl hx (sok_wrt k hn hp rfl ⟨vs.eraseIdx j, upd_same, (encL_erase j hl).mv hx.mv⟩) (.of (qw.mv hx.mv))⟩
  match d, as, qa, qs, h with
  | .ref n, [.int i], qa, qs, h =>
    obtain ⟨w, rfl, qy⟩ := encAs1 qs
    have ew := encA_int qy
    subst ew
    have h1 : Out X.K M (EncA X.K M) W σ' z Q (popIn n i z.S) := h
    unfold popIn at h1
    cases hn : z.S[n]? with
    | none =>
      rw [hn] at h1
      exact h1.elim
    | some o =>
      rw [hn] at h1
      cases o with
      | dic fz l => exact h1.elim
      | arr l => exact h1.elim
      | lst fz l =>
        cases fz with
        | true => exact h1.elim
        | false =>
          dsimp only at h1
          by_cases cl : (decide (-(2 ^ 63) ≤ i) && decide (i < 2 ^ 63)) = true
          · rw [if_pos cl] at h1
            rw [Bool.and_eq_true, decide_eq_true_iff, decide_eq_true_iff] at cl
            cases hk : seqIndex? i l.length with
            | none =>
              rw [hk] at h1
              exact h1.elim
            | some j =>
              rw [hk] at h1
              obtain ⟨p, vs, y, rfl, hv, hl, hy, q⟩ := core n j l qa hn h1
              exact mt_popAt pins s σ z.H _ _ v us Q I rx rxs ⟨p, vs, i, j, y, rfl, rfl, hv, cl.1, cl.2, by rw [hl]; exact hk, hy, q⟩
          · rw [if_neg cl] at h1
            exact h1.elim
  | .ref n, [], qa, qs, h =>
    cases qs
    have h1 : Out X.K M (EncA X.K M) W σ' z Q (match z.S[n]? with
      | some (.lst false l) => popAt n (l.length - 1) l z.S
      | _ => .bad) := h
    cases hn : z.S[n]? with
    | none =>
      rw [hn] at h1
      exact h1.elim
    | some o =>
      rw [hn] at h1
      cases o with
      | dic fz l => exact h1.elim
      | arr l => exact h1.elim
      | lst fz l =>
        cases fz with
        | true => exact h1.elim
        | false =>
          obtain ⟨p, vs, y, rfl, hv, hl, hy, q⟩ := core n _ l qa hn h1
          have h9 := (List.getElem?_eq_some_iff.mp hy).1
          have e : vs.eraseIdx (l.length - 1) = vs.dropLast := by
            rw [← hl, List.dropLast_eq_take, List.eraseIdx_eq_take_drop_succ, show vs.length - 1 + 1 = vs.length by omega, List.drop_length, List.append_nil]
          rw [e] at q
          exact mt_pop pins s σ z.H _ _ v us Q I rx rxs ⟨p, vs, y, rfl, rfl, hv, by rw [hl]; exact hy, q⟩
end
/-! ### dict(pairs) -/
def pairsIn : List D → Option (List (D × D))
  | [] => some []
  | .tup [k, v] :: l => match dkey k, pairsIn l with
    | some _, some r => some ((k, v) :: r)
    | _, _ => none
  | _ :: _ => none
def mergeP (acc l : List (D × D)) : List (D × D) := l.foldl (fun acc kv => putP acc kv.1 kv.2) acc
def dictM : Fn := fun as S => match as with
  | [d] => match getL d S with
    | some ps => match pairsIn ps with
      | some kvs => .ok (.dic (mergeP [] kvs)) S
      | none => .bad
    | none => .bad
  | _ => .bad
def dictO : Fn := fun as S => match as with
  | [d] => match getL d S with
    | some ps => match pairsIn ps with
      | some kvs => .ok (.ref S.length) (S ++ [.dic false (mergeP [] kvs)])
      | none => .bad
    | none => .bad
  | _ => .bad
section
variable {K : PySem.W.Frag} {M : Lm} {z : Sg}
theorem keysOk_put : ∀ {l : List (D × D)} (k v : D), keysOk l = true → keysOk (putP l k v) = true ∧ ∀ a, lookD (putP l k v) a = if a = k then some v else lookD l a
  | [], k, v, _ => by
    refine ⟨by simp [putP, keysOk, lookD], fun a => ?_⟩
    simp only [putP, lookD]
    by_cases c : k = a
    · rw [if_pos c, if_pos c.symm]
    · rw [if_neg c, if_neg (fun e => c e.symm)]
  | (a, b) :: l, k, v, h => by
    have h' : lookD l a = none ∧ keysOk l = true := by
      unfold keysOk at h
      rw [Bool.and_eq_true] at h
      exact ⟨of_decide_eq_true h.1, h.2⟩
    have ih := keysOk_put k v h'.2
    unfold putP
    by_cases c : a = k
    · rw [if_pos c]
      subst c
      refine ⟨by unfold keysOk; rw [decide_eq_true h'.1, h'.2]; rfl, fun x => ?_⟩
      simp only [lookD]
      by_cases e : a = x
      · rw [if_pos e, if_pos e.symm]
      · rw [if_neg e, if_neg (fun q => e q.symm), if_neg e]
    · rw [if_neg c]
      refine ⟨?_, fun x => ?_⟩
      · unfold keysOk
        rw [ih.2 a, if_neg c, decide_eq_true h'.1, ih.1]
        rfl
      · simp only [lookD]
        rw [ih.2 x]
        by_cases e : a = x
        · rw [if_pos e, if_pos e, if_neg (fun q => c (e.trans q))]
        · rw [if_neg e, if_neg e]
theorem keysOk_merge : ∀ {l acc : List (D × D)}, keysOk acc = true → keysOk (mergeP acc l) = true
  | [], _, h => h
  | p :: l, acc, h => keysOk_merge (l := l) (keysOk_put p.1 p.2 h).1
theorem merge_enc {H : Hp} {ow : Addr → Prop} : ∀ {l : List (D × D)} {more : List (Key × V)}, EncP K M H ow l more → ∀ {acc : List (D × D)} {kvs : List (Key × V)}, EncP K M H ow acc kvs → keysOk acc = true → EncP K M H ow (mergeP acc l) (mergeK kvs more)
  | [], _, .nil, acc, kvs, h, _ => h
  | (k, d) :: l, _, .cons (q := q) (v := v) (vs := vs) hk hv t, acc, kvs, h, ok => by
    have e1 : mergeP acc ((k, d) :: l) = mergeP (putP acc k d) l := rfl
    have e2 : mergeK kvs ((q, v) :: vs) = mergeK (putK kvs q v) vs := rfl
    rw [e1, e2]
    exact merge_enc t (putP_enc hk hv h ok) (keysOk_put _ _ ok).1
theorem pairs_enc : ∀ {ps : List D} {vs : List V} {kvs : List (D × D)}, EncL K M z.H z.ow ps vs → pairsIn ps = some kvs → ∃ (as : List Addr) (ks : List (Key × V)), vs = as.map V.ref ∧ Paired (fun p kv => SqT K z.H p [kV kv.1, kv.2]) as ks ∧ EncP K M z.H z.ow kvs ks
  | _, _, _, .nil, h => by
    cases h
    exact ⟨[], [], rfl, .nil, .nil⟩
  | _, _, kvs, .cons (d := d) (l := l) h t, e => by
    match d, h, e with
    | .tup [k, v], h, e =>
      unfold pairsIn at e
      cases hk : dkey k with
      | none =>
        rw [hk] at e
        cases e
      | some q =>
        rw [hk] at e
        cases hp : pairsIn l with
        | none =>
          rw [hp] at e
          cases e
        | some r =>
          rw [hp] at e
          cases e
          obtain ⟨as, ks, rfl, P1, P2⟩ := pairs_enc t hp
          cases h with
          | tup hs he =>
            cases he with
            | cons e1 t1 =>
              cases t1 with
              | cons e2 t2 =>
                cases t2
                have ek := key_enc (z := z) (.of e1) hk
                subst ek
                exact ⟨_ :: as, (q, _) :: ks, rfl, .cons hs P1, .cons hk e2 P2⟩
variable {X : Cx} {W : WX}
theorem out_dic {σ : St} {Q : VK} {l : List (D × D)} {kvs : List (Key × V)} (k : SOk K M z) (e : EncP K M z.H z.ow l kvs) (h : Out K M (EncA K M) W σ z Q (.ok (.dic l) z.S)) : ∀ p, z.H p = none → Q (.ref p) (upd z.H p (.dK kvs)) := fun p np =>
  h (z.put p (.dK kvs)) (.ref p) rfl (ext_put np k) (sok_put np k) (.of (.dic at_put (now_put np k) (e.mv (ext_put np k).mv)))
theorem dict_ok (hc : X.calm = true) : CallR X (.type "dict") (rCl X.K M W dictM) := call_of fun as xs z σ' Q k qa h => by
  unfold dictM at h
  split at h
  · obtain ⟨v, rfl, q⟩ := encAs1 qa
    rename_i d
    cases g : getL d z.S with
    | none =>
      rw [g] at h
      exact h.elim
    | some l =>
      rw [g] at h
      dsimp only at h
      cases r : pairsIn l with
      | none =>
        rw [r] at h
        exact h.elim
      | some kvs =>
        rw [r] at h
        obtain ⟨a, vs, rfl, hs, hl⟩ := getL_ok k q g
        obtain ⟨as, ks, rfl, P1, P2⟩ := pairs_enc hl r
        exact ⟨_, call_dictP hc, a, as, ks, rfl, hs, P1, out_dic k (merge_enc P2 .nil rfl) h⟩
  · exact h.elim
theorem dictO_ok (hc : X.calm = true) : CallR X (.type "dict") (rCl X.K M W dictO) := call_of fun as xs z σ' Q k qa h => by
  unfold dictO at h
  split at h
  · obtain ⟨v, rfl, q⟩ := encAs1 qa
    rename_i d
    cases g : getL d z.S with
    | none =>
      rw [g] at h
      exact h.elim
    | some l =>
      rw [g] at h
      dsimp only at h
      cases r : pairsIn l with
      | none =>
        rw [r] at h
        exact h.elim
      | some kvs =>
        rw [r] at h
        obtain ⟨a, vs, rfl, hs, hl⟩ := getL_ok k q g
        obtain ⟨as, ks, rfl, P1, P2⟩ := pairs_enc hl r
        have me := merge_enc P2 .nil rfl
        exact ⟨_, call_dictP hc, a, as, ks, rfl, hs, P1, fun p np => h (z.push p (.dK (mergeK [] ks)) (.dic false (mergeP [] kvs))) (.ref p) rfl (ext_push np k) (sok_push np k ⟨_, upd_same, me.mv (ext_push np k).mv⟩) (encA_push k)⟩
  · exact h.elim
/-! ### d.update(e) -/
theorem d_update {pins : List (Addr × Obj)} {σ : St} {H : Hp} {s : Shared} {a b : Addr} {kvs more : List (Key × V)} {A : Around} {E : Value → Shared → Prop} {Q : Value → Shared → Prop} (I : Inv X pins σ H s) (e : H a = some (.dK kvs)) (e2 : H b = some (.dK more)) (hne : a ≠ b) (hl : kvs.length + more.length ≤ sizeLine)
    (h : ∀ s', Inv X pins σ (upd H a (.dK (mergeK kvs more))) s' → Q .none s') : wpAny (model X.prog X.w) A (call (.builtin "dict.update") [.ref a, .ref b]) Q E s := by
  obtain ⟨z, hd, vs, rel, dd⟩ := dk_of I.hok e
  obtain ⟨z2, hd2, vs2, rel2, dd2⟩ := dk_of I.hok e2
  have hlen : (mergeK kvs more).length ≤ sizeLine := Nat.le_trans (length_mergeK more kvs) hl
  refine call_meetsIn PySem.F.slot_dict_update dd.typeIs PySem.F.entry_dict_update (PySem.F.args_dict_update_2 _ _) (meets_dict_update (mixKind X.prog X.w) a b hne hd2)
    ⟨vs, vs2, dd, dd2, by rw [← rel.length, ← rel2.length]; exact hl, fun h' dd' _ hs => h _ ?_⟩
  have he : ∃ q, h'.get? a = some q := let ⟨q, _, _, hq, _⟩ := dd'; ⟨q, hq⟩
  exact d_write (t' := s.toks) I (by rw [e]; exact True.intro) hs he (dk_new hlen hd (KV.merge rel2 rel) dd')
def updIn (n : Nat) (l : List (D × D)) (S : Sto) : Res D := match S[n]? with
  | some (.dic false l0) => if (keysOk l0 && decide (l0.length + l.length ≤ LINE)) = true then .ok .non (S.set n (.dic false (mergeP l0 l))) else .bad
  | _ => .bad
def updM : Mt := fun d as S => match d, as with
  | .ref n, [.dic l] => updIn n l S
  | _, _ => .bad
theorem upd_ok : MtR X "dict.update" (rMt X.K M W updM) := by
  intro pins s σ H x xs v us Q I rx rxs hh
  obtain ⟨z, d, as, σ', rfl, k, qa, qs, h⟩ := hh
  match d, as, qa, qs, h with
  | .ref n, [.dic l], qa, qs, h =>
    obtain ⟨w, rfl, qy⟩ := encAs1 qs
    have h1 : Out X.K M (EncA X.K M) W σ' z Q (updIn n l z.S) := h
    unfold updIn at h1
    cases hn : z.S[n]? with
    | none =>
      rw [hn] at h1
      exact h1.elim
    | some o =>
      rw [hn] at h1
      cases o with
      | lst fz l => exact h1.elim
      | arr l => exact h1.elim
      | dic fz l0 =>
        cases fz with
        | true => exact h1.elim
        | false =>
          dsimp only at h1
          by_cases cl : (keysOk l0 && decide (l0.length + l.length ≤ LINE)) = true
          · rw [if_pos cl] at h1
            rw [Bool.and_eq_true, decide_eq_true_iff] at cl
            obtain ⟨p, kvs, rfl, hp, hv, hl⟩ := ref_dic k qa hn
            cases qy with
            | of qy =>
              cases qy with
              | @dic b _ more hb nb hm =>
                have hx := ext_wrt (o := .dK (mergeK kvs more)) (b := .dic false (mergeP l0 l)) k hn hp rfl
                have hne : p ≠ b := fun e => nb (e ▸ .inl ⟨n, _, hn, rfl, hp⟩)
                obtain rfl : v = Value.ref p := rx
                cases rxs with
                | cons r t =>
                  cases t
                  rename_i u
                  obtain rfl : u = Value.ref b := r
                  refine d_update I hv hb hne (by rw [← encP_length hl, ← encP_length hm, ← line_eq]; exact cl.2) fun s' J => ?_
                  exact ⟨.non, _, J, rfl, h1 (z.wrt n p (.dK (mergeK kvs more)) (.dic false (mergeP l0 l))) .non rfl hx (sok_wrt k hn hp rfl ⟨_, upd_same, (merge_enc hm hl cl.1).mv hx.mv⟩) (.of .non)⟩
          · rw [if_neg cl] at h1
            exact h1.elim
end
end Sm
/-! Sm44: sorted of ints, of a dict's keys. -/
namespace Sm
open PySem PySem.Spec PyProof.Rows L2
def insI (x : Int) : List Int → List Int
  | [] => [x]
  | y :: l => if x ≤ y then x :: y :: l else y :: insI x l
def sortI : List Int → List Int
  | [] => []
  | x :: l => insI x (sortI l)
theorem insI_perm (x : Int) : ∀ l, (insI x l).Perm (x :: l)
  | [] => .refl _
  | y :: l => by
    unfold insI
    split
    · exact .refl _
    · exact ((insI_perm x l).cons y).trans (.swap x y l)
theorem sortI_perm : ∀ l, (sortI l).Perm l
  | [] => .refl _
  | x :: l => (insI_perm x (sortI l)).trans ((sortI_perm l).cons x)
theorem insI_sorted (x : Int) : ∀ {l : List Int}, l.Pairwise (· ≤ ·) → (insI x l).Pairwise (· ≤ ·)
  | [], _ => by simp [insI]
  | y :: l, h => by
    unfold insI
    rw [List.pairwise_cons] at h
    split
    · rename_i c
      rw [List.pairwise_cons, List.pairwise_cons]
      exact ⟨fun a ha => by
        rcases List.mem_cons.mp ha with rfl | ha
        · exact c
        · exact Int.le_trans c (h.1 a ha), h⟩
    · rename_i c
      rw [List.pairwise_cons]
      refine ⟨fun a ha => ?_, insI_sorted x h.2⟩
      rcases List.mem_cons.mp ((insI_perm x l).mem_iff.mp ha) with rfl | ha
      · omega
      · exact h.1 a ha
theorem sortI_sorted : ∀ l, (sortI l).Pairwise (· ≤ ·)
  | [] => .nil
  | x :: l => insI_sorted x (sortI_sorted l)
theorem sorted_uniq : ∀ {a b : List Int}, a.Perm b → a.Pairwise (· ≤ ·) → b.Pairwise (· ≤ ·) → a = b
  | [], b, p, _, _ => by
    have := p.length_eq
    cases b with
    | nil => rfl
    | cons _ _ => simp at this
  | x :: a, [], p, _, _ => by
    have := p.length_eq
    simp at this
  | x :: a, y :: b, p, ha, hb => by
    rw [List.pairwise_cons] at ha hb
    have e : x = y := by
      have h1 := p.mem_iff.mp (List.mem_cons_self (a := x) (l := a))
      have h2 := p.mem_iff.mpr (List.mem_cons_self (a := y) (l := b))
      rcases List.mem_cons.mp h1 with h1 | h1
      · exact h1
      · rcases List.mem_cons.mp h2 with h2 | h2
        · exact h2.symm
        · have := ha.1 y h2
          have := hb.1 x h1
          omega
    subst e
    rw [sorted_uniq (List.perm_cons x |>.mp p) ha.2 hb.2]
theorem sortI_uniq {ns ns' : List Int} (p : ns'.Perm ns) (h : ns'.Pairwise (· ≤ ·)) : ns' = sortI ns := sorted_uniq (p.trans (sortI_perm ns).symm) h (sortI_sorted ns)
/-- the ints among the keys, if all are -/
def keysI : List (D × D) → Option (List Int)
  | [] => some []
  | (.int i, _) :: l => (keysI l).map (i :: ·)
  | _ :: _ => none
def sortedM : Fn := fun as S => match as with
  | [d] => match getL d S with
    | some l => match allIn l with
      | some ns => .ok (.lst ((sortI ns).map .int)) S
      | none => .bad
    | none => match getP d S with
      | some kvs => match keysI kvs with
        | some ns => if ns.length < 64 then .ok (.lst ((sortI ns).map .int)) S else .bad
        | none => .bad
      | none => .bad
  | _ => .bad
section
variable {X : Cx} {M : Lm} {W : WX} {K : PySem.W.Frag} {z : Sg}
theorem keysI_enc {H : Hp} {ow : Addr → Prop} : ∀ {l : List (D × D)} {kvs : List (Key × V)} {ns : List Int}, EncP K M H ow l kvs → keysI l = some ns → kvs.map (·.1) = ns.map Sum.inl
  | _, _, ns, .nil, h => by
    cases h
    rfl
  | _, _, ns, .cons (k := k) (l := l) hk hv t, h => by
    cases k with
    | int i =>
      have h : (keysI l).map (i :: ·) = some ns := h
      cases r : keysI l with
      | none =>
        rw [r] at h
        cases h
      | some m =>
        rw [r] at h
        cases h
        have e : Sum.inl i = _ := Option.some.inj hk
        rw [List.map_cons, List.map_cons, ← e, keysI_enc t r]
    | _ => cases h
theorem sorted_ok (hc : X.calm = true) : CallR X (.builtin "sorted") (rCl X.K M W sortedM) := call_of fun as xs z σ' Q k qa h => by
  unfold sortedM at h
  split at h
  · obtain ⟨v, rfl, q⟩ := encAs1 qa
    rename_i d
    cases g : getL d z.S with
    | some l =>
      rw [g] at h
      dsimp only at h
      cases r : allIn l with
      | none =>
        rw [r] at h
        exact h.elim
      | some ns =>
        rw [r] at h
        obtain ⟨a, vs, rfl, hs, hl⟩ := getL_ok k q g
        rw [allIn_enc r hl] at hs
        refine ⟨_, cr_sortedI, a, ns, rfl, hs, fun ns' p pm ps np => ?_⟩
        rw [sortI_uniq pm ps]
        exact out_lst k (enc_ints _) h p np
    | none =>
      rw [g] at h
      dsimp only at h
      cases g2 : getP d z.S with
      | none =>
        rw [g2] at h
        exact h.elim
      | some kvs =>
        rw [g2] at h
        dsimp only at h
        cases r : keysI kvs with
        | none =>
          rw [r] at h
          exact h.elim
        | some ns =>
          rw [r] at h
          dsimp only at h
          by_cases c : ns.length < 64
          · rw [if_pos c] at h
            obtain ⟨a, ks, rfl, ha, hl⟩ := getP_ok k q g2
            refine ⟨_, call_sortedDI hc, a, ks, ns, rfl, .inl ha, keysI_enc hl r, c, fun ys p pm ps np => ?_⟩
            rw [sortI_uniq pm ps]
            exact out_lst k (enc_ints _) h p np
          · rw [if_neg c] at h
            exact h.elim
  · exact h.elim
end
section
variable {S : Sto} {P : D → Sto → Prop} {E : D → Sto → Prop}
theorem o_sortL {d : D} {l : List D} {ns : List Int} (e : getL d S = some l) (e2 : allIn l = some ns) (h : P (.lst ((sortI ns).map .int)) S) : OKR (sortedM [d] S) P E := by
  unfold sortedM
  dsimp only
  rw [e]
  dsimp only
  rw [e2]
  exact h
theorem o_sortD {d : D} {kvs : List (D × D)} {ns : List Int} (e0 : getL d S = none) (e : getP d S = some kvs) (e2 : keysI kvs = some ns) (hl : ns.length < 64) (h : P (.lst ((sortI ns).map .int)) S) : OKR (sortedM [d] S) P E := by
  unfold sortedM
  dsimp only
  rw [e0]
  dsimp only
  rw [e]
  dsimp only
  rw [e2]
  dsimp only
  rw [if_pos hl]
  exact h
theorem o_popAt {n : Nat} {l : List D} {i : Int} {k : Nat} {y : D} (hn : S[n]? = some (.lst false l)) (hi : i = k) (hk : l[k]? = some y) (hl : l.length ≤ 1000000) (h : ∀ S1, S1 = S.set n (.lst false (l.eraseIdx k)) → P y S1) : OKR (popM (.ref n) [.int i] S) P E := by
  have hlt := (List.getElem?_eq_some_iff.mp hk).1
  have e : popM (.ref n) [.int i] S = .ok y (S.set n (.lst false (l.eraseIdx k))) := by
    show popIn n i S = _
    unfold popIn
    rw [hn]
    dsimp only
    rw [if_pos (by rw [Bool.and_eq_true, decide_eq_true_iff, decide_eq_true_iff]; omega)]
    have : seqIndex? i l.length = some k := by
      unfold seqIndex?
      rw [hi]
      simp
      omega
    rw [this]
    dsimp only
    unfold popAt
    rw [hk]
  exact OKR.of_eq e (h _ rfl)
theorem o_dict {d : D} {l : List D} {kvs : List (D × D)} (e : getL d S = some l) (e2 : pairsIn l = some kvs) (h : P (.dic (mergeP [] kvs)) S) : OKR (dictM [d] S) P E := by
  unfold dictM
  dsimp only
  rw [e]
  dsimp only
  rw [e2]
  exact h
theorem o_dictO {d : D} {l : List D} {kvs : List (D × D)} (e : getL d S = some l) (e2 : pairsIn l = some kvs) (h : P (.ref S.length) (S ++ [.dic false (mergeP [] kvs)])) : OKR (dictO [d] S) P E := by
  unfold dictO
  dsimp only
  rw [e]
  dsimp only
  rw [e2]
  exact h
theorem o_upd {n : Nat} {l0 l : List (D × D)} (hn : S[n]? = some (.dic false l0)) (hk : keysOk l0 = true) (hl : l0.length + l.length ≤ LINE) (h : ∀ S1, S1 = S.set n (.dic false (mergeP l0 l)) → P .non S1) : OKR (updM (.ref n) [.dic l] S) P E := by
  have e : updM (.ref n) [.dic l] S = .ok .non (S.set n (.dic false (mergeP l0 l))) := by
    show updIn n l S = _
    unfold updIn
    rw [hn]
    dsimp only
    rw [if_pos (by rw [hk, decide_eq_true hl]; rfl)]
  exact OKR.of_eq e (h _ rfl)
end
end Sm
/-! Sm45: {k: v, ..} with keys that are expressions. -/
namespace Sm
open PySem PySem.Spec PyProof.Rows L2
abbrev EF := Env → Sto → Res D
def evalKs : List (EF × EF) → Env → Sto → Option (List D × List D × Sto)
  | [], _, S => some ([], [], S)
  | p :: r, env, S => match p.1 env S with
    | .ok k S1 => (match p.2 env S1 with
      | .ok v S2 => (evalKs r env S2).map fun q => (k :: q.1, v :: q.2.1, q.2.2)
      | _ => none)
    | _ => none
def dispKR (fs : List (EF × EF)) : Env → Sto → Res (List (D × D)) := fun env S => match evalKs fs env S with
  | none => .bad
  | some q => (frzL q.2.1 q.2.2).bind fun l S2 => if (decide (fs.length ≤ 15) && (q.1.all (fun k => (dkey k).isSome) && decide (l.length = q.1.length ∧ q.1.length = fs.length))) = true then .ok (mergeP [] (q.1.zip l)) S2 else .bad
def dispKO (fs : List (EF × EF)) : EF := fun env S => (dispKR fs env S).bind fun l S1 => .ok (.ref S1.length) (S1 ++ [.dic false l])
def dispKF (fs : List (EF × EF)) : EF := fun env S => (dispKR fs env S).bind fun l S1 => .ok (.dic l) S1
section
variable {X : Cx} {M : Lm} {W : WX} {K : PySem.W.Frag}
inductive SKs (X : Cx) (M : Lm) : List (Option Expr) → List Expr → List (EF × EF) → Prop
  | nil : SKs X M [] [] []
  | cons {k v : Expr} {ks : List (Option Expr)} {vs : List Expr} {f g : EF} {fs : List (EF × EF)} (h1 : SE X M W0 k f) (h2 : SE X M W0 v g) (t : SKs X M ks vs fs) : SKs X M (some k :: ks) (v :: vs) ((f, g) :: fs)
def trsK (K : PySem.W.Frag) (M : Lm) (fs : List (EF × EF)) : List (TE × TE) := fs.map fun p => (tE K M W0 p.1, tE K M W0 p.2)
theorem sks_pps {pos : Pos} {ks : List (Option Expr)} {vs : List Expr} {fs : List (EF × EF)} (h : SKs X M ks vs fs) : PPs X pos ks vs (trsK X.K M fs) := by
  induction h with
  | nil => exact pps_nil
  | cons h1 h2 t ih => exact pps_cons h1 h2 ih
theorem sks_len {ks : List (Option Expr)} {vs : List Expr} {fs : List (EF × EF)} (h : SKs X M ks vs fs) : ks.length = vs.length ∧ ks.all (·.isSome) = true := by
  induction h with
  | nil => exact ⟨rfl, rfl⟩
  | cons h1 h2 t ih => exact ⟨by rw [List.length_cons, List.length_cons, ih.1], by rw [List.all_cons, ih.2]; rfl⟩
theorem pairsK_ok {p : Addr} {z : Sg} {env : Env} {σ : L2.St} : ∀ (fs : List (EF × EF)) (zc : Sg) (ks ds : List D) (S' : Sto) (Q' : List (V × V) → Hp → Prop), SOk K M zc → GX p z zc → EnvOk K M zc env σ → evalKs fs env zc.S = some (ks, ds, S') →
    (∀ z' us vs, z'.S = S' → SOk K M z' → Ext zc z' → EncAs K M z' ks us → EncAs K M z' ds vs → us.length = vs.length → Q' (us.zip vs) z'.H) → tPairs (trsK K M fs) σ zc.H Q'
  | [], zc, ks, ds, S', Q', kc, gx, v, e, h => by
    cases e
    exact h zc [] [] rfl kc (Ext.refl _) .nil .nil rfl
  | (f, g) :: fs, zc, ks, ds, S', Q', kc, gx, v, e, h => by
    unfold evalKs at e
    dsimp only at e
    cases r : f env zc.S with
    | ex a S =>
      rw [r] at e
      cases e
    | bad =>
      rw [r] at e
      cases e
    | ok k S1 =>
      rw [r] at e
      dsimp only at e
      cases r1 : g env S1 with
      | ex a S =>
        rw [r1] at e
        cases e
      | bad =>
        rw [r1] at e
        cases e
      | ok d S2 =>
        rw [r1] at e
        dsimp only at e
        cases r2 : evalKs fs env S2 with
        | none =>
          rw [r2] at e
          cases e
        | some pr =>
          rw [r2] at e
          cases e
          show tE K M W0 f σ zc.H fun x H1 => tE K M W0 g σ H1 fun y H2 => tPairs (trsK K M fs) σ H2 fun ps H3 => Q' ((x, y) :: ps) H3
          refine ⟨env, zc, rfl, kc, v, ?_⟩
          rw [r]
          intro z1 x e1 x1 k1 q1
          subst e1
          refine ⟨env, z1, rfl, k1, v.ext x1, ?_⟩
          rw [r1]
          intro z2 y e2 x2 k2 q2
          subst e2
          refine pairsK_ok fs z2 pr.1 pr.2.1 pr.2.2 _ k2 ((gx.step x1).step x2) ((v.ext x1).ext x2) r2 fun z' us vs e3 k3 x3 a1 a2 hl => ?_
          exact h z' (x :: us) (y :: vs) e3 k3 ((x1.trans x2).trans x3) (.cons (q1.ext (x2.trans x3)) a1) (.cons (q2.ext x3) a2) (by rw [List.length_cons, List.length_cons, hl])
/-- keys are numbers or texts -/
theorem keys_enc {z : Sg} : ∀ {ks : List D} {us : List V}, EncAs K M z ks us → ks.all (fun k => (dkey k).isSome) = true → ∃ qs : List Key, us = qs.map kV ∧ ks.map dkey = qs.map some
  | _, _, .nil, _ => ⟨[], rfl, rfl⟩
  | _, _, .cons (d := d) h t, e => by
    rw [List.all_cons, Bool.and_eq_true] at e
    obtain ⟨q, hq⟩ := Option.isSome_iff_exists.mp e.1
    obtain ⟨qs, h1, h2⟩ := keys_enc t e.2
    exact ⟨q :: qs, by rw [List.map_cons, ← h1, key_enc h hq], by rw [List.map_cons, List.map_cons, hq, h2]⟩
theorem zip_enc {H : Hp} {ow : Addr → Prop} : ∀ {ks : List D} {qs : List Key} {l : List D} {vs : List V}, ks.map dkey = qs.map some → EncL K M H ow l vs → EncP K M H ow (ks.zip l) (qs.zip vs)
  | [], [], l, vs, _, h => .nil
  | [], _ :: _, _, _, e, _ => by cases e
  | _ :: _, [], _, _, e, _ => by cases e
  | k :: ks, q :: qs, _, _, e, .nil => .nil
  | k :: ks, q :: qs, _, _, e, .cons h t => by
    rw [List.map_cons, List.map_cons] at e
    injection e with e1 e2
    exact .cons e1 h (zip_enc e2 t)
theorem zip_kV : ∀ (qs : List Key) (vs : List V), (qs.map kV).zip vs = (qs.zip vs).map fun kv => (kV kv.1, kv.2)
  | [], _ => rfl
  | _ :: _, [] => rfl
  | q :: qs, v :: vs => by rw [List.map_cons, List.zip_cons_cons, List.zip_cons_cons, List.map_cons, zip_kV qs vs]
theorem tdispK_of {fs : List (EF × EF)} {fin : List (D × D) → Sto → Res D} {σ : L2.St} {H : Hp} {Q : VK}
    (hfin : ∀ (p : Addr) (z zc : Sg) (l : List (D × D)) (kvs : List (Key × V)), z.H p = none → SOk K M z → SOk K M zc → GX p z zc → zc.H p = some (.dK kvs) → EncP K M zc.H zc.ow l kvs → Out K M (EncA K M) W σ z Q (fin l zc.S) → Q (.ref p) zc.H)
    (h : tE K M W (fun env S => (dispKR fs env S).bind fin) σ H Q) : tDisp (trsK K M fs) σ H Q := by
  obtain ⟨env, z, rfl, k, v, h⟩ := h
  intro p np
  dsimp only at h
  unfold dispKR at h
  cases r : evalKs fs env z.S with
  | none =>
    rw [r] at h
    exact h.elim
  | some pr =>
    obtain ⟨ks, ds, S'⟩ := pr
    rw [r] at h
    dsimp only at h
    cases r2 : frzL ds S' with
    | ex a S => exact absurd r2 frzL_nex
    | bad =>
      rw [r2] at h
      exact h.elim
    | ok l S2 =>
      rw [r2] at h
      have h9 : Out K M (EncA K M) W σ z Q ((if (decide (fs.length ≤ 15) && (ks.all (fun k => (dkey k).isSome) && decide (l.length = ks.length ∧ ks.length = fs.length))) = true then Res.ok (mergeP [] (ks.zip l)) S2 else .bad).bind fin) := h
      by_cases c : (decide (fs.length ≤ 15) && (ks.all (fun k => (dkey k).isSome) && decide (l.length = ks.length ∧ ks.length = fs.length))) = true
      rotate_left
      · rw [if_neg c] at h9
        exact h9.elim
      rw [if_pos c] at h9
      rw [Bool.and_eq_true, Bool.and_eq_true, decide_eq_true_iff, decide_eq_true_iff] at c
      obtain ⟨c15, ca, cl, cl2⟩ := c
      have k0 := sok_mk1 (p := p) (o := .dK []) (.inr ⟨_, rfl⟩) np k
      have g0 := gx_start (p := p) (o := .dK []) np k
      refine pairsK_ok fs (z.mk1 p (.dK [])) ks ds S' _ k0 g0 (v.mvR g0.mv g0.wk.pre g0.wk.grow) r fun z1 us vs e1 k1 x1 a1 a2 hl => ?_
      have g1 := g0.step x1
      subst e1
      obtain ⟨qs, rfl, hk⟩ := keys_enc a1 ca
      obtain ⟨z2, eH, eS, x2, k2, q2⟩ := frzL_ok k1 a2 r2
      have g2 := g1.step x2
      have hp1 : z1.H p = some (.dK []) := (x1.gk p (List.mem_cons_self ..)).trans upd_same
      have lq : (qs.zip vs).length ≤ 15 := by
        have h1 := congrArg List.length hk
        rw [List.length_map, List.length_map] at h1
        rw [List.length_zip]
        omega
      refine ⟨hp1, qs.zip vs, zip_kV qs vs, lq, ?_⟩
      rw [← eH]
      have hpG : p ∈ z2.G := by
        rw [g2.gh]
        exact List.mem_cons_self ..
      have ek : EncL K M (z2.wr1 p (.dK (mergeK [] (qs.zip vs)))).H (z2.wr1 p (.dK (mergeK [] (qs.zip vs)))).ow l vs := q2.mv (mv_wr1 hpG k2)
      refine hfin p z (z2.wr1 p (.dK (mergeK [] (qs.zip vs)))) (mergeP [] (ks.zip l)) (mergeK [] (qs.zip vs)) np k (sok_wr1 (.inr ⟨_, rfl⟩) hpG k2) (g2.wr np k k2) upd_same (merge_enc (zip_enc hk ek) .nil rfl) ?_
      show Out K M (EncA K M) W σ z Q (fin (mergeP [] (ks.zip l)) z2.S)
      rw [eS]
      exact h9
theorem s_dispKO {keys : List (Option Expr)} {values : List Expr} {pos : Pos} {fs : List (EF × EF)} (h : SKs X M keys values fs) (h0 : keys ≠ [] := by exact fun z => nomatch z) (h15 : keys.length ≤ 15 := by decide) : SE X M W (.Dict keys values pos) (dispKO fs) :=
  pe_imp (pe_disp (sks_pps h) (sks_len h).2 (sks_len h).1 h0 h15) fun _ _ _ q => tdispK_of fin_dicO q
theorem s_dispKF {keys : List (Option Expr)} {values : List Expr} {pos : Pos} {fs : List (EF × EF)} (h : SKs X M keys values fs) (h0 : keys ≠ [] := by exact fun z => nomatch z) (h15 : keys.length ≤ 15 := by decide) : SE X M W (.Dict keys values pos) (dispKF fs) :=
  pe_imp (pe_disp (sks_pps h) (sks_len h).2 (sks_len h).1 h0 h15) fun _ _ _ q => tdispK_of fin_dic q
end
end Sm
/-! Sm46: a module's dict: .get(key, else). -/
namespace Sm
open PySem PySem.Spec PyProof.Rows L2
def mdGet (l : List (List Nat × D)) (f g : Env → Sto → Res D) : Env → Sto → Res D := fun env S => (f env S).bind fun d S1 => match d with
  | .str s => (g env S1).bind fun e S2 => match lookM l s with
    | some d => .ok d S2
    | none => .ok e S2
  | _ => .bad
section
variable {X : Cx} {M : Lm} {W : WX}
theorem pe_kdget2 {o e f : Expr} {apos cpos : Pos} {ty tx : TE} {a : Addr} {es : Array DictEntry} {n : Nat} (k : KDict X.K X.w a es n) (ho : PE X o (tC (.ref a))) (he : PE X e ty) (hf : PE X f tx) (m : M2 X o "get" apos e f cpos) : PE X (.Call (.Attribute o "get" apos) [e, f] [] cpos) (fun σ H Q => ty σ H fun y H2 => tx σ H2 fun z H3 => ∃ (s : Str) (r : Option Value), y = .str s ∧ PySem.W.nsIn X.K a s = some r ∧ (∀ u, r = some u → ∃ v, RelV v u ∧ Q v H3) ∧ (r = none → Q z H3)) := by
  refine ⟨fun pins s σ H Q I h => ?_⟩
  refine wpAny_Call_method m.base m.few m.line PySem.F.plainAttrs_dict PySem.F.slot_dict_get PySem.F.type_dict_get (thn (ho.run pins s σ H (fun x H1 => x = .ref a ∧ ty σ H1 fun y H2 => tx σ H2 fun z H3 => ∃ (s : Str) (r : Option Value), y = .str s ∧ PySem.W.nsIn X.K a s = some r ∧ (∀ u, r = some u → ∃ v, RelV v u ∧ Q v H3) ∧ (r = none → Q z H3)) I ⟨rfl, h⟩) fun u s1 ⟨x, H1, I1, rx, ex, q1⟩ => ?_)
  subst ex
  obtain rfl : u = Value.ref a := rx
  have hm1 := PySem.W.mapOf_K (prog := X.prog) (w := X.w) I1.kIn k.at_ k.lit
  refine ⟨hm1.typeIs, fun b q => ?_, ?_⟩
  · cases q
    exact ⟨_, I1.kIn _ _ k.at_, rfl⟩
  rw [m.trees]
  refine Calls.callWith_builtin rfl (Calls.evalArgs_plain (Calls.spliced_cons (thn (he.run pins s1 σ H1 _ I1 q1) fun iv s2 ⟨y, H2, I2, ry, q2⟩ =>
    Calls.spliced_cons (thn (hf.run pins s2 σ H2 _ I2 q2) fun fv s3 ⟨z, H3, I3, rz, sk, r, ey, en, p1, p2⟩ => Calls.spliced_nil ?_))))
  subst ey
  obtain ⟨t, rfl⟩ := ry
  have hm := PySem.W.mapOf_K (prog := X.prog) (w := X.w) I3.kIn k.at_ k.lit
  refine call_meetsIn PySem.F.slot_dict_get hm.typeIs PySem.F.entry_dict_get (PySem.F.args_dict_get_3 _ _ _) (meets_dict_get_default (strKind X.prog X.w) a (strKind_is X.prog X.w sk t) k.low fv) ⟨_, hm, ?_⟩
  have fk := PySem.W.find_K k.at_ en
  rw [fk]
  cases r with
  | none => exact ⟨_, H3, I3.tok _, rz, p2 rfl⟩
  | some u =>
    obtain ⟨v, rv, q⟩ := p1 u rfl
    exact ⟨v, H3, I3.tok _, rv, q⟩
theorem s_mdGet {x : Str} {l : List (List Nat × D)} {e1 e2 : Expr} {p apos cpos : Pos} {f g : Env → Sto → Res D} (C : Kdc X.K X.w X.mg x l) (he : SE X M W e1 f) (hf : SE X M W e2 g) (hg : Gl X x := by rfl) (hd : (x == ("__debug__" : Str)) = false := by decide) (m : M2 X (.Name x p) "get" apos e1 e2 cpos := by exact ⟨rfl, rfl, rfl, rfl⟩) : SE X M W (.Call (.Attribute (.Name x p) "get" apos) [e1, e2] [] cpos) (mdGet l f g) := by
  obtain ⟨a, es, n, hm, k, hl⟩ := C.ex
  refine pe_imp (pe_kdget2 k (pe_glob (v := .ref a) hg hm rfl hd) he hf m) fun σ H Q h => ?_
  obtain ⟨env, z, rfl, kz, v, h⟩ := h
  refine ⟨env, z, rfl, kz, v, (Out.bind h).imp fun b H1 q => ?_⟩
  obtain ⟨d, z1, rfl, _, x1, k1, q1, h1⟩ := q
  cases d with
  | str s =>
    obtain ⟨i1, i2⟩ := ns_kd k hl s
    refine ⟨env, z1, rfl, k1, v.ext x1, (Out.bind h1).imp fun b2 H2 q2 => ?_⟩
    obtain ⟨d2, z2, rfl, _, x2, k2, q2, h2⟩ := q2
    cases r : lookM l s with
    | none =>
      rw [r] at h2
      refine ⟨toS s, none, encA_str q1, i2 r, fun u e => (by cases e), fun _ => ?_⟩
      have h2' : Out X.K M (EncA X.K M) W σ z2 Q (.ok d2 z2.S) := h2
      exact h2' z2 _ rfl (Ext.refl z2) k2 q2
    | some d3 =>
      rw [r] at h2
      obtain ⟨u, e1, e2⟩ := i1 d3 r
      obtain ⟨w, rv, en⟩ := kcB_ok (M := M) d3 u e2
      refine ⟨toS s, some u, encA_str q1, e1, fun u' e => ?_, fun e => (by cases e)⟩
      cases e
      have h2' : Out X.K M (EncA X.K M) W σ z2 Q (.ok d3 z2.S) := h2
      exact ⟨w, rv, h2' z2 w rfl (Ext.refl z2) k2 (.of (en _ _))⟩
  | _ => exact h1.elim
end
section
variable {S : Sto} {R : D → Sto → Prop} {E : D → Sto → Prop} {env : Env} {f g : Env → Sto → Res D}
theorem o_mdGet {l : List (List Nat × D)} (h : OKR (f env S) (fun d S1 => ∃ s, d = .str s ∧ OKR (g env S1) (fun e S2 => R ((lookM l s).getD e) S2) E) E) : OKR (mdGet l f g env S) R E := o_bind (h.mono (fun d S1 q => by
  obtain ⟨s, rfl, q⟩ := q
  refine o_bind (q.mono (fun e S2 q => ?_) fun _ _ q => q)
  cases r : lookM l s with
  | none =>
    rw [r] at q
    exact q
  | some d =>
    rw [r] at q
    exact q) fun _ _ q => q)
instance r_o_mdGet {l : List (List Nat × D)} : Rule (OKR (mdGet l f g env S) R E) (OKR (f env S) (fun d S1 => ∃ s, d = .str s ∧ OKR (g env S1) (fun e S2 => R ((lookM l s).getD e) S2) E) E) := ⟨fun h => o_mdGet h⟩
end
end Sm
/-! Sm47: exceptions of own classes with an __init__ of their own: TowerError.__init__(self, ..). -/
namespace Sm
open PySem PySem.Spec PyProof.Rows L2
section
variable {X : Cx} {e : Expr} {es : List Expr} {ta : TA} {p1 p2 pos : Pos}
theorem pe_teinit {pl : Sem Bool} {x : Str} {T : Addr} {mc : Value} (hg : Gl X x) (hm : X.mg x = some (.ref T)) (sg : PySem.W.specialIn X.K (.ref T) "__getattribute__" = some (some (.builtin "type.__getattribute__"))) (hr : PySem.W.readsIn X.K T mc = true) (vV : PySem.W.findCls X.K (.ref T) mc "__init__" = some (.val (.builtin "ValueError.__init__"))) (ha : PA X (e :: es) ta)
    (hdb : (x == ("__debug__" : Str)) = false := by decide)
    (hc : eval (.Call (.Attribute (.Name x p1) "__init__" p2) (e :: es) [] pos) X.env = (do
      let ov ← eval (.Name x p1) X.env
      standAt p2.atName
      let (f, first) ← holding [ov] (getMethod ov "__init__" pl)
      callWith pos f first (backTo pos (starEach (e :: es) X.env)) (backToKw pos (keywordEach [] X.env))) := by rfl)
    (he : starEach (e :: es) X.env = (false, eval e X.env) :: starEach es X.env := by rfl) (hpl : (backTo pos (starEach es X.env)).any (·.1) = false := by rfl) :
    PE X (.Call (.Attribute (.Name x p1) "__init__" p2) (e :: es) [] pos) (tVeI X.K ta) := by
  refine ⟨fun pins s σ H Q I h => ?_⟩
  refine PySem.W.methodCall_KW (ld_glob I hg hm ?_ hdb) hc
  refine PySem.W.method_cls I.kIn sg (PySem.W.cls_value I.kIn hr vV (by decide +kernel) ?_)
  show wpAny _ _ (callWith pos (Value.builtin "ValueError.__init__") [] (backTo pos (starEach (e :: es) X.env)) []) _ _ _
  refine PyProof.Rows.callWith_method1 (thn (ha.run pos pins _ σ H _ (I.tok _) h) fun us s1 ⟨vs, H1, I1, r1, a, C, ws, ev, hl, T, ea, q⟩ => ?_) he hpl
  subst ev
  cases r1 with
  | @cons _ u0 _ ur ra rw' =>
    obtain rfl : u0 = Value.ref a := ra
    have hlen : ur.length ≤ sizeLine := by
      rw [← Paired.length rw', sizeLine_eq]
      omega
    exact oinit_ok T I1 ea hlen fun s' J => ⟨.non, H1, J, rfl, q⟩
end
end Sm
/-! Sm48: raise C(e), C with an __init__ of its own that keeps one field. -/
namespace Sm
open PySem PySem.Spec PyProof.Rows L2
/-- what an __init__ of one field keeps -/
def sp1 (C : Addr) (fn : Str) : Sp := fun vs H Q _ => ∃ (a : Addr) (v : V), vs = [.ref a, v] ∧ H a = some (exo a C none) ∧ ∀ dx, H dx = none → dx ≠ a → Q .non (upd (upd H dx (exd dx [(fn, v)])) a (exo a C (some dx)))
theorem init1_ok {P : Program} {w : World} {K : PySem.W.Frag} {mg : Str → Option Value} {base : Heap} {x qual sn vn fn : Str} {st : Stmt} {f : Addr} {fd : FuncData} {k : Nat} {C : Addr} (F : Fun K x qual st f fd) (S : FnScope [sn, vn] [sn, vn] (defScope st)) (T : OexC K C) (hno : PySem.W.findIn K (.ref C) fn = some none)
    (hb : ∀ (cdv : Value) (A : Around) (outer : List PySem.Env) (s : Shared) (H : Hp) (E : XK), PSs (cxOf (L2.CX P w) P w K mg base [sn, vn] qual (defScope st) f cdv A outer s H E) (defBody st) (tSeq (tDrop (tVeI K (tCons (tVar 0) (tCons (tVar 1) tNil)))) (tOst K fn (tVar 0) (tVar 1)))) :
    FnOk P w K mg base (L2.CX P w) (k + 1) f fd [sn, vn] (sp1 C fn) := by
  refine Fun.okX F S (fun vs H Q E h => ?_) fun cdv A outer s H vs Q E _ h => ?_
  · obtain ⟨a, v, rfl, _⟩ := h
    rfl
  · obtain ⟨a, v, rfl, ha, q⟩ := h
    exact ⟨_, hb cdv A outer s H E, .ref a, rfl, v, rfl, a, C, [v], rfl, Nat.le_of_ble_eq_true rfl, T, ha, v, rfl, .ref a, rfl, a, C, rfl, T, hno, .inl ⟨ha, q⟩⟩
def raise1F (k : Nat) (g : Env → Sto → Res D) : Env → Sto → SR := fun env S => (g env S).thn env fun d S1 => match frz1 d S1 with
  | .ok d' S2 => .ex (.exc k [d']) env S2
  | _ => .bad
section
variable {X : Cx} {M : Lm} {W : WX}
theorem ss_raise1 (k : Nat) {x sn vn fn : Str} {e : Expr} {g : Env → Sto → Res D} {fI : Addr} {fd : FuncData} {j : Nat} {p pos pos2 : Pos} (hc : X.calm = true) (tk : Takes X W) (T : OexC X.K (M.cls k)) (iC : PySem.W.findIn X.K (.ref (M.cls k)) "__init__" = some (some (.ref fI))) (tI : PySem.W.typeIn X.K (.ref fI) = some (.type "function"))
    (F1 : FnOk X.prog X.w X.K X.mg X.base (L2.CX X.prog X.w) j fI fd [sn, vn] (sp1 (M.cls k) fn)) (hr : Room (j + 1) X.A) (hb : Binds X.K fd [sn, vn] []) (hf : M.fld k = [fn]) (he : SE X M W e g) (hm : X.mg x = some (.ref (M.cls k))) (hg : Gl X x := by rfl) (hdb : (x == ("__debug__" : Str)) = false := by decide)
    (hs : starEach [e] X.env = (false, eval e X.env) :: starEach [] X.env := by rfl) (hpl : (backTo pos (starEach [] X.env)).any (·.1) = false := by rfl) :
    SS X M W (.Raise (some (.Call (.Name x p) [e] [] pos)) none pos2) (raise1F k g) := by
  refine ps_imp (ps_raise hc tk (pmk_oex (dvs := []) T iC tI F1 hr hb .nil passL hg hm (pa_cons he pa_nil hs) hdb hs hpl)) fun D σ H h => ?_
  obtain ⟨env, z, rfl, kz, v, h⟩ := h
  refine ⟨env, z, rfl, kz, v, (Out.thn v h).imp fun b H1 q => ?_⟩
  obtain ⟨d, z1, rfl, _, x1, k1, q, v1, h1⟩ := q
  cases rf : frz1 d z1.S with
  | ok d' S2 =>
    rw [rf] at h1
    obtain ⟨z2, e1, e2, x2, k2, q2⟩ := frz1_ok k1 q rf
    refine ⟨Nat.le_of_ble_eq_true rfl, fun a na => ⟨a, b, rfl, upd_same, fun dx nd hda => ⟨rfl, dx, [(fn, b)], upd_same, ?_, ?_, ?_⟩⟩⟩
    · rw [upd_ne hda, upd_same]
    · rw [upd_ne hda] at nd
      exact nd
    · rw [upd_ne hda] at nd
      have nd2 : z2.H dx = none := by
        rw [e1]
        exact nd
      have eH : upd (del (upd (upd (upd z1.H a (exo a (M.cls k) none)) dx (exd dx [(fn, b)])) a (exo a (M.cls k) (some dx))) a) dx (.xd [(fn, b)]) = (z2.put dx (.xd [(fn, b)])).H := by
        show _ = upd z2.H dx (.xd [(fn, b)])
        rw [e1]
        funext c
        by_cases c1 : c = dx
        · rw [c1, upd_same, upd_same]
        · rw [upd_ne c1, upd_ne c1]
          by_cases c2 : c = a
          · rw [c2, del_same]
            exact na.symm
          · rw [del_ne c2, upd_ne c2, upd_ne c1, upd_ne c2]
      rw [eH]
      have x3 := ext_put (o := .xd [(fn, b)]) nd2 k2
      have k3 := sok_put (o := .xd [(fn, b)]) nd2 k2
      refine h1 (z2.put dx (.xd [(fn, b)])) σ _ _ e2 (x2.trans x3) k3 (v1.ext (x2.trans x3)) ⟨k, [d'], [b], rfl, rfl, .inr ⟨dx, fun z => (by cases z), rfl, ?_⟩, .cons (Enc.mv x3.mv q2) .nil⟩
      show upd z2.H dx (.xd [(fn, b)]) dx = _
      rw [upd_same, hf]
      rfl
  | ex e S => 
    rw [rf] at h1
    exact h1.elim
  | bad =>
    rw [rf] at h1
    exact h1.elim
end
section
variable {S : Sto} {N B C : Env → Sto → Prop} {T : D → Sto → Prop} {X : D → Env → Sto → Prop} {env : Env} {g : Env → Sto → Res D}
theorem o_raise1 {k : Nat} (h : OKR (g env S) (fun d S1 => nr d = true ∧ X (.exc k [d]) env S1) (fun e S1 => X e env S1)) : OKS (raise1F k g env S) N B C T X := by
  unfold raise1F
  cases q : g env S with
  | ok d S1 =>
    rw [q] at h
    obtain ⟨h1, h2⟩ := h
    show OKS (match frz1 d S1 with
      | .ok d' S2 => .ex (.exc k [d']) env S2
      | _ => .bad) N B C T X
    rw [frz1_nr h1]
    exact h2
  | ex e S1 =>
    rw [q] at h
    exact h
  | bad =>
    rw [q] at h
    exact h
end
end Sm
/-! Sm49: e.f of an exception that was caught into a name. -/
namespace Sm
open PySem PySem.Spec PyProof.Rows L2
theorem pe_xfT {X : Cx} {e : Expr} {te : TE} {pos : Pos} {n : Str} (he : PE X e te) (hb : attributeBase e n X.env (eval e X.env) = eval e X.env := by rfl) :
    PE X (.Attribute e n pos) (fun σ H Q => te σ H fun x H1 => ∃ (a C dd : Addr) (fs : List (Str × V)) (v : V), x = .ref a ∧ H1 a = some (EXO a C (some dd)) ∧ H1 dd = some (.xd fs) ∧ fs.lookup n = some v ∧ XfC X.K C ∧ PySem.W.findIn X.K (.ref C) n = some none ∧ Q v H1) := by
  refine ⟨fun pins s σ H Q I h => ?_⟩
  refine attr_of hb (thn (he.run pins s σ H _ I h) fun u s1 hh => ?_)
  obtain ⟨x, H1, I1, rx, a, C, dd, fs, v, ex, hx, ea, l, T, hno, q⟩ := hh
  subst ex
  obtain rfl : u = Value.ref a := rx
  have ho1 : ObjOk X.prog X.w H1 s1.heap a (EXO a C (some dd)) := I1.hok a _ hx
  obtain ⟨⟨oe, vs, ha, hz, hd⟩, _, _⟩ := ho1
  have hx : ObjOk X.prog X.w H1 s1.heap dd (.xd fs) := I1.hok dd _ ea
  obtain ⟨mA, hns, hr⟩ := hx
  obtain ⟨od, ho, hl⟩ := lookIn_ns hns
  obtain ⟨u, hu, ru⟩ := RelO.some_of (v := v) (o := mA n) (by rw [← l]; exact hr n)
  have J : PySem.W.InstAt s1.heap a oe C (some od) := ⟨ha, hz.1, by unfold PySem.W.notCls; rw [hd] <;> rfl, by rw [hz.2]; exact ho⟩
  exact HandSPX.exc_get I1.kIn J T.ga T.gg T.exC (PySem.W.findObj_own T.hdC hno rfl (by rw [hl, hu])) (handed_of ru) ⟨v, H1, I1.tok _, ru, q⟩
/-- the first field of an exception of one of these classes -/
def fldF (ks : List Nat) (g : Env → Sto → Res D) : Env → Sto → Res D := fun env S => (g env S).bind fun d S1 => match d with
  | .exc k (x :: _) => if ks.contains k = true then .ok x S1 else .bad
  | _ => .bad
section
variable {X : Cx} {M : Lm} {W : WX}
structure FldK (K : PySem.W.Frag) (M : Lm) (n : Str) (k : Nat) : Prop where
  xf : XfC K (M.cls k)
  no : PySem.W.findIn K (.ref (M.cls k)) n = some none
  at_ : M.fld k = [n]
theorem s_fld {n : Str} (ks : List Nat) {e : Expr} {pos : Pos} {g : Env → Sto → Res D} (hk : ∀ k ∈ ks, FldK X.K M n k) (he : SE X M W e g) (hb : attributeBase e n X.env (eval e X.env) = eval e X.env := by rfl) : SE X M W (.Attribute e n pos) (fldF ks g) := by
  refine pe_imp (pe_xfT he hb) fun σ H Q h => ?_
  obtain ⟨env, z, rfl, kz, v, h⟩ := h
  refine ⟨env, z, rfl, kz, v, (Out.bind h).imp fun b H1 q => ?_⟩
  obtain ⟨d, z1, rfl, _, x1, k1, q1, h1⟩ := q
  cases d with
  | exc k l =>
    cases l with
    | nil => exact h1.elim
    | cons x l =>
      by_cases c : ks.contains k = true
      · have h2 : Out X.K M (EncA X.K M) W σ z1 Q (if ks.contains k = true then .ok x z1.S else .bad) := h1
        rw [if_pos c] at h2
        have F := hk k (by simpa using c)
        cases q1 with
        | of q1 =>
          cases q1 with
          | @exc a _ _ dx vs ha na xf el =>
            cases el with
            | @cons _ u _ us hu tl =>
              rcases xf with ⟨e0, _⟩ | ⟨dd, _, e1, e2⟩
              · cases e0
              · subst e1
                refine ⟨a, M.cls k, dd, _, u, rfl, ha, e2, ?_, F.xf, F.no, h2 z1 u rfl (Ext.refl z1) k1 (.of hu)⟩
                rw [F.at_]
                show ((n, u) :: _).lookup n = some u
                rw [List.lookup_cons, beq_self_eq_true]
      · have h2 : Out X.K M (EncA X.K M) W σ z1 Q (if ks.contains k = true then .ok x z1.S else .bad) := h1
        rw [if_neg c] at h2
        exact h2.elim
  | _ => exact h1.elim
end
section
variable {S : Sto} {R : D → Sto → Prop} {E : D → Sto → Prop} {env : Env} {g : Env → Sto → Res D}
theorem o_fld {ks : List Nat} (h : OKR (g env S) (fun d S1 => ∃ k x l, d = .exc k (x :: l) ∧ ks.contains k = true ∧ R x S1) E) : OKR (fldF ks g env S) R E := o_bind (h.mono (fun d S1 q => by
  obtain ⟨k, x, l, rfl, c, q⟩ := q
  show OKR (if ks.contains k = true then .ok x S1 else .bad) R E
  rw [if_pos c]
  exact q) fun _ _ q => q)
end
end Sm
/-! Sm50: classes with a field in a law's table; what a class with an __init__ of its own must have, as the text tells it. -/
namespace Sm
open PySem PySem.Spec PyProof.Rows L2
/-- as MofF, with the classes' fields -/
def MofX (Cs : List Addr) (T : List (Addr × Str)) (A : Bool) (Fs : List Addr) (Fl : List (List Str)) : Lm := { MofF Cs T A Fs with fld := fun k => Fl.getD k [] }
theorem sub_mkX {K : PySem.W.Frag} {Cs Fs : List Addr} {T : List (Addr × Str)} {A : Bool} {Fl : List (List Str)} {tab : List (Nat × List Bool)} (hall : ∀ C ∈ Cs, ClK K C) (hrows : ∀ p ∈ tab, RowK K Cs p.1 p.2) (hlt : (tab.all fun p => decide (p.1 < 1000) && decide (p.2.length ≤ 1000)) = true) : SubOk K (MofX Cs T A Fs Fl) (subBy tab) :=
  (sub_mkF (T := T) (A := A) (Fs := Fs) hall hrows hlt).cls fun k j b q => ⟨rfl, rfl⟩
/-- class number k of the text, its __init__ keeps the field n of its one argument -/
structure Ini (P : Program) (w : World) (K : PySem.W.Frag) (M : Lm) (mg : Str → Option Value) (base : Heap) (k j : Nat) (n : Str) : Prop where
  oex : OexC K (M.cls k)
  fn : ∃ (fI : Addr) (fd : FuncData) (sn vn : Str), PySem.W.findIn K (.ref (M.cls k)) "__init__" = some (some (.ref fI)) ∧ PySem.W.typeIn K (.ref fI) = some (.type "function") ∧ FnOk P w K mg base (L2.CX P w) j fI fd [sn, vn] (sp1 (M.cls k) n) ∧ Binds K fd [sn, vn] []
  fld : M.fld k = [n]
section
variable {X : Cx} {M : Lm} {W : WX}
theorem ss_raiseI (k : Nat) {j : Nat} {x n : Str} {e : Expr} {g : Env → Sto → Res D} {p pos pos2 : Pos} (hc : X.calm = true) (tk : Takes X W) (I : Ini X.prog X.w X.K M X.mg X.base k j n) (hr : Room (j + 1) X.A) (he : SE X M W e g) (hm : X.mg x = some (.ref (M.cls k))) (hg : Gl X x := by rfl) (hdb : (x == ("__debug__" : Str)) = false := by decide)
    (hs : starEach [e] X.env = (false, eval e X.env) :: starEach [] X.env := by rfl) (hpl : (backTo pos (starEach [] X.env)).any (·.1) = false := by rfl) :
    SS X M W (.Raise (some (.Call (.Name x p) [e] [] pos)) none pos2) (raise1F k g) := by
  obtain ⟨fI, fd, sn, vn, h1, h2, h3, h4⟩ := I.fn
  exact ss_raise1 k hc tk I.oex h1 h2 h3 hr h4 I.fld he hm hg hdb hs hpl
end
instance r_o_raise1 {S : Sto} {N B C : Env → Sto → Prop} {T : D → Sto → Prop} {X : D → Env → Sto → Prop} {env : Env} {g : Env → Sto → Res D} {k : Nat} : RuleS (OKS (raise1F k g env S) N B C T X) (OKR (g env S) (fun d S1 => nr d = true ∧ X (.exc k [d]) env S1) (fun e S1 => X e env S1)) := ⟨fun h => o_raise1 h⟩
instance r_o_fld {S : Sto} {R : D → Sto → Prop} {E : D → Sto → Prop} {env : Env} {g : Env → Sto → Res D} {ks : List Nat} : Rule (OKR (fldF ks g env S) R E) (OKR (g env S) (fun d S1 => ∃ k x l, d = .exc k (x :: l) ∧ ks.contains k = true ∧ R x S1) E) := ⟨fun h => o_fld h⟩
theorem Ini.of {P : Program} {w : World} {K : PySem.W.Frag} {M : Lm} {mg : Str → Option Value} {base : Heap} {i : Nat} {fI : Addr} {qual sn vn n : Str} {st : Stmt} {fd : FuncData} (ox : OexC K (M.cls i)) (fi : PySem.W.findIn K (.ref (M.cls i)) "__init__" = some (some (.ref fI))) (ti : PySem.W.typeIn K (.ref fI) = some (.type "function")) (F : Fun K "__init__" qual st fI fd) (S : FnScope [sn, vn] [sn, vn] (defScope st)) (no : PySem.W.findIn K (.ref (M.cls i)) n = some none) (bi : Binds K fd [sn, vn] []) (fl : M.fld i = [n])
    (hb : ∀ (cdv : Value) (A : Around) (outer : List PySem.Env) (s : Shared) (H : Hp) (E : XK), PSs (cxOf (L2.CX P w) P w K mg base [sn, vn] qual (defScope st) fI cdv A outer s H E) (defBody st) (tSeq (tDrop (tVeI K (tCons (tVar 0) (tCons (tVar 1) tNil)))) (tOst K n (tVar 0) (tVar 1)))) : Ini P w K M mg base i 1 n :=
  ⟨ox, ⟨fI, fd, sn, vn, fi, ti, init1_ok (k := 0) F S ox no hb, bi⟩, fl⟩
end Sm
/-! Sm51: OexC by the text's Boolean tests; an __init__ of two fields; exceptions made as values. -/
namespace Sm
open PySem PySem.Spec PyProof.Rows L2
abbrev veT : List Value := [.type "ValueError", .type "Exception", .type "BaseException", .type "object"]
theorem refsVE_of : ∀ l : List Value, PySem.W.excTail veT l = true → PySem.HandSPX.refsVE l = true := by
  intro l
  induction l with
  | nil => exact fun e => e
  | cons a r ih =>
    intro e
    cases a with
    | ref c => exact ih e
    | _ => exact e
theorem OexC.of {K : PySem.W.Frag} {C : Addr} (q : PySem.W.excInitIn K C veT "ValueError.__new__" = true) (hd : PySem.W.hasDictIn K C = true) (sa : PySem.W.findIn K (.ref C) "__setattr__" = some (some (.builtin "object.__setattr__"))) (s : PySem.W.subIn K (.ref C) (.type "BaseException") = some true) (t : PySem.W.typeIn K (.ref C) = some (.type "type")) (k : PySem.W.keepIn K (.ref C) = true) : OexC K C := by
  refine ⟨?_, sa, s, t, k⟩
  unfold PySem.W.excInitIn at q
  split at q
  · rename_i dd cd sl ho
    split at q
    · rename_i C' bm k0 k1 k2 k3 n k5 hm hs
      simp only [Bool.and_eq_true, beq_iff_eq, Bool.not_eq_true'] at q
      obtain ⟨⟨⟨rfl, rfl⟩, hdel⟩, ht⟩ := q
      have hc : PySem.W.clsIn K C' = some cd := by unfold PySem.W.clsIn; rw [ho] <;> rfl
      unfold PySem.W.hasDictIn at hd
      rw [hc] at hd
      have hd' : cd.hasDict = true := hd
      obtain ⟨nm, bs, mro, ns, qn, hdc, sn, sub, ab, col, del⟩ := cd
      dsimp only at hm hdel hd'
      subst hm hdel hd'
      have hsl : sl = #[k0, k1, k2, k3, some (.builtin "ValueError.__new__"), k5] := by
        obtain ⟨l⟩ := sl
        simp only at hs
        rw [hs]
      subst hsl
      exact ⟨nm, qn, ns, bs, bm, sn, sub, ab, col, dd, k0, k1, k2, k3, k5, ho, refsVE_of _ ht⟩
    · cases q
  · cases q
/-! ### what makes an exception, told once for raise and for values -/
def tMk (K : PySem.W.Frag) (M : Lm) (W : WX) (k : Nat) (g : Env → Sto → Res (List D)) : L2.St → Hp → XK → Prop := fun σ H Q => ∃ env z, H = z.H ∧ SOk K M z ∧ EnvOk K M z env σ ∧ Out K M (fun z l d => EncX K M z (.exc k l) (.ref (M.cls k)) d) W σ z (fun d H1 => Q (.ref (M.cls k)) d H1) (g env z.S)
def SMk (X : Cx) (M : Lm) (W : WX) (k : Nat) (e : Expr) (g : Env → Sto → Res (List D)) : Prop := PMk X e (tMk X.K M W k g)
theorem pmk_imp {X : Cx} {e : Expr} {t t' : L2.St → Hp → XK → Prop} (he : PMk X e t) (h : ∀ σ H Q, t' σ H Q → t σ H Q) : PMk X e t' := fun pins s σ H Q I q => he pins s σ H Q I (h σ H Q q)
def mk0 : Env → Sto → Res (List D) := fun _ S => .ok [] S
def mk1 (g : Env → Sto → Res D) : Env → Sto → Res (List D) := fun env S => (g env S).bind fun d S1 => (frz1 d S1).bind fun d' S2 => .ok [d'] S2
def mk2 (g1 g2 : Env → Sto → Res D) : Env → Sto → Res (List D) := fun env S => (g1 env S).bind fun d S1 => (frz1 d S1).bind fun d' S2 => (g2 env S2).bind fun e S3 => (frz1 e S3).bind fun e' S4 => .ok [e', d'] S4
def raiseG (k : Nat) (g : Env → Sto → Res (List D)) : Env → Sto → SR := fun env S => (g env S).thn env fun l S1 => .ex (.exc k l) env S1
def excG (k : Nat) (g : Env → Sto → Res (List D)) : Env → Sto → Res D := fun env S => (g env S).bind fun l S1 => .ok (.exc k l) S1
section
variable {X : Cx} {M : Lm} {W : WX}
theorem pe_pmk {e : Expr} {t : L2.St → Hp → XK → Prop} (he : PMk X e t) : PE X e (fun σ H Q => t σ H fun cls d H' => ∀ a, H' a = none → ∃ C, cls = .ref C ∧ Q (.ref a) (upd H' a (EXO a C d))) := by
  refine ⟨fun pins s σ H Q I h => ?_⟩
  refine wpAny_mono (he pins s σ H _ I h) (fun u s1 hu => ?_) fun _ _ x => x
  obtain ⟨a, oe, vs, sI, H', cls, d, rfl, J, k, hne, ha, hz, hd, h1, na, os, ag, r, q⟩ := hu
  obtain ⟨C, rfl, q'⟩ := q a na
  obtain ⟨h2, g2, d2, t2, os2⟩ := s1
  exact ⟨.ref a, upd H' a (EXO a C d), J.call' (ch := []) os (Un.laidN k hne na) (J.hok.laidN k na (exo_ok ha hz hd)) ag (fun b z => absurd z (by simp)), rfl, q'⟩
theorem s_excG {k : Nat} {e : Expr} {g : Env → Sto → Res (List D)} (he : SMk X M W k e g) : SE X M W e (excG k g) := by
  refine pe_imp (pe_pmk he) fun σ H Q h => ?_
  obtain ⟨env, z, rfl, kz, v, h⟩ := h
  refine ⟨env, z, rfl, kz, v, (Out.bind h).imp fun d H1 q => ?_⟩
  obtain ⟨l, z1, rfl, _, x1, k1, q1, h1⟩ := q
  intro a na
  obtain ⟨k', l', vs, e0, e1, xf, el⟩ := q1
  cases e0
  refine ⟨M.cls k, rfl, ?_⟩
  have x2 : Ext z1 (z1.put a (EXO a (M.cls k) d)) := ext_put na k1
  have q2 : Enc X.K M (z1.put a (EXO a (M.cls k) d)).H (z1.put a (EXO a (M.cls k) d)).ow (.exc k l) (.ref a) := by
    refine .exc at_put (now_put na k1) ?_ (el.mv x2.mv)
    rcases xf with xf | ⟨dd, h0, h1, h2⟩
    · exact .inl xf
    · exact .inr ⟨dd, h0, h1, x2.xds _ _ h2⟩
  exact h1 (z1.put a (EXO a (M.cls k) d)) _ rfl x2 (sok_put na k1) (.of q2)
theorem ss_raiseG {k : Nat} {e : Expr} {pos : Pos} {g : Env → Sto → Res (List D)} (hc : X.calm = true) (tk : Takes X W) (he : SMk X M W k e g) : SS X M W (.Raise (some e) none pos) (raiseG k g) := by
  refine ps_imp (ps_raise hc tk he) fun D σ H h => ?_
  obtain ⟨env, z, rfl, kz, v, h⟩ := h
  refine ⟨env, z, rfl, kz, v, (Out.thn v h).imp fun d H1 q => ?_⟩
  obtain ⟨l, z1, rfl, _, x1, k1, q1, v1, h1⟩ := q
  exact h1 z1 σ _ _ rfl (Ext.refl z1) k1 v1 q1
theorem smk0 (k : Nat) {x m : Str} {j : Nat} {p p2 pos : Pos} (C : XcF X.K (M.cls k)) (hm : X.mg x = some (.ref (M.cls k))) (hg : Gl X x := by rfl) (hdb : (x == ("__debug__" : Str)) = false := by decide) :
    SMk X M W k (.Call (.Name x p) [.Constant (.str m) j p2] [] pos) mk0 := by
  refine pmk_imp (pmk_own PySem.F.excBase_ValueError C.ex hm C.kp (raises_own C.sb C.ty) hg hdb) fun σ H Q h => ?_
  obtain ⟨env, z, rfl, kz, v, h⟩ := h
  exact h z none rfl (Ext.refl z) kz ⟨k, [], [], rfl, rfl, .inl ⟨rfl, rfl⟩, .nil⟩
theorem frz_out {γ δ : Type} {enc2 : Sg → γ → δ → Prop} {σ : L2.St} {Q : δ → Hp → Prop} {z1 : Sg} {d : D} {b : V} {f : D → Sto → Res γ} (k1 : SOk X.K M z1) (q : EncA X.K M z1 d b) (h : Out X.K M enc2 W σ z1 Q ((frz1 d z1.S).bind f)) :
    ∃ d' z2, z2.H = z1.H ∧ Ext z1 z2 ∧ SOk X.K M z2 ∧ Enc X.K M z2.H z2.ow d' b ∧ Out X.K M enc2 W σ z2 Q (f d' z2.S) := by
  cases rf : frz1 d z1.S with
  | ok d' S2 =>
    rw [rf] at h
    obtain ⟨z2, e1, e2, x2, k2, q2⟩ := frz1_ok k1 q rf
    subst e2
    exact ⟨d', z2, e1, x2, k2, q2, Out.rebase x2 h⟩
  | ex e S =>
    exfalso
    unfold frz1 at rf
    split at rf
    · cases rf
    · split at rf <;> cases rf
    · cases rf
  | bad =>
    rw [rf] at h
    exact h.elim
/-- the heap behind an __init__, let go -/
theorem heap_let {H : Hp} {a dx C : Addr} {fs gs : List (Str × V)} (na : H a = none) (hda : dx ≠ a) :
    upd (del (upd (upd (upd (upd H a (exo a C none)) dx (exd dx fs)) a (exo a C (some dx))) dx (exd dx gs)) a) dx (.xd gs) = upd H dx (.xd gs) := by
  funext c
  by_cases c1 : c = dx
  · rw [c1, upd_same, upd_same]
  · rw [upd_ne c1, upd_ne c1]
    by_cases c2 : c = a
    · rw [c2, del_same]
      exact na.symm
    · rw [del_ne c2, upd_ne c1, upd_ne c2, upd_ne c1, upd_ne c2]
theorem heap_let1 {H : Hp} {a dx C : Addr} {fs : List (Str × V)} (na : H a = none) (hda : dx ≠ a) :
    upd (del (upd (upd (upd H a (exo a C none)) dx (exd dx fs)) a (exo a C (some dx))) a) dx (.xd fs) = upd H dx (.xd fs) := by
  funext c
  by_cases c1 : c = dx
  · rw [c1, upd_same, upd_same]
  · rw [upd_ne c1, upd_ne c1]
    by_cases c2 : c = a
    · rw [c2, del_same]
      exact na.symm
    · rw [del_ne c2, upd_ne c2, upd_ne c1, upd_ne c2]
/-- what an __init__ of two fields keeps -/
def sp2 (C : Addr) (f1 f2 : Str) : Sp := fun vs H Q _ => ∃ (a : Addr) (v1 v2 : V), vs = [.ref a, v1, v2] ∧ H a = some (exo a C none) ∧ ∀ dx, H dx = none → dx ≠ a → Q .non (upd (upd (upd H dx (exd dx [(f1, v1)])) a (exo a C (some dx))) dx (exd dx [(f2, v2), (f1, v1)]))
end
theorem init2_ok {P : Program} {w : World} {K : PySem.W.Frag} {mg : Str → Option Value} {base : Heap} {x qual sn n1 n2 f1 f2 : Str} {st : Stmt} {f : Addr} {fd : FuncData} {k : Nat} {C : Addr} (F : Fun K x qual st f fd) (S : FnScope [sn, n1, n2] [sn, n1, n2] (defScope st)) (T : OexC K C) (h1 : PySem.W.findIn K (.ref C) f1 = some none) (h2 : PySem.W.findIn K (.ref C) f2 = some none)
    (hb : ∀ (cdv : Value) (A : Around) (outer : List PySem.Env) (s : Shared) (H : Hp) (E : XK), PSs (cxOf (L2.CX P w) P w K mg base [sn, n1, n2] qual (defScope st) f cdv A outer s H E) (defBody st) (tSeq (tDrop (tVeI K (tCons (tVar 0) (tCons (tVar 1) (tCons (tVar 2) tNil))))) (tSeq (tOst K f1 (tVar 0) (tVar 1)) (tOst K f2 (tVar 0) (tVar 2))))) :
    FnOk P w K mg base (L2.CX P w) (k + 1) f fd [sn, n1, n2] (sp2 C f1 f2) := by
  refine Fun.okX F S (fun vs H Q E h => ?_) fun cdv A outer s H vs Q E _ h => ?_
  · obtain ⟨a, v1, v2, rfl, _⟩ := h
    rfl
  · obtain ⟨a, v1, v2, rfl, ha, q⟩ := h
    refine ⟨_, hb cdv A outer s H E, .ref a, rfl, v1, rfl, v2, rfl, a, C, [v1, v2], rfl, Nat.le_of_ble_eq_true rfl, T, ha, v1, rfl, .ref a, rfl, a, C, rfl, T, h1, .inl ⟨ha, fun dx nd hda => ⟨v2, rfl, .ref a, rfl, a, C, rfl, T, h2, .inr ⟨dx, [(f1, v1)], upd_same, ?_, Nat.le_of_ble_eq_true rfl, q dx nd hda⟩⟩⟩⟩
    rw [upd_ne hda, upd_same]
section
variable {X : Cx} {M : Lm} {W : WX}
theorem smk1 (k : Nat) {j : Nat} {x n : Str} {e : Expr} {g : Env → Sto → Res D} {p pos : Pos} (I : Ini X.prog X.w X.K M X.mg X.base k j n) (hr : Room (j + 1) X.A) (he : SE X M W e g) (hm : X.mg x = some (.ref (M.cls k))) (hg : Gl X x := by rfl) (hdb : (x == ("__debug__" : Str)) = false := by decide)
    (hs : starEach [e] X.env = (false, eval e X.env) :: starEach [] X.env := by rfl) (hpl : (backTo pos (starEach [] X.env)).any (·.1) = false := by rfl) :
    SMk X M W k (.Call (.Name x p) [e] [] pos) (mk1 g) := by
  obtain ⟨fI, fd, sn, vn, iC, tI, F1, hb⟩ := I.fn
  refine pmk_imp (pmk_oex (dvs := []) I.oex iC tI F1 hr hb .nil passL hg hm (pa_cons he pa_nil hs) hdb hs hpl) fun σ H Q h => ?_
  obtain ⟨env, z, rfl, kz, v, h⟩ := h
  refine ⟨env, z, rfl, kz, v, (Out.bind h).imp fun b H1 q => ?_⟩
  obtain ⟨d, z1, rfl, _, x1, k1, q, h1⟩ := q
  obtain ⟨d', z2, eH, x2, k2, q2, h2⟩ := frz_out k1 q h1
  refine ⟨Nat.le_of_ble_eq_true rfl, fun a na => ⟨a, b, rfl, upd_same, fun dx nd hda => ⟨rfl, dx, [(n, b)], upd_same, ?_, ?_, ?_⟩⟩⟩
  · rw [upd_ne hda, upd_same]
  · rw [upd_ne hda] at nd
    exact nd
  · rw [upd_ne hda] at nd
    rw [heap_let1 na hda, ← eH]
    have nd2 : z2.H dx = none := by
      rw [eH]
      exact nd
    have x3 := ext_put (o := .xd [(n, b)]) nd2 k2
    refine h2 (z2.put dx (.xd [(n, b)])) _ rfl x3 (sok_put (o := .xd [(n, b)]) nd2 k2) ⟨k, [d'], [b], rfl, rfl, .inr ⟨dx, fun z => (by cases z), rfl, ?_⟩, .cons (Enc.mv x3.mv q2) .nil⟩
    show upd z2.H dx (.xd [(n, b)]) dx = _
    rw [upd_same, I.fld]
    rfl
/-- class number k of the text, its __init__ keeps its two arguments -/
structure Ini2 (P : Program) (w : World) (K : PySem.W.Frag) (M : Lm) (mg : Str → Option Value) (base : Heap) (k j : Nat) (f1 f2 : Str) : Prop where
  oex : OexC K (M.cls k)
  fn : ∃ (fI : Addr) (fd : FuncData) (sn n1 n2 : Str), PySem.W.findIn K (.ref (M.cls k)) "__init__" = some (some (.ref fI)) ∧ PySem.W.typeIn K (.ref fI) = some (.type "function") ∧ FnOk P w K mg base (L2.CX P w) j fI fd [sn, n1, n2] (sp2 (M.cls k) f1 f2) ∧ Binds K fd [sn, n1, n2] []
  fld : M.fld k = [f2, f1]
theorem Ini2.of {P : Program} {w : World} {K : PySem.W.Frag} {M : Lm} {mg : Str → Option Value} {base : Heap} {i : Nat} {fI : Addr} {qual sn n1 n2 f1 f2 : Str} {st : Stmt} {fd : FuncData} (ox : OexC K (M.cls i)) (fi : PySem.W.findIn K (.ref (M.cls i)) "__init__" = some (some (.ref fI))) (ti : PySem.W.typeIn K (.ref fI) = some (.type "function")) (F : Fun K "__init__" qual st fI fd) (S : FnScope [sn, n1, n2] [sn, n1, n2] (defScope st)) (no1 : PySem.W.findIn K (.ref (M.cls i)) f1 = some none) (no2 : PySem.W.findIn K (.ref (M.cls i)) f2 = some none) (bi : Binds K fd [sn, n1, n2] []) (fl : M.fld i = [f2, f1])
    (hb : ∀ (cdv : Value) (A : Around) (outer : List PySem.Env) (s : Shared) (H : Hp) (E : XK), PSs (cxOf (L2.CX P w) P w K mg base [sn, n1, n2] qual (defScope st) fI cdv A outer s H E) (defBody st) (tSeq (tDrop (tVeI K (tCons (tVar 0) (tCons (tVar 1) (tCons (tVar 2) tNil))))) (tSeq (tOst K f1 (tVar 0) (tVar 1)) (tOst K f2 (tVar 0) (tVar 2))))) : Ini2 P w K M mg base i 1 f1 f2 :=
  ⟨ox, ⟨fI, fd, sn, n1, n2, fi, ti, init2_ok (k := 0) F S ox no1 no2 hb, bi⟩, fl⟩
theorem smk2 (k : Nat) {j : Nat} {x n1 n2 : Str} {e1 e2 : Expr} {g1 g2 : Env → Sto → Res D} {p pos : Pos} (I : Ini2 X.prog X.w X.K M X.mg X.base k j n1 n2) (hr : Room (j + 1) X.A) (he1 : SE X M W e1 g1) (he2 : SE X M W e2 g2) (hm : X.mg x = some (.ref (M.cls k))) (hg : Gl X x := by rfl) (hdb : (x == ("__debug__" : Str)) = false := by decide)
    (hs : starEach [e1, e2] X.env = (false, eval e1 X.env) :: starEach [e2] X.env := by rfl) (hs2 : starEach [e2] X.env = (false, eval e2 X.env) :: starEach [] X.env := by rfl) (hpl : (backTo pos (starEach [e2] X.env)).any (·.1) = false := by rfl) :
    SMk X M W k (.Call (.Name x p) [e1, e2] [] pos) (mk2 g1 g2) := by
  obtain ⟨fI, fd, sn, v1, v2, iC, tI, F1, hb⟩ := I.fn
  refine pmk_imp (pmk_oex (dvs := []) I.oex iC tI F1 hr hb .nil passL hg hm (pa_cons he1 (pa_cons he2 pa_nil hs2) hs) hdb hs hpl) fun σ H Q h => ?_
  obtain ⟨env, z, rfl, kz, v, h⟩ := h
  refine ⟨env, z, rfl, kz, v, (Out.bind h).imp fun b H1 q => ?_⟩
  obtain ⟨d, z1, rfl, _, x1, k1, q, h1⟩ := q
  obtain ⟨d', z2, eH, x2, k2, q2, h2⟩ := frz_out k1 q h1
  refine ⟨env, z2, eH, k2, (v.ext x1).ext x2, (Out.bind h2).imp fun b2 H2 q => ?_⟩
  obtain ⟨c, z3, rfl, _, x3, k3, q3, h3⟩ := q
  obtain ⟨c', z4, eH4, x4, k4, q4, h4⟩ := frz_out k3 q3 h3
  refine ⟨Nat.le_of_ble_eq_true rfl, fun a na => ⟨a, b, b2, rfl, upd_same, fun dx nd hda => ⟨rfl, dx, [(n2, b2), (n1, b)], ?_, upd_same, ?_, ?_⟩⟩⟩
  · rw [upd_ne (Ne.symm hda), upd_same]
  · rw [upd_ne hda] at nd
    exact nd
  · rw [upd_ne hda] at nd
    rw [heap_let na hda, ← eH4]
    have nd2 : z4.H dx = none := by
      rw [eH4]
      exact nd
    have x5 := ext_put (o := .xd [(n2, b2), (n1, b)]) nd2 k4
    refine h4 (z4.put dx (.xd [(n2, b2), (n1, b)])) _ rfl x5 (sok_put (o := .xd [(n2, b2), (n1, b)]) nd2 k4) ⟨k, [c', d'], [b2, b], rfl, rfl, .inr ⟨dx, fun z => (by cases z), rfl, ?_⟩, .cons (Enc.mv x5.mv q4) (.cons (Enc.mv (x3.trans (x4.trans x5)).mv q2) .nil)⟩
    show upd z4.H dx (.xd [(n2, b2), (n1, b)]) dx = _
    rw [upd_same, I.fld]
    rfl
/-! ### a field, by its place -/
structure FldI (K : PySem.W.Frag) (M : Lm) (n : Str) (k i : Nat) : Prop where
  xf : XfC K (M.cls k)
  no : PySem.W.findIn K (.ref (M.cls k)) n = some none
  at_ : ∀ (vs : List V) (x : V), vs[i]? = some x → ((M.fld k).zip vs).lookup n = some x
theorem fldI0 {K : PySem.W.Frag} {n : Str} {k : Nat} {r : List Str} (x : XfC K (M.cls k)) (y : PySem.W.findIn K (.ref (M.cls k)) n = some none) (h : M.fld k = n :: r) : FldI K M n k 0 := ⟨x, y, fun vs x e => by
  rw [h]
  cases vs with
  | nil => cases e
  | cons v vs =>
    cases e
    show ((n, x) :: _).lookup n = some x
    rw [List.lookup_cons, beq_self_eq_true]⟩
theorem fldI1 {K : PySem.W.Frag} {n m : Str} {k : Nat} {r : List Str} (x : XfC K (M.cls k)) (y : PySem.W.findIn K (.ref (M.cls k)) n = some none) (h : M.fld k = m :: n :: r) (ne : (n == m) = false) : FldI K M n k 1 := ⟨x, y, fun vs x e => by
  rw [h]
  cases vs with
  | nil => cases e
  | cons v vs =>
    cases vs with
    | nil => cases e
    | cons u vs =>
      cases e
      show ((m, v) :: (n, x) :: _).lookup n = some x
      rw [List.lookup_cons, ne, List.lookup_cons, beq_self_eq_true]⟩
/-- the field of an exception of one of these classes, each with the field's place -/
def fldG (ks : List (Nat × Nat)) (g : Env → Sto → Res D) : Env → Sto → Res D := fun env S => (g env S).bind fun d S1 => match d with
  | .exc k l => (match ks.lookup k with
    | some i => (match l[i]? with
      | some x => .ok x S1
      | none => .bad)
    | none => .bad)
  | _ => .bad
theorem encL_ix {K : PySem.W.Frag} {H : Hp} {ow : Addr → Prop} {l : List D} : ∀ {vs : List V} {i : Nat} {x : D}, EncL K M H ow l vs → l[i]? = some x → ∃ u, vs[i]? = some u ∧ Enc K M H ow x u := by
  induction l with
  | nil =>
    intro vs i x h e
    cases e
  | cons d l ih =>
    intro vs i x h e
    cases h with
    | @cons _ v _ ws h t =>
      cases i with
      | zero =>
        cases e
        exact ⟨v, rfl, h⟩
      | succ i =>
        obtain ⟨u, e1, e2⟩ := ih t (i := i) (x := x) e
        exact ⟨u, e1, e2⟩
theorem lookupN_mem {ks : List (Nat × Nat)} {k i : Nat} (h : ks.lookup k = some i) : (k, i) ∈ ks := by
  induction ks with
  | nil => cases h
  | cons p ks ih =>
    obtain ⟨a, b⟩ := p
    rw [List.lookup_cons] at h
    cases c : (k == a) with
    | true =>
      rw [c] at h
      cases h
      have := beq_iff_eq.mp c
      subst this
      exact List.mem_cons_self ..
    | false =>
      rw [c] at h
      exact List.mem_cons_of_mem _ (ih h)
theorem s_fldG {n : Str} (ks : List (Nat × Nat)) {e : Expr} {pos : Pos} {g : Env → Sto → Res D} (hk : ∀ p ∈ ks, FldI X.K M n p.1 p.2) (he : SE X M W e g) (hb : attributeBase e n X.env (eval e X.env) = eval e X.env := by rfl) : SE X M W (.Attribute e n pos) (fldG ks g) := by
  refine pe_imp (pe_xfT he hb) fun σ H Q h => ?_
  obtain ⟨env, z, rfl, kz, v, h⟩ := h
  refine ⟨env, z, rfl, kz, v, (Out.bind h).imp fun b H1 q => ?_⟩
  obtain ⟨d, z1, rfl, _, x1, k1, q1, h1⟩ := q
  cases d with
  | exc k l =>
    have h2 : Out X.K M (EncA X.K M) W σ z1 Q (match ks.lookup k with
      | some i => (match l[i]? with
        | some x => .ok x z1.S
        | none => .bad)
      | none => .bad) := h1
    cases c : ks.lookup k with
    | none =>
      rw [c] at h2
      exact h2.elim
    | some i =>
      rw [c] at h2
      cases c2 : l[i]? with
      | none =>
        simp only [c2] at h2
        exact h2.elim
      | some x =>
        simp only [c2] at h2
        have F := hk _ (lookupN_mem c)
        cases q1 with
        | of q1 =>
          cases q1 with
          | @exc a _ _ dx vs ha na xf el =>
            obtain ⟨u, e1, hu⟩ := encL_ix el c2
            rcases xf with ⟨e0, _⟩ | ⟨dd, _, e2, e3⟩
            · subst e0
              cases i <;> cases e1
            · subst e2
              exact ⟨a, M.cls k, dd, _, u, rfl, ha, e3, F.at_ vs u e1, F.xf, F.no, h2 z1 u rfl (Ext.refl z1) k1 (.of hu)⟩
  | _ => exact h1.elim
end
section
variable {S : Sto} {N B C : Env → Sto → Prop} {T R : D → Sto → Prop} {X : D → Env → Sto → Prop} {E : D → Sto → Prop} {env : Env} {g g1 g2 : Env → Sto → Res D} {k : Nat}
theorem o_frzB {d : D} {f : D → Sto → Res (List D)} {R : List D → Sto → Prop} (hn : nr d = true) (h : OKR (f d S) R E) : OKR ((frz1 d S).bind f) R E := by
  rw [frz1_nr hn]
  exact h
theorem o_mk1 {R : List D → Sto → Prop} (h : OKR (g env S) (fun d S1 => nr d = true ∧ R [d] S1) E) : OKR (mk1 g env S) R E := o_bind (h.mono (fun d S1 q => o_frzB q.1 q.2) fun _ _ q => q)
theorem o_mk2 {R : List D → Sto → Prop} (h : OKR (g1 env S) (fun d S1 => nr d = true ∧ OKR (g2 env S1) (fun e S2 => nr e = true ∧ R [e, d] S2) E) E) : OKR (mk2 g1 g2 env S) R E := o_bind (h.mono (fun d S1 q => o_frzB q.1 (o_bind (q.2.mono (fun e S2 q => o_frzB q.1 q.2) fun _ _ q => q))) fun _ _ q => q)
theorem o_raiseG {m : Env → Sto → Res (List D)} (h : OKR (m env S) (fun l S1 => X (.exc k l) env S1) (fun e S1 => X e env S1)) : OKS (raiseG k m env S) N B C T X := by
  unfold raiseG
  cases q : m env S with
  | ok d S1 =>
    rw [q] at h
    exact h
  | ex e S1 =>
    rw [q] at h
    exact h
  | bad =>
    rw [q] at h
    exact h
theorem o_excG {m : Env → Sto → Res (List D)} (h : OKR (m env S) (fun l S1 => R (.exc k l) S1) E) : OKR (excG k m env S) R E := o_bind h
theorem o_fldG {ks : List (Nat × Nat)} (h : OKR (g env S) (fun d S1 => ∃ k l i x, d = .exc k l ∧ ks.lookup k = some i ∧ l[i]? = some x ∧ R x S1) E) : OKR (fldG ks g env S) R E := o_bind (h.mono (fun d S1 q => by
  obtain ⟨k, l, i, x, rfl, c1, c2, q⟩ := q
  show OKR (match ks.lookup k with
    | some i => (match l[i]? with
      | some x => .ok x S1
      | none => .bad)
    | none => .bad) R E
  rw [c1]
  dsimp only
  rw [c2]
  exact q) fun _ _ q => q)
instance r_o_raiseG0 : RuleS (OKS (raiseG k mk0 env S) N B C T X) (X (.exc k []) env S) := ⟨fun h => o_raiseG h⟩
instance r_o_raiseG1 : RuleS (OKS (raiseG k (mk1 g) env S) N B C T X) (OKR (g env S) (fun d S1 => nr d = true ∧ X (.exc k [d]) env S1) (fun e S1 => X e env S1)) := ⟨fun h => o_raiseG (o_mk1 h)⟩
instance r_o_raiseG2 : RuleS (OKS (raiseG k (mk2 g1 g2) env S) N B C T X) (OKR (g1 env S) (fun d S1 => nr d = true ∧ OKR (g2 env S1) (fun e S2 => nr e = true ∧ X (.exc k [e, d]) env S2) (fun e S1 => X e env S1)) (fun e S1 => X e env S1)) := ⟨fun h => o_raiseG (o_mk2 h)⟩
instance r_o_excG0 : Rule (OKR (excG k mk0 env S) R E) (R (.exc k []) S) := ⟨fun h => o_excG h⟩
instance r_o_excG1 : Rule (OKR (excG k (mk1 g) env S) R E) (OKR (g env S) (fun d S1 => nr d = true ∧ R (.exc k [d]) S1) E) := ⟨fun h => o_excG (o_mk1 h)⟩
instance r_o_excG2 : Rule (OKR (excG k (mk2 g1 g2) env S) R E) (OKR (g1 env S) (fun d S1 => nr d = true ∧ OKR (g2 env S1) (fun e S2 => nr e = true ∧ R (.exc k [e, d]) S2) E) E) := ⟨fun h => o_excG (o_mk2 h)⟩
instance r_o_fldG {ks : List (Nat × Nat)} : Rule (OKR (fldG ks g env S) R E) (OKR (g env S) (fun d S1 => ∃ k l i x, d = .exc k l ∧ ks.lookup k = some i ∧ l[i]? = some x ∧ R x S1) E) := ⟨fun h => o_fldG h⟩
end
end Sm
/-! Sm52: repr of a pair of whole numbers of up to 4,300 figures. -/
namespace PySem
open PySem PySem.Spec PyProof.Rows
section
variable {prog : Program} {w : World} {A : Around} {E : Value → Shared → Prop} {s : Shared} {a : Int} {t : Tok}
theorem call_int_reprB {Q : Value → Shared → Prop} (hn : s.heap.NoDigits) (hlt : a.natAbs < 10 ^ 4300) (h : Q (.str (toString a) s.toks) { s with toks := s.toks + 1 }) :
    wpAny (model prog w) A (call (.builtin "int.__repr__") [.int a t]) Q E s := by
  refine wpAny_call_entry F.slot_int_repr (typeIs_int s a t) F.entry_int_repr ?_ (F.args_int_repr_1 _)
  unfold Builtin.«int.__repr__»
  show wpAny _ _ (do let r ← Builtin.overDigitLimit? a; _) _ _ s
  refine wpAny_bind (overDigitLimit_any hn (fun _ => ?_) (fun hge => absurd hlt (Nat.not_lt.mpr hge)))
  exact wpAny_bind (wpAny_mkStr (wpAny_pure ⟨_, rfl, h⟩) (int_text_fits10 hlt))
theorem reprK_int {h₀ : Heap} (nd : h₀.NoDigits) (hlt : a.natAbs < 10 ^ 4300) : ReprK prog w [] h₀ 0 (.int a t) (toString a) := fun base hb A g E s Q hg hcl hu hk hQ => by
  have hn' : base ≤ sizeLine := by omega
  rw [pyReprUnder_leaf (v := .int a t) hn' (fun _ e => nomatch e)]
  unfold pyRepr
  refine wpAny_bind (wpAny_pyReprObj_slot (by omega) (typeIs_int s a t) F.slot_int_repr.toG (call_int_reprB (nd.keeps hk) hlt ⟨_, _, rfl, ?_⟩))
  exact wpAny_pure (hQ s.heap _ fun _ _ e => e)
end
end PySem
namespace Sm
open PySem PySem.Spec PyProof.Rows L2
def lim43 : Nat := 10 ^ 4300
def reprB : Fn := fun as S => match as with
  | [.tup [.int i, .int j]] => if (decide (i.natAbs < lim43) && decide (j.natAbs < lim43)) = true then .ok (.str (reprD (.tup [.int i, .int j]))) S else .bad
  | as => reprM as S
section
variable {X : Cx} {M : Lm} {W : WX}
theorem pair_text (i j : Int) : (py (.tup [.int i, .int j])).shown = tupleText [(toString i : Str), (toString j : Str)] := rfl
theorem reprB_ok (nd : X.base.NoDigits) (hg : X.A.guards = some []) (hu : X.A.units + 65 < cLine) : CallR X (.builtin "repr") (rCl X.K M W reprB) := by
  intro pins s σ H xs us Q I r h
  obtain ⟨z, as, σ', rfl, k, qa, h⟩ := h
  have old : Out X.K M (EncA X.K M) W σ' z Q (reprM as z.S) → wpAny (model X.prog X.w) X.A (call (.builtin "repr") us) (EP X pins σ Q) X.xe s := fun h => repr_ok (X := X) (M := M) (W := W) hg hu pins s σ z.H xs us Q I r ⟨z, as, σ', rfl, k, qa, h⟩
  unfold reprB at h
  split at h
  · rename_i i j
    by_cases c : (decide (i.natAbs < lim43) && decide (j.natAbs < lim43)) = true
    · rw [if_pos c] at h
      rw [Bool.and_eq_true, decide_eq_true_iff, decide_eq_true_iff] at c
      have c1 : i.natAbs < 10 ^ 4300 := c.1
      have c2 : j.natAbs < 10 ^ 4300 := c.2
      obtain ⟨v, rfl, q⟩ := encAs1 qa
      obtain ⟨p, vs, rfl, hs, hl⟩ := encA_tup q
      obtain ⟨u, rfl, ru⟩ := vals1 r
      cases (show u = Value.ref p from ru)
      cases hl with
      | @cons _ v1 _ vr e1 er =>
        cases er with
        | @cons _ v2 _ vr2 e2 er2 =>
          cases er2
          cases e1
          cases e2
          obtain ⟨its, rv, ⟨o, h1, h2, n, h3⟩, _⟩ := I.tuple hs
          cases rv with
          | @cons _ w1 _ wr r1 rr =>
            cases rr with
            | @cons _ w2 _ wr2 r2 rr2 =>
              cases rr2
              obtain ⟨t1, rfl⟩ := r1
              obtain ⟨t2, rfl⟩ := r2
              have hnd : s.heap.NoDigits := nd.keeps fun b o e => (I.env0.bs b o e).1
              have l1 := int_text_fits10 c1
              have l2 := int_text_fits10 c2
              refine call_repr_slot (by omega) ⟨o, h1, h2⟩ F.slot_tuple_repr (call_tuple_reprK (d := 0) (as := []) (ts := [(toString i : Str), (toString j : Str)]) h1 h2 h3 (by simp) (.cons (reprK_int hnd c1) (.cons (reprK_int hnd c2) .nil)) hg (fun b _ => Clear.nil b) (by show X.A.units + 1 + (0 + 1) < cLine; omega) (fun _ _ e => e) (fun h' u tk hk => ⟨_, _, rfl, ⟨.str _, z.H, I.kept hk, ⟨_, rfl⟩, out_strD k h⟩⟩) ?_)
              have m1 := int_text_length_le10 (k := 4300) (by decide) c1
              have m2 := int_text_length_le10 (k := 4300) (by decide) c2
              rw [← PySem.ofString_length] at m1 m2
              unfold tupleText
              rw [strLen_append, strLen_append]
              show (Str.ofString "(").length + (Str.ofString (toString i) ++ Str.ofString ", " ++ Str.ofString (toString j)).length + (Str.ofString ")").length ≤ sizeLine
              rw [strLen_append, strLen_append, sizeLine_eq]
              have z1 : (Str.ofString "(").length = 1 := by decide
              have z2 : (Str.ofString ")").length = 1 := by decide
              have z3 : (Str.ofString ", ").length = 2 := by decide
              clear c1 c2 l1 l2
              omega
    · rw [if_neg c] at h
      exact h.elim
  · exact old h
end
section
variable {S : Sto} {R : D → Sto → Prop} {E : D → Sto → Prop}
theorem o_reprB {i j : Int} (hi : i.natAbs < 10 ^ 4300) (hj : j.natAbs < 10 ^ 4300) (h : R (.str (reprD (.tup [.int i, .int j]))) S) : OKR (reprB [.tup [.int i, .int j]] S) R E := by
  show OKR (if (decide (i.natAbs < lim43) && decide (j.natAbs < lim43)) = true then _ else _) R E
  have h1 : i.natAbs < lim43 := hi
  have h2 : j.natAbs < lim43 := hj
  rw [decide_eq_true h1, decide_eq_true h2]
  exact h
end
end Sm
namespace Sm
open PySem PySem.Spec PyProof.Rows L2
/-! ### the text of law_k02_fractions -/
def topS (i : Nat) : Stmt := PySem.Challenge.pw_towerwise_k02_fractions.main.body.getD i (.Pass ⟨0, 0, 0, 0⟩)
structure Bt (mg : Str → Option Value) : Prop where
  b_ValueError : mg "ValueError" = none
  b_abs : mg "abs" = none
  b_all : mg "all" = none
  b_bool : mg "bool" = none
  b_enumerate : mg "enumerate" = none
  b_int : mg "int" = none
  b_isinstance : mg "isinstance" = none
  b_len : mg "len" = none
  b_list : mg "list" = none
  b_range : mg "range" = none
  b_repr : mg "repr" = none
  b_str : mg "str" = none
  b_tuple : mg "tuple" = none
def tabT : List (Nat × List Bool) := [(1, [true, true, false, false, false, false, false, false, false, false, false, false, false, false, false, false, false, false, false]), (2, [true, false, true, false, false, false, false, false, false, false, false, false, false, false, false, false, false, false, false]), (3, [true, false, false, true, false, false, false, false, false, false, false, false, false, false, false, false, false, false, false]), (4, [true, false, false, false, true, false, false, false, false, false, false, false, false, false, false, false, false, false, false]), (5, [true, false, false, false, false, true, false, false, false, false, false, false, false, false, false, false, false, false, false]), (6, [true, false, false, false, false, false, true, false, false, false, false, false, false, false, false, false, false, false, false]), (7, [true, false, false, false, false, false, false, true, false, false, false, false, false, false, false, false, false, false, false]), (8, [true, false, false, false, false, false, false, false, true, false, false, false, false, false, false, false, false, false, false]), (9, [true, false, false, false, false, false, false, false, false, true, false, false, false, false, false, false, false, false, false]), (10, [true, false, false, false, false, false, false, false, false, false, true, false, false, false, false, false, false, false, false]), (11, [true, false, false, false, false, false, false, false, false, false, false, true, false, false, false, false, false, false, false]), (12, [true, false, false, false, false, false, false, false, false, false, false, false, true, false, false, false, false, false, false]), (13, [true, false, false, false, false, false, false, false, false, false, false, false, false, true, false, false, false, false, false]), (14, [true, false, false, false, false, false, false, false, false, false, false, false, false, false, true, false, false, false, false]), (15, [true, false, false, false, false, false, false, false, false, false, false, false, false, false, false, true, false, false, false]), (16, [true, false, false, false, false, false, false, false, false, false, false, false, false, false, false, false, true, false, false]), (17, [true, false, false, false, false, false, false, false, false, false, false, false, false, false, false, false, false, true, false]), (18, [true, false, false, false, false, false, false, false, false, false, false, false, false, false, false, false, false, false, true])]
abbrev k_TowerError : Nat := 0
abbrev k_BadKind : Nat := 1
abbrev k_BadWorth : Nat := 2
abbrev k_BadTower : Nat := 3
abbrev k_BadWay : Nat := 4
abbrev k_BadNumber : Nat := 5
abbrev k_BadName : Nat := 6
abbrev k_BadTerm : Nat := 7
abbrev k_BadProgram : Nat := 8
abbrev k_BadPaper : Nat := 9
abbrev k_BadText : Nat := 10
abbrev k_BadLine : Nat := 11
abbrev k_NoDeed : Nat := 12
abbrev k_NoKind : Nat := 13
abbrev k_TwoKinds : Nat := 14
abbrev k_NoOrder : Nat := 15
abbrev k_ByNought : Nat := 16
abbrev k_Lacking : Nat := 17
abbrev k_TooGreat : Nat := 18
def subT : Nat → Nat → Option Bool := subBy tabT
def bodyC : Stmt → List Stmt
  | .ClassDef _ _ _ b _ _ _ _ _ _ _ => b
  | _ => []
abbrev sI_BadTower : Stmt := (bodyC (topS 4)).getD 0 (.Pass ⟨0, 0, 0, 0⟩)
theorem scI_BadTower : FnScope ["self", "place"] ["self", "place"] (defScope sI_BadTower) := ⟨rfl, rfl, rfl, by decide +kernel, rfl, by decide +kernel, by decide +kernel⟩
theorem bI_BadTower {P : Program} {w : World} {K : PySem.W.Frag} {mg : Str → Option Value} {base : Heap} {fI T : Addr} (hm : mg "TowerError" = some (.ref T)) (sg : PySem.W.specialIn K (.ref T) "__getattribute__" = some (some (.builtin "type.__getattribute__"))) (hr : PySem.W.readsIn K T (.type "type") = true) (vV : PySem.W.findCls K (.ref T) (.type "type") "__init__" = some (.val (.builtin "ValueError.__init__"))) (cdv : Value) (A : Around) (outer : List PySem.Env) (s : Shared) (H : Hp) (E : XK) : PSs (cxOf (L2.CX P w) P w K mg base ["self", "place"] "BadTower.__init__" (defScope sI_BadTower) fI cdv A outer s H E) (defBody sI_BadTower) (tSeq (tDrop (tVeI K (tCons (tVar 0) (tCons (tVar 1) tNil)))) (tOst K "place" (tVar 0) (tVar 1))) :=
  pss_cons (ps_expr (pe_teinit (mc := .type "type") (pl := _) rfl hm sg hr vV (pa_cons (pe_var rfl (Or.inl rfl)) (pa_cons (pe_var rfl (Or.inl rfl)) pa_nil)))) (pss_one (ps_ost (pe_var rfl (Or.inl rfl)) (pe_var rfl (Or.inl rfl))))
abbrev sI_BadProgram : Stmt := (bodyC (topS 9)).getD 0 (.Pass ⟨0, 0, 0, 0⟩)
theorem scI_BadProgram : FnScope ["self", "row"] ["self", "row"] (defScope sI_BadProgram) := ⟨rfl, rfl, rfl, by decide +kernel, rfl, by decide +kernel, by decide +kernel⟩
theorem bI_BadProgram {P : Program} {w : World} {K : PySem.W.Frag} {mg : Str → Option Value} {base : Heap} {fI T : Addr} (hm : mg "TowerError" = some (.ref T)) (sg : PySem.W.specialIn K (.ref T) "__getattribute__" = some (some (.builtin "type.__getattribute__"))) (hr : PySem.W.readsIn K T (.type "type") = true) (vV : PySem.W.findCls K (.ref T) (.type "type") "__init__" = some (.val (.builtin "ValueError.__init__"))) (cdv : Value) (A : Around) (outer : List PySem.Env) (s : Shared) (H : Hp) (E : XK) : PSs (cxOf (L2.CX P w) P w K mg base ["self", "row"] "BadProgram.__init__" (defScope sI_BadProgram) fI cdv A outer s H E) (defBody sI_BadProgram) (tSeq (tDrop (tVeI K (tCons (tVar 0) (tCons (tVar 1) tNil)))) (tOst K "row" (tVar 0) (tVar 1))) :=
  pss_cons (ps_expr (pe_teinit (mc := .type "type") (pl := _) rfl hm sg hr vV (pa_cons (pe_var rfl (Or.inl rfl)) (pa_cons (pe_var rfl (Or.inl rfl)) pa_nil)))) (pss_one (ps_ost (pe_var rfl (Or.inl rfl)) (pe_var rfl (Or.inl rfl))))
abbrev sI_BadPaper : Stmt := (bodyC (topS 10)).getD 0 (.Pass ⟨0, 0, 0, 0⟩)
theorem scI_BadPaper : FnScope ["self", "place"] ["self", "place"] (defScope sI_BadPaper) := ⟨rfl, rfl, rfl, by decide +kernel, rfl, by decide +kernel, by decide +kernel⟩
theorem bI_BadPaper {P : Program} {w : World} {K : PySem.W.Frag} {mg : Str → Option Value} {base : Heap} {fI T : Addr} (hm : mg "TowerError" = some (.ref T)) (sg : PySem.W.specialIn K (.ref T) "__getattribute__" = some (some (.builtin "type.__getattribute__"))) (hr : PySem.W.readsIn K T (.type "type") = true) (vV : PySem.W.findCls K (.ref T) (.type "type") "__init__" = some (.val (.builtin "ValueError.__init__"))) (cdv : Value) (A : Around) (outer : List PySem.Env) (s : Shared) (H : Hp) (E : XK) : PSs (cxOf (L2.CX P w) P w K mg base ["self", "place"] "BadPaper.__init__" (defScope sI_BadPaper) fI cdv A outer s H E) (defBody sI_BadPaper) (tSeq (tDrop (tVeI K (tCons (tVar 0) (tCons (tVar 1) tNil)))) (tOst K "place" (tVar 0) (tVar 1))) :=
  pss_cons (ps_expr (pe_teinit (mc := .type "type") (pl := _) rfl hm sg hr vV (pa_cons (pe_var rfl (Or.inl rfl)) (pa_cons (pe_var rfl (Or.inl rfl)) pa_nil)))) (pss_one (ps_ost (pe_var rfl (Or.inl rfl)) (pe_var rfl (Or.inl rfl))))
abbrev sI_BadText : Stmt := (bodyC (topS 11)).getD 0 (.Pass ⟨0, 0, 0, 0⟩)
theorem scI_BadText : FnScope ["self", "line", "word"] ["self", "line", "word"] (defScope sI_BadText) := ⟨rfl, rfl, rfl, by decide +kernel, rfl, by decide +kernel, by decide +kernel⟩
theorem bI_BadText {P : Program} {w : World} {K : PySem.W.Frag} {mg : Str → Option Value} {base : Heap} {fI T : Addr} (hm : mg "TowerError" = some (.ref T)) (sg : PySem.W.specialIn K (.ref T) "__getattribute__" = some (some (.builtin "type.__getattribute__"))) (hr : PySem.W.readsIn K T (.type "type") = true) (vV : PySem.W.findCls K (.ref T) (.type "type") "__init__" = some (.val (.builtin "ValueError.__init__"))) (cdv : Value) (A : Around) (outer : List PySem.Env) (s : Shared) (H : Hp) (E : XK) : PSs (cxOf (L2.CX P w) P w K mg base ["self", "line", "word"] "BadText.__init__" (defScope sI_BadText) fI cdv A outer s H E) (defBody sI_BadText) (tSeq (tDrop (tVeI K (tCons (tVar 0) (tCons (tVar 1) (tCons (tVar 2) tNil))))) (tSeq (tOst K "line" (tVar 0) (tVar 1)) (tOst K "word" (tVar 0) (tVar 2)))) :=
  pss_cons (ps_expr (pe_teinit (mc := .type "type") (pl := _) rfl hm sg hr vV (pa_cons (pe_var rfl (Or.inl rfl)) (pa_cons (pe_var rfl (Or.inl rfl)) (pa_cons (pe_var rfl (Or.inl rfl)) pa_nil))))) (pss_cons (ps_ost (pe_var rfl (Or.inl rfl)) (pe_var rfl (Or.inl rfl))) (pss_one (ps_ost (pe_var rfl (Or.inl rfl)) (pe_var rfl (Or.inl rfl)))))
abbrev sI_TwoKinds : Stmt := (bodyC (topS 15)).getD 0 (.Pass ⟨0, 0, 0, 0⟩)
theorem scI_TwoKinds : FnScope ["self", "one", "other"] ["self", "one", "other"] (defScope sI_TwoKinds) := ⟨rfl, rfl, rfl, by decide +kernel, rfl, by decide +kernel, by decide +kernel⟩
theorem bI_TwoKinds {P : Program} {w : World} {K : PySem.W.Frag} {mg : Str → Option Value} {base : Heap} {fI T : Addr} (hm : mg "TowerError" = some (.ref T)) (sg : PySem.W.specialIn K (.ref T) "__getattribute__" = some (some (.builtin "type.__getattribute__"))) (hr : PySem.W.readsIn K T (.type "type") = true) (vV : PySem.W.findCls K (.ref T) (.type "type") "__init__" = some (.val (.builtin "ValueError.__init__"))) (cdv : Value) (A : Around) (outer : List PySem.Env) (s : Shared) (H : Hp) (E : XK) : PSs (cxOf (L2.CX P w) P w K mg base ["self", "one", "other"] "TwoKinds.__init__" (defScope sI_TwoKinds) fI cdv A outer s H E) (defBody sI_TwoKinds) (tSeq (tDrop (tVeI K (tCons (tVar 0) (tCons (tVar 1) (tCons (tVar 2) tNil))))) (tSeq (tOst K "one" (tVar 0) (tVar 1)) (tOst K "other" (tVar 0) (tVar 2)))) :=
  pss_cons (ps_expr (pe_teinit (mc := .type "type") (pl := _) rfl hm sg hr vV (pa_cons (pe_var rfl (Or.inl rfl)) (pa_cons (pe_var rfl (Or.inl rfl)) (pa_cons (pe_var rfl (Or.inl rfl)) pa_nil))))) (pss_cons (ps_ost (pe_var rfl (Or.inl rfl)) (pe_var rfl (Or.inl rfl))) (pss_one (ps_ost (pe_var rfl (Or.inl rfl)) (pe_var rfl (Or.inl rfl)))))
/-! L_mixed -/
abbrev sL_mixed : Stmt := topS 28
abbrev nL_mixed : List Str := ["_law_number", "_law_k"]
theorem scL_mixed : FnScope ["_law_number", "_law_k"] ["_law_number", "_law_k"] (defScope sL_mixed) := ⟨rfl, rfl, rfl, by decide +kernel, rfl, by decide +kernel, by decide +kernel⟩
def bL_mixed_s1 : Env → Sto → SR := retF (binF fdivD (binF modD (binF mulD (varF 0) (binF addD (conF (.int 69621)) (binF mulD (conF (.int 2)) (varF 1)))) (conF (.int 2147483587))) (conF (.int 7)))
def bL_mixed : Env → Sto → SR := seqF (setF 0 (binF modD (binF powD (binF addD (binF addD (binF addD (binF modD (varF 0) (conF (.int 2147483647))) (binF mulD (binF mulD (conF (.int 7919)) (varF 1)) (varF 1))) (binF mulD (conF (.int 31)) (varF 1))) (conF (.int 5))) (conF (.int 5))) (conF (.int 2147483629)))) (retF (binF fdivD (binF modD (binF mulD (varF 0) (binF addD (conF (.int 69621)) (binF mulD (conF (.int 2)) (varF 1)))) (conF (.int 2147483587))) (conF (.int 7))))
def fL_mixed : Fn := fnM 2 0 true bL_mixed
theorem okL_mixed {P : Program} {w : World} {K : PySem.W.Frag} {M : Lm} {mg : Str → Option Value} {base : Heap} {f : Addr} {fd : FuncData} (N : Kn K mg "_law_mixed" sL_mixed ["_law_number", "_law_k"] f fd) (NA : M.arr = false) (B : Bt mg) : Def P w K M mg base "_law_mixed" 1 ["_law_number", "_law_k"] fL_mixed :=
  N.def (FnS.of (k := 0) NA N.fn scL_mixed rfl (by decide) fun cdv hcv A outer s H E hr gd W tk hp => by
    have nd := scL_mixed.nd
    have U : (A.deeper (envOfC "_law_mixed" (defScope sL_mixed) s.heap.objs.size f cdv)).units + 65 < cLine := by
      have := hr.un
      omega
    have U64 := Nat.lt_of_succ_lt U
    have U1 := Nat.lt_of_le_of_lt (Nat.add_le_add_left (show 1 ≤ 65 by decide) _) U
    exact ss_cons (ss_set 0 nd (s_bin mod_ok (s_bin pow_ok (s_bin add_ok (s_bin add_ok (s_bin add_ok (s_bin mod_ok (s_var 0) (s_int)) (s_bin mul_ok (s_bin mul_ok (s_int) (s_var 1)) (s_var 1))) (s_bin mul_ok (s_int) (s_var 1))) (s_int)) (s_int)) (s_int))) (ss_one (ss_ret (s_bin fdiv_ok (s_bin mod_ok (s_bin mul_ok (s_var 0) (s_bin add_ok (s_int) (s_bin mul_ok (s_int) (s_var 1)))) (s_int)) (s_int)))))
/-! L_stream -/
abbrev sL_stream : Stmt := topS 29
abbrev nL_stream : List Str := ["_law_cell", "_law_k"]
theorem scL_stream : FnScope ["_law_cell", "_law_k"] ["_law_cell", "_law_k"] (defScope sL_stream) := ⟨rfl, rfl, rfl, by decide +kernel, rfl, by decide +kernel, by decide +kernel⟩
def bL_stream : Env → Sto → SR := retF (lstO (consA (binF geD (varF 0) (binF powD (conF (.int 10)) (conF (.int 18)))) (consA (varF 0) (consA (conF (.int 0)) (consA (callF fL_mixed (consA (varF 0) (consA (varF 1) (nilA)))) (nilA))))))
def fL_stream : Fn := fnM 2 0 false bL_stream
theorem okL_stream {P : Program} {w : World} {K : PySem.W.Frag} {M : Lm} {mg : Str → Option Value} {base : Heap} {f : Addr} {fd : FuncData} (N : Kn K mg "_law_stream" sL_stream ["_law_cell", "_law_k"] f fd) (NA : M.arr = false) (B : Bt mg) (D_L_mixed : Def P w K M mg base "_law_mixed" 1 ["_law_number", "_law_k"] fL_mixed) : Def P w K M mg base "_law_stream" 2 ["_law_cell", "_law_k"] fL_stream :=
  N.def (FnS.of (k := 1) NA N.fn scL_stream rfl (by decide) fun cdv hcv A outer s H E hr gd W tk hp => by
    have nd := scL_stream.nd
    have U : (A.deeper (envOfC "_law_stream" (defScope sL_stream) s.heap.objs.size f cdv)).units + 65 < cLine := by
      have := hr.un
      omega
    have U64 := Nat.lt_of_succ_lt U
    have U1 := Nat.lt_of_le_of_lt (Nat.add_le_add_left (show 1 ≤ 65 by decide) _) U
    exact ss_one (ss_ret (s_lstO (sa_cons (s_cmp ge_ok (s_var 0) (s_bin pow_ok (s_int) (s_int))) (sa_cons (s_var 0) (sa_cons (s_int) (sa_cons (s_callD D_L_mixed hr gd tk (sa_cons (s_var 0) (sa_cons (s_var 1) (sa_nil)))) (sa_nil))))))))
/-! L_take -/
abbrev sL_take : Stmt := topS 30
abbrev nL_take : List Str := ["_law_stream_here", "_law_many", "_law_number"]
theorem scL_take : FnScope ["_law_stream_here", "_law_many", "_law_number"] ["_law_stream_here", "_law_many"] (defScope sL_take) := ⟨rfl, rfl, rfl, by decide +kernel, rfl, by decide +kernel, by decide +kernel⟩
def bL_take_s1 : Env → Sto → SR := seqF (ifF (orT (notT (isB (binF ixD (varF 0) (conF (.int 0))))) (orT (isB (binF (inD false) (binF ixD (varF 0) (conF (.int 1))) (tupF (consA (conF (.int 0)) (consA (negF (conF (.int 1))) (nilA)))))) (isB (binF gtD (binF ixD (varF 0) (conF (.int 2))) (conF (.int 60)))))) (retF (binF modD (binF fdivD (callF fL_mixed (consA (binF addD (binF ixD (varF 0) (conF (.int 3))) (binF mulD (conF (.int 104729)) (binF ixD (varF 0) (conF (.int 2))))) (consA (binF ixD (varF 0) (conF (.int 2))) (nilA)))) (conF (.int 11))) (varF 1))) (nopF)) (seqF (setF 2 (binF modD (binF ixD (varF 0) (conF (.int 1))) (varF 1))) (seqF (putF (varF 0) (conF (.int 1)) (binF fdivD (binF ixD (varF 0) (conF (.int 1))) (varF 1))) (retF (varF 2))))
def bL_take_s2 : Env → Sto → SR := seqF (setF 2 (binF modD (binF ixD (varF 0) (conF (.int 1))) (varF 1))) (seqF (putF (varF 0) (conF (.int 1)) (binF fdivD (binF ixD (varF 0) (conF (.int 1))) (varF 1))) (retF (varF 2)))
def bL_take_s3 : Env → Sto → SR := seqF (putF (varF 0) (conF (.int 1)) (binF fdivD (binF ixD (varF 0) (conF (.int 1))) (varF 1))) (retF (varF 2))
def bL_take_s4 : Env → Sto → SR := retF (varF 2)
def bL_take : Env → Sto → SR := seqF (putF (varF 0) (conF (.int 2)) (binF addD (binF ixD (varF 0) (conF (.int 2))) (conF (.int 1)))) (seqF (ifF (orT (notT (isB (binF ixD (varF 0) (conF (.int 0))))) (orT (isB (binF (inD false) (binF ixD (varF 0) (conF (.int 1))) (tupF (consA (conF (.int 0)) (consA (negF (conF (.int 1))) (nilA)))))) (isB (binF gtD (binF ixD (varF 0) (conF (.int 2))) (conF (.int 60)))))) (retF (binF modD (binF fdivD (callF fL_mixed (consA (binF addD (binF ixD (varF 0) (conF (.int 3))) (binF mulD (conF (.int 104729)) (binF ixD (varF 0) (conF (.int 2))))) (consA (binF ixD (varF 0) (conF (.int 2))) (nilA)))) (conF (.int 11))) (varF 1))) (nopF)) (seqF (setF 2 (binF modD (binF ixD (varF 0) (conF (.int 1))) (varF 1))) (seqF (putF (varF 0) (conF (.int 1)) (binF fdivD (binF ixD (varF 0) (conF (.int 1))) (varF 1))) (retF (varF 2)))))
def fL_take : Fn := fnM 2 1 true bL_take
theorem okL_take {P : Program} {w : World} {K : PySem.W.Frag} {M : Lm} {mg : Str → Option Value} {base : Heap} {f : Addr} {fd : FuncData} (N : Kn K mg "_law_take" sL_take ["_law_stream_here", "_law_many"] f fd) (NA : M.arr = false) (B : Bt mg) (D_L_mixed : Def P w K M mg base "_law_mixed" 1 ["_law_number", "_law_k"] fL_mixed) : Def P w K M mg base "_law_take" 2 ["_law_stream_here", "_law_many"] fL_take :=
  N.def (FnS.of (k := 1) NA N.fn scL_take rfl (by decide) fun cdv hcv A outer s H E hr gd W tk hp => by
    have nd := scL_take.nd
    have U : (A.deeper (envOfC "_law_take" (defScope sL_take) s.heap.objs.size f cdv)).units + 65 < cLine := by
      have := hr.un
      omega
    have U64 := Nat.lt_of_succ_lt U
    have U1 := Nat.lt_of_le_of_lt (Nat.add_le_add_left (show 1 ≤ 65 by decide) _) U
    exact ss_cons (ss_put U1 (s_var 0) (s_int) (s_bin add_ok (s_ix U1 (s_var 0) (s_int)) (s_int))) (ss_cons (ss_if (st_w (sw_or (st_not (st_val (s_ix U1 (s_var 0) (s_int)))) (sw_or (st_cmp (in_ok U) (s_ix U1 (s_var 0) (s_int)) (s_tup (sa_cons (s_int) (sa_cons (s_neg (s_int)) (sa_nil))))) (sw_or1 (st_cmp gt_ok (s_ix U1 (s_var 0) (s_int)) (s_int)))))) (ss_one (ss_ret (s_bin mod_ok (s_bin fdiv_ok (s_callD D_L_mixed hr gd tk (sa_cons (s_bin add_ok (s_ix U1 (s_var 0) (s_int)) (s_bin mul_ok (s_int) (s_ix U1 (s_var 0) (s_int)))) (sa_cons (s_ix U1 (s_var 0) (s_int)) (sa_nil)))) (s_int)) (s_var 1)))) (ss_nil)) (ss_cons (ss_set 2 nd (s_bin mod_ok (s_ix U1 (s_var 0) (s_int)) (s_var 1))) (ss_cons (ss_put U1 (s_var 0) (s_int) (s_bin fdiv_ok (s_ix U1 (s_var 0) (s_int)) (s_var 1))) (ss_one (ss_ret (s_var 2)))))))
/-! L_odd_by -/
abbrev sL_odd_by : Stmt := topS 38
abbrev nL_odd_by : List Str := ["_law_stream_here", "_law_pair", "_law_some"]
theorem scL_odd_by : FnScope ["_law_stream_here", "_law_pair", "_law_some"] ["_law_stream_here", "_law_pair"] (defScope sL_odd_by) := ⟨rfl, rfl, rfl, by decide +kernel, rfl, by decide +kernel, by decide +kernel⟩
def bL_odd_by_s1 : Env → Sto → SR := seqF (setF 2 (binF addD (varF 2) (lstF (consA (tupF (consA (binF ixD (varF 1) (conF (.int 0))) (consA (conF (.int 0)) (nilA)))) (consA (tupF (consA (binF ixD (varF 1) (conF (.int 0))) (consA (binF subD (conF (.int 0)) (binF ixD (varF 1) (conF (.int 1)))) (nilA)))) (consA (tupF (consA (binF mulD (binF ixD (varF 1) (conF (.int 0))) (conF (.int 3))) (consA (binF mulD (binF ixD (varF 1) (conF (.int 1))) (conF (.int 3))) (nilA)))) (consA (tupF (consA (conF (.int 0)) (consA (conF (.int 2)) (nilA)))) (consA (tupF (consA (conF (.int 0)) (consA (conF (.int 1)) (nilA)))) (consA (tupF (consA (conF .non) (consA (conF .non) (nilA)))) (nilA)))))))))) (retF (binF ixD (varF 2) (callF fL_take (consA (varF 0) (consA (conF (.int 16)) (nilA))))))
def bL_odd_by_s2 : Env → Sto → SR := retF (binF ixD (varF 2) (callF fL_take (consA (varF 0) (consA (conF (.int 16)) (nilA)))))
def bL_odd_by : Env → Sto → SR := seqF (setF 2 (lstF (consA (conF .non) (consA (conF (.int 5)) (consA (callF listM (consA (varF 1) (nilA))) (consA (sliceF (varF 1) (noPart) (partF (conF (.int 1)))) (consA (binF addD (varF 1) (tupF (consA (conF (.int 1)) (nilA)))) (consA (tupF (consA (varF 1) (consA (conF (.int 1)) (nilA)))) (consA (tupF (consA (conF (.bl true)) (consA (conF (.int 1)) (nilA)))) (consA (tupF (consA (binF ixD (varF 1) (conF (.int 0))) (consA (conF (.bl true)) (nilA)))) (consA (tupF (consA (callF strM (consA (binF ixD (varF 1) (conF (.int 0))) (nilA))) (consA (conF (.int 1)) (nilA)))) (consA (dic0) (nilA))))))))))))) (seqF (setF 2 (binF addD (varF 2) (lstF (consA (tupF (consA (binF ixD (varF 1) (conF (.int 0))) (consA (conF (.int 0)) (nilA)))) (consA (tupF (consA (binF ixD (varF 1) (conF (.int 0))) (consA (binF subD (conF (.int 0)) (binF ixD (varF 1) (conF (.int 1)))) (nilA)))) (consA (tupF (consA (binF mulD (binF ixD (varF 1) (conF (.int 0))) (conF (.int 3))) (consA (binF mulD (binF ixD (varF 1) (conF (.int 1))) (conF (.int 3))) (nilA)))) (consA (tupF (consA (conF (.int 0)) (consA (conF (.int 2)) (nilA)))) (consA (tupF (consA (conF (.int 0)) (consA (conF (.int 1)) (nilA)))) (consA (tupF (consA (conF .non) (consA (conF .non) (nilA)))) (nilA)))))))))) (retF (binF ixD (varF 2) (callF fL_take (consA (varF 0) (consA (conF (.int 16)) (nilA)))))))
def fL_odd_by : Fn := fnM 2 1 true bL_odd_by
theorem okL_odd_by {P : Program} {w : World} {K : PySem.W.Frag} {M : Lm} {mg : Str → Option Value} {base : Heap} {f : Addr} {fd : FuncData} (N : Kn K mg "_law_odd_by" sL_odd_by ["_law_stream_here", "_law_pair"] f fd) (NA : M.arr = false) (B : Bt mg) (D_L_take : Def P w K M mg base "_law_take" 2 ["_law_stream_here", "_law_many"] fL_take) : Def P w K M mg base "_law_odd_by" 3 ["_law_stream_here", "_law_pair"] fL_odd_by :=
  N.def (FnS.of (k := 2) NA N.fn scL_odd_by rfl (by decide) fun cdv hcv A outer s H E hr gd W tk hp => by
    have nd := scL_odd_by.nd
    have U : (A.deeper (envOfC "_law_odd_by" (defScope sL_odd_by) s.heap.objs.size f cdv)).units + 65 < cLine := by
      have := hr.un
      omega
    have U64 := Nat.lt_of_succ_lt U
    have U1 := Nat.lt_of_le_of_lt (Nat.add_le_add_left (show 1 ≤ 65 by decide) _) U
    exact ss_cons (ss_set 2 nd (s_lst (sa_cons (s_non) (sa_cons (s_int) (sa_cons (s_callTy list_ok (B.b_list) (sa_cons (s_var 1) (sa_nil)) (hv := bb_list)) (sa_cons (s_slice (s_var 1) (sp_none) (sp_some (s_int))) (sa_cons (s_bin add_ok (s_var 1) (s_tup (sa_cons (s_int) (sa_nil)))) (sa_cons (s_tup (sa_cons (s_var 1) (sa_cons (s_int) (sa_nil)))) (sa_cons (s_tup (sa_cons (s_bl) (sa_cons (s_int) (sa_nil)))) (sa_cons (s_tup (sa_cons (s_ix U1 (s_var 1) (s_int)) (sa_cons (s_bl) (sa_nil)))) (sa_cons (s_tup (sa_cons (s_callTy str_ok (B.b_str) (sa_cons (s_ix U1 (s_var 1) (s_int)) (sa_nil)) (hv := bb_str)) (sa_cons (s_int) (sa_nil)))) (sa_cons (s_dic0) (sa_nil))))))))))))) (ss_cons (ss_set 2 nd (s_bin add_ok (s_var 2) (s_lst (sa_cons (s_tup (sa_cons (s_ix U1 (s_var 1) (s_int)) (sa_cons (s_int) (sa_nil)))) (sa_cons (s_tup (sa_cons (s_ix U1 (s_var 1) (s_int)) (sa_cons (s_bin sub_ok (s_int) (s_ix U1 (s_var 1) (s_int))) (sa_nil)))) (sa_cons (s_tup (sa_cons (s_bin mul_ok (s_ix U1 (s_var 1) (s_int)) (s_int)) (sa_cons (s_bin mul_ok (s_ix U1 (s_var 1) (s_int)) (s_int)) (sa_nil)))) (sa_cons (s_tup (sa_cons (s_int) (sa_cons (s_int) (sa_nil)))) (sa_cons (s_tup (sa_cons (s_int) (sa_cons (s_int) (sa_nil)))) (sa_cons (s_tup (sa_cons (s_non) (sa_cons (s_non) (sa_nil)))) (sa_nil)))))))))) (ss_one (ss_ret (s_ix U1 (s_var 2) (s_callD D_L_take hr gd tk (sa_cons (s_var 0) (sa_cons (s_int) (sa_nil)))))))))
/-! L_classes -/
abbrev sL_classes : Stmt := topS 39
abbrev nL_classes : List Str := ["_law_error", "_law_found"]
theorem scL_classes : FnScope ["_law_error", "_law_found"] ["_law_error"] (defScope sL_classes) := ⟨rfl, rfl, rfl, by decide +kernel, rfl, by decide +kernel, by decide +kernel⟩
def bL_classes_s1 : Env → Sto → SR := seqF (setF 1 (binF addD (varF 1) (lstF (consA (callF (isiX subT) (consA (varF 0) (consA (conF (.cls 4)) (nilA)))) (consA (callF (isiX subT) (consA (varF 0) (consA (conF (.cls 5)) (nilA)))) (consA (callF (isiX subT) (consA (varF 0) (consA (conF (.cls 6)) (nilA)))) (nilA))))))) (seqF (setF 1 (binF addD (varF 1) (lstF (consA (callF (isiX subT) (consA (varF 0) (consA (conF (.cls 7)) (nilA)))) (consA (callF (isiX subT) (consA (varF 0) (consA (conF (.cls 8)) (nilA)))) (consA (callF (isiX subT) (consA (varF 0) (consA (conF (.cls 9)) (nilA)))) (nilA))))))) (seqF (setF 1 (binF addD (varF 1) (lstF (consA (callF (isiX subT) (consA (varF 0) (consA (conF (.cls 10)) (nilA)))) (consA (callF (isiX subT) (consA (varF 0) (consA (conF (.cls 11)) (nilA)))) (consA (callF (isiX subT) (consA (varF 0) (consA (conF (.cls 12)) (nilA)))) (nilA))))))) (seqF (setF 1 (binF addD (varF 1) (lstF (consA (callF (isiX subT) (consA (varF 0) (consA (conF (.cls 13)) (nilA)))) (consA (callF (isiX subT) (consA (varF 0) (consA (conF (.cls 14)) (nilA)))) (consA (callF (isiX subT) (consA (varF 0) (consA (conF (.cls 15)) (nilA)))) (nilA))))))) (retF (binF addD (varF 1) (lstF (consA (callF (isiX subT) (consA (varF 0) (consA (conF (.cls 16)) (nilA)))) (consA (callF (isiX subT) (consA (varF 0) (consA (conF (.cls 17)) (nilA)))) (consA (callF (isiX subT) (consA (varF 0) (consA (conF (.cls 18)) (nilA)))) (nilA))))))))))
def bL_classes_s2 : Env → Sto → SR := seqF (setF 1 (binF addD (varF 1) (lstF (consA (callF (isiX subT) (consA (varF 0) (consA (conF (.cls 7)) (nilA)))) (consA (callF (isiX subT) (consA (varF 0) (consA (conF (.cls 8)) (nilA)))) (consA (callF (isiX subT) (consA (varF 0) (consA (conF (.cls 9)) (nilA)))) (nilA))))))) (seqF (setF 1 (binF addD (varF 1) (lstF (consA (callF (isiX subT) (consA (varF 0) (consA (conF (.cls 10)) (nilA)))) (consA (callF (isiX subT) (consA (varF 0) (consA (conF (.cls 11)) (nilA)))) (consA (callF (isiX subT) (consA (varF 0) (consA (conF (.cls 12)) (nilA)))) (nilA))))))) (seqF (setF 1 (binF addD (varF 1) (lstF (consA (callF (isiX subT) (consA (varF 0) (consA (conF (.cls 13)) (nilA)))) (consA (callF (isiX subT) (consA (varF 0) (consA (conF (.cls 14)) (nilA)))) (consA (callF (isiX subT) (consA (varF 0) (consA (conF (.cls 15)) (nilA)))) (nilA))))))) (retF (binF addD (varF 1) (lstF (consA (callF (isiX subT) (consA (varF 0) (consA (conF (.cls 16)) (nilA)))) (consA (callF (isiX subT) (consA (varF 0) (consA (conF (.cls 17)) (nilA)))) (consA (callF (isiX subT) (consA (varF 0) (consA (conF (.cls 18)) (nilA)))) (nilA)))))))))
def bL_classes_s3 : Env → Sto → SR := seqF (setF 1 (binF addD (varF 1) (lstF (consA (callF (isiX subT) (consA (varF 0) (consA (conF (.cls 10)) (nilA)))) (consA (callF (isiX subT) (consA (varF 0) (consA (conF (.cls 11)) (nilA)))) (consA (callF (isiX subT) (consA (varF 0) (consA (conF (.cls 12)) (nilA)))) (nilA))))))) (seqF (setF 1 (binF addD (varF 1) (lstF (consA (callF (isiX subT) (consA (varF 0) (consA (conF (.cls 13)) (nilA)))) (consA (callF (isiX subT) (consA (varF 0) (consA (conF (.cls 14)) (nilA)))) (consA (callF (isiX subT) (consA (varF 0) (consA (conF (.cls 15)) (nilA)))) (nilA))))))) (retF (binF addD (varF 1) (lstF (consA (callF (isiX subT) (consA (varF 0) (consA (conF (.cls 16)) (nilA)))) (consA (callF (isiX subT) (consA (varF 0) (consA (conF (.cls 17)) (nilA)))) (consA (callF (isiX subT) (consA (varF 0) (consA (conF (.cls 18)) (nilA)))) (nilA))))))))
def bL_classes_s4 : Env → Sto → SR := seqF (setF 1 (binF addD (varF 1) (lstF (consA (callF (isiX subT) (consA (varF 0) (consA (conF (.cls 13)) (nilA)))) (consA (callF (isiX subT) (consA (varF 0) (consA (conF (.cls 14)) (nilA)))) (consA (callF (isiX subT) (consA (varF 0) (consA (conF (.cls 15)) (nilA)))) (nilA))))))) (retF (binF addD (varF 1) (lstF (consA (callF (isiX subT) (consA (varF 0) (consA (conF (.cls 16)) (nilA)))) (consA (callF (isiX subT) (consA (varF 0) (consA (conF (.cls 17)) (nilA)))) (consA (callF (isiX subT) (consA (varF 0) (consA (conF (.cls 18)) (nilA)))) (nilA)))))))
def bL_classes_s5 : Env → Sto → SR := retF (binF addD (varF 1) (lstF (consA (callF (isiX subT) (consA (varF 0) (consA (conF (.cls 16)) (nilA)))) (consA (callF (isiX subT) (consA (varF 0) (consA (conF (.cls 17)) (nilA)))) (consA (callF (isiX subT) (consA (varF 0) (consA (conF (.cls 18)) (nilA)))) (nilA))))))
def bL_classes : Env → Sto → SR := seqF (setF 1 (lstF (consA (callF (isiX subT) (consA (varF 0) (consA (conF (.cls 1)) (nilA)))) (consA (callF (isiX subT) (consA (varF 0) (consA (conF (.cls 2)) (nilA)))) (consA (callF (isiX subT) (consA (varF 0) (consA (conF (.cls 3)) (nilA)))) (nilA)))))) (seqF (setF 1 (binF addD (varF 1) (lstF (consA (callF (isiX subT) (consA (varF 0) (consA (conF (.cls 4)) (nilA)))) (consA (callF (isiX subT) (consA (varF 0) (consA (conF (.cls 5)) (nilA)))) (consA (callF (isiX subT) (consA (varF 0) (consA (conF (.cls 6)) (nilA)))) (nilA))))))) (seqF (setF 1 (binF addD (varF 1) (lstF (consA (callF (isiX subT) (consA (varF 0) (consA (conF (.cls 7)) (nilA)))) (consA (callF (isiX subT) (consA (varF 0) (consA (conF (.cls 8)) (nilA)))) (consA (callF (isiX subT) (consA (varF 0) (consA (conF (.cls 9)) (nilA)))) (nilA))))))) (seqF (setF 1 (binF addD (varF 1) (lstF (consA (callF (isiX subT) (consA (varF 0) (consA (conF (.cls 10)) (nilA)))) (consA (callF (isiX subT) (consA (varF 0) (consA (conF (.cls 11)) (nilA)))) (consA (callF (isiX subT) (consA (varF 0) (consA (conF (.cls 12)) (nilA)))) (nilA))))))) (seqF (setF 1 (binF addD (varF 1) (lstF (consA (callF (isiX subT) (consA (varF 0) (consA (conF (.cls 13)) (nilA)))) (consA (callF (isiX subT) (consA (varF 0) (consA (conF (.cls 14)) (nilA)))) (consA (callF (isiX subT) (consA (varF 0) (consA (conF (.cls 15)) (nilA)))) (nilA))))))) (retF (binF addD (varF 1) (lstF (consA (callF (isiX subT) (consA (varF 0) (consA (conF (.cls 16)) (nilA)))) (consA (callF (isiX subT) (consA (varF 0) (consA (conF (.cls 17)) (nilA)))) (consA (callF (isiX subT) (consA (varF 0) (consA (conF (.cls 18)) (nilA)))) (nilA)))))))))))
def fL_classes : Fn := fnM 1 1 true bL_classes
theorem okL_classes {P : Program} {w : World} {K : PySem.W.Frag} {M : Lm} {mg : Str → Option Value} {base : Heap} {f : Addr} {fd : FuncData} (N : Kn K mg "_law_classes" sL_classes ["_law_error"] f fd) (NA : M.arr = false) (B : Bt mg) (G_BadTower : mg "BadTower" = some (.ref (M.cls 3))) (G_BadWorth : mg "BadWorth" = some (.ref (M.cls 2))) (G_BadKind : mg "BadKind" = some (.ref (M.cls 1))) (G_BadName : mg "BadName" = some (.ref (M.cls 6))) (G_BadNumber : mg "BadNumber" = some (.ref (M.cls 5))) (G_BadWay : mg "BadWay" = some (.ref (M.cls 4))) (G_BadPaper : mg "BadPaper" = some (.ref (M.cls 9))) (G_BadProgram : mg "BadProgram" = some (.ref (M.cls 8))) (G_BadTerm : mg "BadTerm" = some (.ref (M.cls 7))) (G_NoDeed : mg "NoDeed" = some (.ref (M.cls 12))) (G_BadLine : mg "BadLine" = some (.ref (M.cls 11))) (G_BadText : mg "BadText" = some (.ref (M.cls 10))) (G_NoOrder : mg "NoOrder" = some (.ref (M.cls 15))) (G_TwoKinds : mg "TwoKinds" = some (.ref (M.cls 14))) (G_NoKind : mg "NoKind" = some (.ref (M.cls 13))) (G_TooGreat : mg "TooGreat" = some (.ref (M.cls 18))) (G_Lacking : mg "Lacking" = some (.ref (M.cls 17))) (G_ByNought : mg "ByNought" = some (.ref (M.cls 16))) (XT : SubOk K M subT) : Def P w K M mg base "_law_classes" 1 ["_law_error"] fL_classes :=
  N.def (FnS.of (k := 0) NA N.fn scL_classes rfl (by decide) fun cdv hcv A outer s H E hr gd W tk hp => by
    have nd := scL_classes.nd
    have U : (A.deeper (envOfC "_law_classes" (defScope sL_classes) s.heap.objs.size f cdv)).units + 65 < cLine := by
      have := hr.un
      omega
    have U64 := Nat.lt_of_succ_lt U
    have U1 := Nat.lt_of_le_of_lt (Nat.add_le_add_left (show 1 ≤ 65 by decide) _) U
    exact ss_cons (ss_set 1 nd (s_lst (sa_cons (s_callB (isiX_ok XT) (B.b_isinstance) (sa_cons (s_var 0) (sa_cons (s_cls 1 G_BadKind) (sa_nil))) (hv := bb_isinstance)) (sa_cons (s_callB (isiX_ok XT) (B.b_isinstance) (sa_cons (s_var 0) (sa_cons (s_cls 2 G_BadWorth) (sa_nil))) (hv := bb_isinstance)) (sa_cons (s_callB (isiX_ok XT) (B.b_isinstance) (sa_cons (s_var 0) (sa_cons (s_cls 3 G_BadTower) (sa_nil))) (hv := bb_isinstance)) (sa_nil)))))) (ss_cons (ss_set 1 nd (s_bin add_ok (s_var 1) (s_lst (sa_cons (s_callB (isiX_ok XT) (B.b_isinstance) (sa_cons (s_var 0) (sa_cons (s_cls 4 G_BadWay) (sa_nil))) (hv := bb_isinstance)) (sa_cons (s_callB (isiX_ok XT) (B.b_isinstance) (sa_cons (s_var 0) (sa_cons (s_cls 5 G_BadNumber) (sa_nil))) (hv := bb_isinstance)) (sa_cons (s_callB (isiX_ok XT) (B.b_isinstance) (sa_cons (s_var 0) (sa_cons (s_cls 6 G_BadName) (sa_nil))) (hv := bb_isinstance)) (sa_nil))))))) (ss_cons (ss_set 1 nd (s_bin add_ok (s_var 1) (s_lst (sa_cons (s_callB (isiX_ok XT) (B.b_isinstance) (sa_cons (s_var 0) (sa_cons (s_cls 7 G_BadTerm) (sa_nil))) (hv := bb_isinstance)) (sa_cons (s_callB (isiX_ok XT) (B.b_isinstance) (sa_cons (s_var 0) (sa_cons (s_cls 8 G_BadProgram) (sa_nil))) (hv := bb_isinstance)) (sa_cons (s_callB (isiX_ok XT) (B.b_isinstance) (sa_cons (s_var 0) (sa_cons (s_cls 9 G_BadPaper) (sa_nil))) (hv := bb_isinstance)) (sa_nil))))))) (ss_cons (ss_set 1 nd (s_bin add_ok (s_var 1) (s_lst (sa_cons (s_callB (isiX_ok XT) (B.b_isinstance) (sa_cons (s_var 0) (sa_cons (s_cls 10 G_BadText) (sa_nil))) (hv := bb_isinstance)) (sa_cons (s_callB (isiX_ok XT) (B.b_isinstance) (sa_cons (s_var 0) (sa_cons (s_cls 11 G_BadLine) (sa_nil))) (hv := bb_isinstance)) (sa_cons (s_callB (isiX_ok XT) (B.b_isinstance) (sa_cons (s_var 0) (sa_cons (s_cls 12 G_NoDeed) (sa_nil))) (hv := bb_isinstance)) (sa_nil))))))) (ss_cons (ss_set 1 nd (s_bin add_ok (s_var 1) (s_lst (sa_cons (s_callB (isiX_ok XT) (B.b_isinstance) (sa_cons (s_var 0) (sa_cons (s_cls 13 G_NoKind) (sa_nil))) (hv := bb_isinstance)) (sa_cons (s_callB (isiX_ok XT) (B.b_isinstance) (sa_cons (s_var 0) (sa_cons (s_cls 14 G_TwoKinds) (sa_nil))) (hv := bb_isinstance)) (sa_cons (s_callB (isiX_ok XT) (B.b_isinstance) (sa_cons (s_var 0) (sa_cons (s_cls 15 G_NoOrder) (sa_nil))) (hv := bb_isinstance)) (sa_nil))))))) (ss_one (ss_ret (s_bin add_ok (s_var 1) (s_lst (sa_cons (s_callB (isiX_ok XT) (B.b_isinstance) (sa_cons (s_var 0) (sa_cons (s_cls 16 G_ByNought) (sa_nil))) (hv := bb_isinstance)) (sa_cons (s_callB (isiX_ok XT) (B.b_isinstance) (sa_cons (s_var 0) (sa_cons (s_cls 17 G_Lacking) (sa_nil))) (hv := bb_isinstance)) (sa_cons (s_callB (isiX_ok XT) (B.b_isinstance) (sa_cons (s_var 0) (sa_cons (s_cls 18 G_TooGreat) (sa_nil))) (hv := bb_isinstance)) (sa_nil)))))))))))))
/-! L_classes_right -/
abbrev sL_classes_right : Stmt := topS 40
abbrev nL_classes_right : List Str := ["_law_rows", "_law_k", "_law_error", "_law_number"]
theorem scL_classes_right : FnScope ["_law_rows", "_law_k", "_law_error", "_law_number"] [] (defScope sL_classes_right) := ⟨rfl, rfl, rfl, by decide +kernel, rfl, by decide +kernel, by decide +kernel⟩
def bL_classes_right_e0 : Env → Sto → Res D := binF eqD (varF 3) (varF 1)
def bL_classes_right_l1 : Env → Sto → SR := seqF (ifF (isB (binF neD (callF fL_classes (consA (varF 2) (nilA))) (lcF [3] (itR1 (consA (conF (.int 18)) (nilA))) (.one 3) yesF bL_classes_right_e0))) (retF (conF (.bl false))) (nopF)) (ifF (orT (notT (isB (callF (isiX subT) (consA (varF 2) (consA (conF (.cls 0)) (nilA)))))) (notT (isB (callF (isiX subT) (consA (varF 2) (consA (conF (.ty .verr)) (nilA))))))) (retF (conF (.bl false))) (nopF))
def bL_classes_right_l1_s1 : Env → Sto → SR := ifF (orT (notT (isB (callF (isiX subT) (consA (varF 2) (consA (conF (.cls 0)) (nilA)))))) (notT (isB (callF (isiX subT) (consA (varF 2) (consA (conF (.ty .verr)) (nilA))))))) (retF (conF (.bl false))) (nopF)
def bL_classes_right_s1 : Env → Sto → SR := seqF (setF 0 (binF addD (varF 0) (lstF (consA (excG 8 (mk1 (conF (.int 3)))) (consA (excG 9 (mk1 (tupF (consA (conF (.int 2)) (nilA))))) (consA (excG 10 (mk2 (conF (.int 4)) (conF (.int 5)))) (consA (excG 11 (mk0)) (consA (excG 12 (mk0)) (consA (excG 13 (mk0)) (nilA)))))))))) (seqF (setF 0 (binF addD (varF 0) (lstF (consA (excG 14 (mk2 (conF (.int 1)) (conF (.int 2)))) (consA (excG 15 (mk0)) (consA (excG 16 (mk0)) (consA (excG 17 (mk0)) (consA (excG 18 (mk0)) (nilA))))))))) (seqF (itF (itE (consA (varF 0) (nilA))) (.many [.one 1, .one 2]) bL_classes_right_l1) (seqF (ifF (orT (isB (binF neD (fldG [(3, 0), (9, 0)] (binF ixD (varF 0) (conF (.int 2)))) (tupF (consA (conF (.int 0)) (consA (conF (.int 1)) (nilA)))))) (orT (isB (binF neD (fldG [(8, 0)] (binF ixD (varF 0) (conF (.int 7)))) (conF (.int 3)))) (isB (binF neD (fldG [(3, 0), (9, 0)] (binF ixD (varF 0) (conF (.int 8)))) (tupF (consA (conF (.int 2)) (nilA))))))) (retF (conF (.bl false))) (nopF)) (retF (binF eqD (tupF (consA (fldG [(10, 1)] (binF ixD (varF 0) (conF (.int 9)))) (consA (fldG [(10, 0)] (binF ixD (varF 0) (conF (.int 9)))) (consA (fldG [(14, 1)] (binF ixD (varF 0) (conF (.int 13)))) (consA (fldG [(14, 0)] (binF ixD (varF 0) (conF (.int 13)))) (nilA)))))) (tupF (consA (conF (.int 4)) (consA (conF (.int 5)) (consA (conF (.int 1)) (consA (conF (.int 2)) (nilA)))))))))))
def bL_classes_right_s2 : Env → Sto → SR := seqF (setF 0 (binF addD (varF 0) (lstF (consA (excG 14 (mk2 (conF (.int 1)) (conF (.int 2)))) (consA (excG 15 (mk0)) (consA (excG 16 (mk0)) (consA (excG 17 (mk0)) (consA (excG 18 (mk0)) (nilA))))))))) (seqF (itF (itE (consA (varF 0) (nilA))) (.many [.one 1, .one 2]) bL_classes_right_l1) (seqF (ifF (orT (isB (binF neD (fldG [(3, 0), (9, 0)] (binF ixD (varF 0) (conF (.int 2)))) (tupF (consA (conF (.int 0)) (consA (conF (.int 1)) (nilA)))))) (orT (isB (binF neD (fldG [(8, 0)] (binF ixD (varF 0) (conF (.int 7)))) (conF (.int 3)))) (isB (binF neD (fldG [(3, 0), (9, 0)] (binF ixD (varF 0) (conF (.int 8)))) (tupF (consA (conF (.int 2)) (nilA))))))) (retF (conF (.bl false))) (nopF)) (retF (binF eqD (tupF (consA (fldG [(10, 1)] (binF ixD (varF 0) (conF (.int 9)))) (consA (fldG [(10, 0)] (binF ixD (varF 0) (conF (.int 9)))) (consA (fldG [(14, 1)] (binF ixD (varF 0) (conF (.int 13)))) (consA (fldG [(14, 0)] (binF ixD (varF 0) (conF (.int 13)))) (nilA)))))) (tupF (consA (conF (.int 4)) (consA (conF (.int 5)) (consA (conF (.int 1)) (consA (conF (.int 2)) (nilA))))))))))
def bL_classes_right_s3 : Env → Sto → SR := seqF (itF (itE (consA (varF 0) (nilA))) (.many [.one 1, .one 2]) bL_classes_right_l1) (seqF (ifF (orT (isB (binF neD (fldG [(3, 0), (9, 0)] (binF ixD (varF 0) (conF (.int 2)))) (tupF (consA (conF (.int 0)) (consA (conF (.int 1)) (nilA)))))) (orT (isB (binF neD (fldG [(8, 0)] (binF ixD (varF 0) (conF (.int 7)))) (conF (.int 3)))) (isB (binF neD (fldG [(3, 0), (9, 0)] (binF ixD (varF 0) (conF (.int 8)))) (tupF (consA (conF (.int 2)) (nilA))))))) (retF (conF (.bl false))) (nopF)) (retF (binF eqD (tupF (consA (fldG [(10, 1)] (binF ixD (varF 0) (conF (.int 9)))) (consA (fldG [(10, 0)] (binF ixD (varF 0) (conF (.int 9)))) (consA (fldG [(14, 1)] (binF ixD (varF 0) (conF (.int 13)))) (consA (fldG [(14, 0)] (binF ixD (varF 0) (conF (.int 13)))) (nilA)))))) (tupF (consA (conF (.int 4)) (consA (conF (.int 5)) (consA (conF (.int 1)) (consA (conF (.int 2)) (nilA)))))))))
def bL_classes_right_s4 : Env → Sto → SR := seqF (ifF (orT (isB (binF neD (fldG [(3, 0), (9, 0)] (binF ixD (varF 0) (conF (.int 2)))) (tupF (consA (conF (.int 0)) (consA (conF (.int 1)) (nilA)))))) (orT (isB (binF neD (fldG [(8, 0)] (binF ixD (varF 0) (conF (.int 7)))) (conF (.int 3)))) (isB (binF neD (fldG [(3, 0), (9, 0)] (binF ixD (varF 0) (conF (.int 8)))) (tupF (consA (conF (.int 2)) (nilA))))))) (retF (conF (.bl false))) (nopF)) (retF (binF eqD (tupF (consA (fldG [(10, 1)] (binF ixD (varF 0) (conF (.int 9)))) (consA (fldG [(10, 0)] (binF ixD (varF 0) (conF (.int 9)))) (consA (fldG [(14, 1)] (binF ixD (varF 0) (conF (.int 13)))) (consA (fldG [(14, 0)] (binF ixD (varF 0) (conF (.int 13)))) (nilA)))))) (tupF (consA (conF (.int 4)) (consA (conF (.int 5)) (consA (conF (.int 1)) (consA (conF (.int 2)) (nilA))))))))
def bL_classes_right_s5 : Env → Sto → SR := retF (binF eqD (tupF (consA (fldG [(10, 1)] (binF ixD (varF 0) (conF (.int 9)))) (consA (fldG [(10, 0)] (binF ixD (varF 0) (conF (.int 9)))) (consA (fldG [(14, 1)] (binF ixD (varF 0) (conF (.int 13)))) (consA (fldG [(14, 0)] (binF ixD (varF 0) (conF (.int 13)))) (nilA)))))) (tupF (consA (conF (.int 4)) (consA (conF (.int 5)) (consA (conF (.int 1)) (consA (conF (.int 2)) (nilA)))))))
def bL_classes_right : Env → Sto → SR := seqF (setF 0 (lstF (consA (excG 1 (mk0)) (consA (excG 2 (mk0)) (consA (excG 3 (mk1 (tupF (consA (conF (.int 0)) (consA (conF (.int 1)) (nilA)))))) (consA (excG 4 (mk0)) (consA (excG 5 (mk0)) (consA (excG 6 (mk0)) (consA (excG 7 (mk0)) (nilA)))))))))) (seqF (setF 0 (binF addD (varF 0) (lstF (consA (excG 8 (mk1 (conF (.int 3)))) (consA (excG 9 (mk1 (tupF (consA (conF (.int 2)) (nilA))))) (consA (excG 10 (mk2 (conF (.int 4)) (conF (.int 5)))) (consA (excG 11 (mk0)) (consA (excG 12 (mk0)) (consA (excG 13 (mk0)) (nilA)))))))))) (seqF (setF 0 (binF addD (varF 0) (lstF (consA (excG 14 (mk2 (conF (.int 1)) (conF (.int 2)))) (consA (excG 15 (mk0)) (consA (excG 16 (mk0)) (consA (excG 17 (mk0)) (consA (excG 18 (mk0)) (nilA))))))))) (seqF (itF (itE (consA (varF 0) (nilA))) (.many [.one 1, .one 2]) bL_classes_right_l1) (seqF (ifF (orT (isB (binF neD (fldG [(3, 0), (9, 0)] (binF ixD (varF 0) (conF (.int 2)))) (tupF (consA (conF (.int 0)) (consA (conF (.int 1)) (nilA)))))) (orT (isB (binF neD (fldG [(8, 0)] (binF ixD (varF 0) (conF (.int 7)))) (conF (.int 3)))) (isB (binF neD (fldG [(3, 0), (9, 0)] (binF ixD (varF 0) (conF (.int 8)))) (tupF (consA (conF (.int 2)) (nilA))))))) (retF (conF (.bl false))) (nopF)) (retF (binF eqD (tupF (consA (fldG [(10, 1)] (binF ixD (varF 0) (conF (.int 9)))) (consA (fldG [(10, 0)] (binF ixD (varF 0) (conF (.int 9)))) (consA (fldG [(14, 1)] (binF ixD (varF 0) (conF (.int 13)))) (consA (fldG [(14, 0)] (binF ixD (varF 0) (conF (.int 13)))) (nilA)))))) (tupF (consA (conF (.int 4)) (consA (conF (.int 5)) (consA (conF (.int 1)) (consA (conF (.int 2)) (nilA))))))))))))
def fL_classes_right : Fn := fnM 0 4 true bL_classes_right
theorem okL_classes_right {P : Program} {w : World} {K : PySem.W.Frag} {M : Lm} {mg : Str → Option Value} {base : Heap} {f : Addr} {fd : FuncData} (N : Kn K mg "_law_classes_right" sL_classes_right [] f fd) (NA : M.arr = false) (B : Bt mg) (D_L_classes : Def P w K M mg base "_law_classes" 1 ["_law_error"] fL_classes) (G_BadTerm : mg "BadTerm" = some (.ref (M.cls 7))) (G_BadName : mg "BadName" = some (.ref (M.cls 6))) (G_BadNumber : mg "BadNumber" = some (.ref (M.cls 5))) (G_BadWay : mg "BadWay" = some (.ref (M.cls 4))) (G_BadTower : mg "BadTower" = some (.ref (M.cls 3))) (G_BadWorth : mg "BadWorth" = some (.ref (M.cls 2))) (G_BadKind : mg "BadKind" = some (.ref (M.cls 1))) (G_NoKind : mg "NoKind" = some (.ref (M.cls 13))) (G_NoDeed : mg "NoDeed" = some (.ref (M.cls 12))) (G_BadLine : mg "BadLine" = some (.ref (M.cls 11))) (G_BadText : mg "BadText" = some (.ref (M.cls 10))) (G_BadPaper : mg "BadPaper" = some (.ref (M.cls 9))) (G_BadProgram : mg "BadProgram" = some (.ref (M.cls 8))) (G_TooGreat : mg "TooGreat" = some (.ref (M.cls 18))) (G_Lacking : mg "Lacking" = some (.ref (M.cls 17))) (G_ByNought : mg "ByNought" = some (.ref (M.cls 16))) (G_NoOrder : mg "NoOrder" = some (.ref (M.cls 15))) (G_TwoKinds : mg "TwoKinds" = some (.ref (M.cls 14))) (G_TowerError : mg "TowerError" = some (.ref (M.cls 0))) (X_BadTerm : XcF K (M.cls 7)) (X_BadName : XcF K (M.cls 6)) (X_BadNumber : XcF K (M.cls 5)) (X_BadWay : XcF K (M.cls 4)) (X_BadWorth : XcF K (M.cls 2)) (X_BadKind : XcF K (M.cls 1)) (X_NoKind : XcF K (M.cls 13)) (X_NoDeed : XcF K (M.cls 12)) (X_BadLine : XcF K (M.cls 11)) (X_TooGreat : XcF K (M.cls 18)) (X_Lacking : XcF K (M.cls 17)) (X_ByNought : XcF K (M.cls 16)) (X_NoOrder : XcF K (M.cls 15)) (I_BadTower : Ini P w K M mg base 3 1 "place") (I_BadText : Ini2 P w K M mg base 10 1 "line" "word") (I_BadPaper : Ini P w K M mg base 9 1 "place") (I_BadProgram : Ini P w K M mg base 8 1 "row") (I_TwoKinds : Ini2 P w K M mg base 14 1 "one" "other") (FK_place : ∀ p ∈ ([(3, 0), (9, 0)] : List (Nat × Nat)), FldI K M "place" p.1 p.2) (FK_row : ∀ p ∈ ([(8, 0)] : List (Nat × Nat)), FldI K M "row" p.1 p.2) (FK_other : ∀ p ∈ ([(14, 0)] : List (Nat × Nat)), FldI K M "other" p.1 p.2) (FK_one : ∀ p ∈ ([(14, 1)] : List (Nat × Nat)), FldI K M "one" p.1 p.2) (FK_word : ∀ p ∈ ([(10, 0)] : List (Nat × Nat)), FldI K M "word" p.1 p.2) (FK_line : ∀ p ∈ ([(10, 1)] : List (Nat × Nat)), FldI K M "line" p.1 p.2) (XT : SubOk K M subT) : Def P w K M mg base "_law_classes_right" 3 [] fL_classes_right :=
  N.def (FnS.of (k := 2) NA N.fn scL_classes_right rfl (by decide) fun cdv hcv A outer s H E hr gd W tk hp => by
    have nd := scL_classes_right.nd
    have U : (A.deeper (envOfC "_law_classes_right" (defScope sL_classes_right) s.heap.objs.size f cdv)).units + 65 < cLine := by
      have := hr.un
      omega
    have U64 := Nat.lt_of_succ_lt U
    have U1 := Nat.lt_of_le_of_lt (Nat.add_le_add_left (show 1 ≤ 65 by decide) _) U
    exact ss_cons (ss_set 0 nd (s_lst (sa_cons (s_excG (smk0 1 X_BadKind G_BadKind)) (sa_cons (s_excG (smk0 2 X_BadWorth G_BadWorth)) (sa_cons (s_excG (smk1 3 I_BadTower (hr.mono (by decide)) (s_tup (sa_cons (s_int) (sa_cons (s_int) (sa_nil)))) G_BadTower)) (sa_cons (s_excG (smk0 4 X_BadWay G_BadWay)) (sa_cons (s_excG (smk0 5 X_BadNumber G_BadNumber)) (sa_cons (s_excG (smk0 6 X_BadName G_BadName)) (sa_cons (s_excG (smk0 7 X_BadTerm G_BadTerm)) (sa_nil)))))))))) (ss_cons (ss_set 0 nd (s_bin add_ok (s_var 0) (s_lst (sa_cons (s_excG (smk1 8 I_BadProgram (hr.mono (by decide)) (s_int) G_BadProgram)) (sa_cons (s_excG (smk1 9 I_BadPaper (hr.mono (by decide)) (s_tup (sa_cons (s_int) (sa_nil))) G_BadPaper)) (sa_cons (s_excG (smk2 10 I_BadText (hr.mono (by decide)) (s_int) (s_int) G_BadText)) (sa_cons (s_excG (smk0 11 X_BadLine G_BadLine)) (sa_cons (s_excG (smk0 12 X_NoDeed G_NoDeed)) (sa_cons (s_excG (smk0 13 X_NoKind G_NoKind)) (sa_nil)))))))))) (ss_cons (ss_set 0 nd (s_bin add_ok (s_var 0) (s_lst (sa_cons (s_excG (smk2 14 I_TwoKinds (hr.mono (by decide)) (s_int) (s_int) G_TwoKinds)) (sa_cons (s_excG (smk0 15 X_NoOrder G_NoOrder)) (sa_cons (s_excG (smk0 16 X_ByNought G_ByNought)) (sa_cons (s_excG (smk0 17 X_Lacking G_Lacking)) (sa_cons (s_excG (smk0 18 X_TooGreat G_TooGreat)) (sa_nil))))))))) (ss_cons (ss_for hp rfl (si_enum (sa_cons (s_var 0) (sa_nil)) (B.b_enumerate)) (sg_tup rfl (sgs_cons (sg_name 1 nd) (sgs_cons (sg_name 2 nd) (sgs_nil))) 2) (ss_cons (ss_if (st_cmp (ne_ok U64) (s_callD D_L_classes hr gd tk (sa_cons (s_var 2) (sa_nil))) (s_lc [("_law_number", 3)] rfl nd (si_range1 (sa_cons (s_int) (sa_nil)) (B.b_range)) (blkOk_by (N := nL_classes_right) (sc := defScope sL_classes_right) (by decide +kernel)) (sg2_name 3 fun _ => pg_name (i := 3) nd rfl (by first | exact Or.inl rfl | exact Or.inr rfl)) (fun _ => sts_nil) (fun _ => s_cmp (eq_ok U64) (s_var 3) (s_var 1)))) (ss_one (ss_ret (s_bl))) (ss_nil)) (ss_one (ss_if (st_w (sw_or (st_not (st_val (s_callB (isiX_ok XT) (B.b_isinstance) (sa_cons (s_var 2) (sa_cons (s_cls 0 G_TowerError) (sa_nil))) (hv := bb_isinstance)))) (sw_or1 (st_not (st_val (s_callB (isiX_ok XT) (B.b_isinstance) (sa_cons (s_var 2) (sa_cons (s_bty .verr (B.b_ValueError) bb_ValueError) (sa_nil))) (hv := bb_isinstance))))))) (ss_one (ss_ret (s_bl))) (ss_nil))))) (ss_cons (ss_if (st_w (sw_or (st_cmp (ne_ok U64) (s_fldG [(3, 0), (9, 0)] FK_place (s_ix U1 (s_var 0) (s_int))) (s_tup (sa_cons (s_int) (sa_cons (s_int) (sa_nil))))) (sw_or (st_cmp (ne_ok U64) (s_fldG [(8, 0)] FK_row (s_ix U1 (s_var 0) (s_int))) (s_int)) (sw_or1 (st_cmp (ne_ok U64) (s_fldG [(3, 0), (9, 0)] FK_place (s_ix U1 (s_var 0) (s_int))) (s_tup (sa_cons (s_int) (sa_nil)))))))) (ss_one (ss_ret (s_bl))) (ss_nil)) (ss_one (ss_ret (s_cmp (eq_ok U64) (s_tup (sa_cons (s_fldG [(10, 1)] FK_line (s_ix U1 (s_var 0) (s_int))) (sa_cons (s_fldG [(10, 0)] FK_word (s_ix U1 (s_var 0) (s_int))) (sa_cons (s_fldG [(14, 1)] FK_one (s_ix U1 (s_var 0) (s_int))) (sa_cons (s_fldG [(14, 0)] FK_other (s_ix U1 (s_var 0) (s_int))) (sa_nil)))))) (s_tup (sa_cons (s_int) (sa_cons (s_int) (sa_cons (s_int) (sa_cons (s_int) (sa_nil))))))))))))))
/-! common_part -/
abbrev scommon_part : Stmt := topS 23
abbrev ncommon_part : List Str := ["one", "other"]
theorem sccommon_part : FnScope ["one", "other"] ["one", "other"] (defScope scommon_part) := ⟨rfl, rfl, rfl, by decide +kernel, rfl, by decide +kernel, by decide +kernel⟩
def bcommon_part_t0 : Env → Sto → Res Bool := isB (binF neD (varF 1) (conF (.int 0)))
def bcommon_part_w1 : Env → Sto → SR := parF [0, 1] (consA (varF 1) (consA (binF modD (varF 0) (varF 1)) (nilA)))
def bcommon_part_s1 : Env → Sto → SR := seqF (whileF bcommon_part_t0 bcommon_part_w1) (retF (varF 0))
def bcommon_part_s2 : Env → Sto → SR := retF (varF 0)
def bcommon_part : Env → Sto → SR := seqF (parF [0, 1] (consA (callF absM (consA (varF 0) (nilA))) (consA (callF absM (consA (varF 1) (nilA))) (nilA)))) (seqF (whileF bcommon_part_t0 bcommon_part_w1) (retF (varF 0)))
def fcommon_part : Fn := fnM 2 0 true bcommon_part
theorem okcommon_part {P : Program} {w : World} {K : PySem.W.Frag} {M : Lm} {mg : Str → Option Value} {base : Heap} {f : Addr} {fd : FuncData} (N : Kn K mg "common_part" scommon_part ["one", "other"] f fd) (NA : M.arr = false) (B : Bt mg) : Def P w K M mg base "common_part" 1 ["one", "other"] fcommon_part :=
  N.def (FnS.of (k := 0) NA N.fn sccommon_part rfl (by decide) fun cdv hcv A outer s H E hr gd W tk hp => by
    have nd := sccommon_part.nd
    have U : (A.deeper (envOfC "common_part" (defScope scommon_part) s.heap.objs.size f cdv)).units + 65 < cLine := by
      have := hr.un
      omega
    have U64 := Nat.lt_of_succ_lt U
    have U1 := Nat.lt_of_le_of_lt (Nat.add_le_add_left (show 1 ≤ 65 by decide) _) U
    exact ss_cons (ss_par 0 1 rfl nd (sa_cons (s_callB abs_ok (B.b_abs) (sa_cons (s_var 0) (sa_nil)) (hv := bb_abs)) (sa_cons (s_callB abs_ok (B.b_abs) (sa_cons (s_var 1) (sa_nil)) (hv := bb_abs)) (sa_nil)))) (ss_cons (ss_while hp (st_cmp (ne_ok U64) (s_var 1) (s_int)) (ss_one (ss_par 0 1 rfl nd (sa_cons (s_var 1) (sa_cons (s_bin mod_ok (s_var 0) (s_var 1)) (sa_nil)))))) (ss_one (ss_ret (s_var 0)))))
/-! in_lowest -/
abbrev sin_lowest : Stmt := topS 25
abbrev nin_lowest : List Str := ["above", "below", "part"]
theorem scin_lowest : FnScope ["above", "below", "part"] ["above", "below"] (defScope sin_lowest) := ⟨rfl, rfl, rfl, by decide +kernel, rfl, by decide +kernel, by decide +kernel⟩
def bin_lowest_s1 : Env → Sto → SR := seqF (ifF (isB (binF ltD (varF 1) (conF (.int 0)))) (setF 2 (binF subD (conF (.int 0)) (varF 2))) (nopF)) (retF (tupF (consA (binF fdivD (varF 0) (varF 2)) (consA (binF fdivD (varF 1) (varF 2)) (nilA)))))
def bin_lowest_s2 : Env → Sto → SR := retF (tupF (consA (binF fdivD (varF 0) (varF 2)) (consA (binF fdivD (varF 1) (varF 2)) (nilA))))
def bin_lowest : Env → Sto → SR := seqF (setF 2 (callF fcommon_part (consA (varF 0) (consA (varF 1) (nilA))))) (seqF (ifF (isB (binF ltD (varF 1) (conF (.int 0)))) (setF 2 (binF subD (conF (.int 0)) (varF 2))) (nopF)) (retF (tupF (consA (binF fdivD (varF 0) (varF 2)) (consA (binF fdivD (varF 1) (varF 2)) (nilA))))))
def fin_lowest : Fn := fnM 2 1 true bin_lowest
theorem okin_lowest {P : Program} {w : World} {K : PySem.W.Frag} {M : Lm} {mg : Str → Option Value} {base : Heap} {f : Addr} {fd : FuncData} (N : Kn K mg "in_lowest" sin_lowest ["above", "below"] f fd) (NA : M.arr = false) (B : Bt mg) (D_common_part : Def P w K M mg base "common_part" 1 ["one", "other"] fcommon_part) : Def P w K M mg base "in_lowest" 2 ["above", "below"] fin_lowest :=
  N.def (FnS.of (k := 1) NA N.fn scin_lowest rfl (by decide) fun cdv hcv A outer s H E hr gd W tk hp => by
    have nd := scin_lowest.nd
    have U : (A.deeper (envOfC "in_lowest" (defScope sin_lowest) s.heap.objs.size f cdv)).units + 65 < cLine := by
      have := hr.un
      omega
    have U64 := Nat.lt_of_succ_lt U
    have U1 := Nat.lt_of_le_of_lt (Nat.add_le_add_left (show 1 ≤ 65 by decide) _) U
    exact ss_cons (ss_set 2 nd (s_callD D_common_part hr gd tk (sa_cons (s_var 0) (sa_cons (s_var 1) (sa_nil))))) (ss_cons (ss_if (st_cmp lt_ok (s_var 1) (s_int)) (ss_one (ss_set 2 nd (s_bin sub_ok (s_int) (s_var 2)))) (ss_nil)) (ss_one (ss_ret (s_tup (sa_cons (s_bin fdiv_ok (s_var 0) (s_var 2)) (sa_cons (s_bin fdiv_ok (s_var 1) (s_var 2)) (sa_nil))))))))
/-! is_whole -/
abbrev sis_whole : Stmt := topS 21
abbrev nis_whole : List Str := ["thing"]
theorem scis_whole : FnScope ["thing"] ["thing"] (defScope sis_whole) := ⟨rfl, rfl, rfl, by decide +kernel, rfl, by decide +kernel, by decide +kernel⟩
def bis_whole : Env → Sto → SR := retF (andV (callF isiM (consA (varF 0) (consA (conF (.ty .int)) (nilA)))) (notV (callF isiM (consA (varF 0) (consA (conF (.ty .bool)) (nilA))))))
def fis_whole : Fn := fnM 1 0 true bis_whole
theorem okis_whole {P : Program} {w : World} {K : PySem.W.Frag} {M : Lm} {mg : Str → Option Value} {base : Heap} {f : Addr} {fd : FuncData} (N : Kn K mg "is_whole" sis_whole ["thing"] f fd) (NA : M.arr = false) (B : Bt mg) : Def P w K M mg base "is_whole" 1 ["thing"] fis_whole :=
  N.def (FnS.of (k := 0) NA N.fn scis_whole rfl (by decide) fun cdv hcv A outer s H E hr gd W tk hp => by
    have nd := scis_whole.nd
    have U : (A.deeper (envOfC "is_whole" (defScope sis_whole) s.heap.objs.size f cdv)).units + 65 < cLine := by
      have := hr.un
      omega
    have U64 := Nat.lt_of_succ_lt U
    have U1 := Nat.lt_of_le_of_lt (Nat.add_le_add_left (show 1 ≤ 65 by decide) _) U
    exact ss_one (ss_ret (s_and (s_callB isi_ok (B.b_isinstance) (sa_cons (s_var 0) (sa_cons (s_bty .int (B.b_int) bb_int) (sa_nil))) (hv := bb_isinstance)) (s_one (s_not (s_callB isi_ok (B.b_isinstance) (sa_cons (s_var 0) (sa_cons (s_bty .bool (B.b_bool) bb_bool) (sa_nil))) (hv := bb_isinstance)))))))
/-! fraction -/
abbrev sfraction : Stmt := topS 26
abbrev nfraction : List Str := ["above", "below"]
theorem scfraction : FnScope ["above", "below"] ["above", "below"] (defScope sfraction) := ⟨rfl, rfl, rfl, by decide +kernel, rfl, by decide +kernel, by decide +kernel⟩
def bfraction_s1 : Env → Sto → SR := retF (callF fin_lowest (consA (varF 0) (consA (varF 1) (nilA))))
def bfraction : Env → Sto → SR := seqF (ifF (orT (notT (isB (callF fis_whole (consA (varF 0) (nilA))))) (orT (notT (isB (callF fis_whole (consA (varF 1) (nilA))))) (isB (binF eqD (varF 1) (conF (.int 0)))))) (raiseF 5) (nopF)) (retF (callF fin_lowest (consA (varF 0) (consA (varF 1) (nilA)))))
def ffraction : Fn := fnM 2 0 true bfraction
theorem okfraction {P : Program} {w : World} {K : PySem.W.Frag} {M : Lm} {mg : Str → Option Value} {base : Heap} {f : Addr} {fd : FuncData} (N : Kn K mg "fraction" sfraction ["above", "below"] f fd) (NA : M.arr = false) (B : Bt mg) (D_is_whole : Def P w K M mg base "is_whole" 1 ["thing"] fis_whole) (D_in_lowest : Def P w K M mg base "in_lowest" 2 ["above", "below"] fin_lowest) (G_BadNumber : mg "BadNumber" = some (.ref (M.cls 5))) (X_BadNumber : XcF K (M.cls 5)) : Def P w K M mg base "fraction" 3 ["above", "below"] ffraction :=
  N.def (FnS.of (k := 2) NA N.fn scfraction rfl (by decide) fun cdv hcv A outer s H E hr gd W tk hp => by
    have nd := scfraction.nd
    have U : (A.deeper (envOfC "fraction" (defScope sfraction) s.heap.objs.size f cdv)).units + 65 < cLine := by
      have := hr.un
      omega
    have U64 := Nat.lt_of_succ_lt U
    have U1 := Nat.lt_of_le_of_lt (Nat.add_le_add_left (show 1 ≤ 65 by decide) _) U
    exact ss_cons (ss_if (st_w (sw_or (st_not (st_val (s_callD D_is_whole hr gd tk (sa_cons (s_var 0) (sa_nil))))) (sw_or (st_not (st_val (s_callD D_is_whole hr gd tk (sa_cons (s_var 1) (sa_nil))))) (sw_or1 (st_cmp (eq_ok U64) (s_var 1) (s_int)))))) (ss_one (ss_raise 5 rfl tk X_BadNumber G_BadNumber)) (ss_nil)) (ss_one (ss_ret (s_callD D_in_lowest hr gd tk (sa_cons (s_var 0) (sa_cons (s_var 1) (sa_nil)))))))
/-! L_word -/
abbrev sL_word : Stmt := topS 31
abbrev nL_word : List Str := ["_law_error", "_law_some", "_law_found", "_law_word_here", "_law_good"]
theorem scL_word : FnScope ["_law_error", "_law_some", "_law_found", "_law_word_here", "_law_good"] ["_law_error"] (defScope sL_word) := ⟨rfl, rfl, rfl, by decide +kernel, rfl, by decide +kernel, by decide +kernel⟩
def bL_word_c0 : Env → Sto → Res Bool := isB (varF 4)
def bL_word_e1 : Env → Sto → Res D := varF 3
def bL_word_s1 : Env → Sto → SR := seqF (ifF (isB (callF (isiX subT) (consA (varF 0) (consA (tupF (consA (conF (.cls 3)) (consA (conF (.cls 4)) (consA (conF (.cls 6)) (consA (conF (.cls 7)) (consA (conF (.cls 8)) (consA (conF (.cls 9)) (consA (conF (.cls 10)) (nilA))))))))) (nilA))))) (retF (conF (.str [97, 110, 111, 116, 104, 101, 114]))) (nopF)) (seqF (ifF (isB (callF (isiX subT) (consA (varF 0) (consA (tupF (consA (conF (.cls 11)) (consA (conF (.cls 12)) (consA (conF (.cls 13)) (consA (conF (.cls 14)) (consA (conF (.cls 15)) (consA (conF (.cls 17)) (consA (conF (.cls 18)) (nilA))))))))) (nilA))))) (retF (conF (.str [97, 110, 111, 116, 104, 101, 114]))) (nopF)) (seqF (setF 1 (lstF (consA (tupF (consA (conF (.str [107, 105, 110, 100])) (consA (callF (isiX subT) (consA (varF 0) (consA (conF (.cls 1)) (nilA)))) (nilA)))) (consA (tupF (consA (conF (.str [119, 111, 114, 116, 104])) (consA (callF (isiX subT) (consA (varF 0) (consA (conF (.cls 2)) (nilA)))) (nilA)))) (nilA))))) (seqF (setF 1 (binF addD (varF 1) (lstF (consA (tupF (consA (conF (.str [110, 117, 109, 98, 101, 114])) (consA (callF (isiX subT) (consA (varF 0) (consA (conF (.cls 5)) (nilA)))) (nilA)))) (consA (tupF (consA (conF (.str [110, 111, 117, 103, 104, 116])) (consA (callF (isiX subT) (consA (varF 0) (consA (conF (.cls 16)) (nilA)))) (nilA)))) (nilA)))))) (seqF (setF 2 (lcF [3, 4] (itS (varF 1)) (.many [.one 3, .one 4]) bL_word_c0 bL_word_e1)) (retF (iteF (andT (isB (binF eqD (callF lenM (consA (varF 2) (nilA))) (conF (.int 1)))) (isB (callF (isiX subT) (consA (varF 0) (consA (conF (.ty .verr)) (nilA)))))) (binF ixD (varF 2) (conF (.int 0))) (conF (.str [97, 110, 111, 116, 104, 101, 114]))))))))
def bL_word_s2 : Env → Sto → SR := seqF (ifF (isB (callF (isiX subT) (consA (varF 0) (consA (tupF (consA (conF (.cls 11)) (consA (conF (.cls 12)) (consA (conF (.cls 13)) (consA (conF (.cls 14)) (consA (conF (.cls 15)) (consA (conF (.cls 17)) (consA (conF (.cls 18)) (nilA))))))))) (nilA))))) (retF (conF (.str [97, 110, 111, 116, 104, 101, 114]))) (nopF)) (seqF (setF 1 (lstF (consA (tupF (consA (conF (.str [107, 105, 110, 100])) (consA (callF (isiX subT) (consA (varF 0) (consA (conF (.cls 1)) (nilA)))) (nilA)))) (consA (tupF (consA (conF (.str [119, 111, 114, 116, 104])) (consA (callF (isiX subT) (consA (varF 0) (consA (conF (.cls 2)) (nilA)))) (nilA)))) (nilA))))) (seqF (setF 1 (binF addD (varF 1) (lstF (consA (tupF (consA (conF (.str [110, 117, 109, 98, 101, 114])) (consA (callF (isiX subT) (consA (varF 0) (consA (conF (.cls 5)) (nilA)))) (nilA)))) (consA (tupF (consA (conF (.str [110, 111, 117, 103, 104, 116])) (consA (callF (isiX subT) (consA (varF 0) (consA (conF (.cls 16)) (nilA)))) (nilA)))) (nilA)))))) (seqF (setF 2 (lcF [3, 4] (itS (varF 1)) (.many [.one 3, .one 4]) bL_word_c0 bL_word_e1)) (retF (iteF (andT (isB (binF eqD (callF lenM (consA (varF 2) (nilA))) (conF (.int 1)))) (isB (callF (isiX subT) (consA (varF 0) (consA (conF (.ty .verr)) (nilA)))))) (binF ixD (varF 2) (conF (.int 0))) (conF (.str [97, 110, 111, 116, 104, 101, 114])))))))
def bL_word_s3 : Env → Sto → SR := seqF (setF 1 (lstF (consA (tupF (consA (conF (.str [107, 105, 110, 100])) (consA (callF (isiX subT) (consA (varF 0) (consA (conF (.cls 1)) (nilA)))) (nilA)))) (consA (tupF (consA (conF (.str [119, 111, 114, 116, 104])) (consA (callF (isiX subT) (consA (varF 0) (consA (conF (.cls 2)) (nilA)))) (nilA)))) (nilA))))) (seqF (setF 1 (binF addD (varF 1) (lstF (consA (tupF (consA (conF (.str [110, 117, 109, 98, 101, 114])) (consA (callF (isiX subT) (consA (varF 0) (consA (conF (.cls 5)) (nilA)))) (nilA)))) (consA (tupF (consA (conF (.str [110, 111, 117, 103, 104, 116])) (consA (callF (isiX subT) (consA (varF 0) (consA (conF (.cls 16)) (nilA)))) (nilA)))) (nilA)))))) (seqF (setF 2 (lcF [3, 4] (itS (varF 1)) (.many [.one 3, .one 4]) bL_word_c0 bL_word_e1)) (retF (iteF (andT (isB (binF eqD (callF lenM (consA (varF 2) (nilA))) (conF (.int 1)))) (isB (callF (isiX subT) (consA (varF 0) (consA (conF (.ty .verr)) (nilA)))))) (binF ixD (varF 2) (conF (.int 0))) (conF (.str [97, 110, 111, 116, 104, 101, 114]))))))
def bL_word_s4 : Env → Sto → SR := seqF (setF 1 (binF addD (varF 1) (lstF (consA (tupF (consA (conF (.str [110, 117, 109, 98, 101, 114])) (consA (callF (isiX subT) (consA (varF 0) (consA (conF (.cls 5)) (nilA)))) (nilA)))) (consA (tupF (consA (conF (.str [110, 111, 117, 103, 104, 116])) (consA (callF (isiX subT) (consA (varF 0) (consA (conF (.cls 16)) (nilA)))) (nilA)))) (nilA)))))) (seqF (setF 2 (lcF [3, 4] (itS (varF 1)) (.many [.one 3, .one 4]) bL_word_c0 bL_word_e1)) (retF (iteF (andT (isB (binF eqD (callF lenM (consA (varF 2) (nilA))) (conF (.int 1)))) (isB (callF (isiX subT) (consA (varF 0) (consA (conF (.ty .verr)) (nilA)))))) (binF ixD (varF 2) (conF (.int 0))) (conF (.str [97, 110, 111, 116, 104, 101, 114])))))
def bL_word_s5 : Env → Sto → SR := seqF (setF 2 (lcF [3, 4] (itS (varF 1)) (.many [.one 3, .one 4]) bL_word_c0 bL_word_e1)) (retF (iteF (andT (isB (binF eqD (callF lenM (consA (varF 2) (nilA))) (conF (.int 1)))) (isB (callF (isiX subT) (consA (varF 0) (consA (conF (.ty .verr)) (nilA)))))) (binF ixD (varF 2) (conF (.int 0))) (conF (.str [97, 110, 111, 116, 104, 101, 114]))))
def bL_word_s6 : Env → Sto → SR := retF (iteF (andT (isB (binF eqD (callF lenM (consA (varF 2) (nilA))) (conF (.int 1)))) (isB (callF (isiX subT) (consA (varF 0) (consA (conF (.ty .verr)) (nilA)))))) (binF ixD (varF 2) (conF (.int 0))) (conF (.str [97, 110, 111, 116, 104, 101, 114])))
def bL_word : Env → Sto → SR := seqF (ifF (isB (binF (isNonD false) (varF 0) (conF .non))) (retF (conF (.str []))) (nopF)) (seqF (ifF (isB (callF (isiX subT) (consA (varF 0) (consA (tupF (consA (conF (.cls 3)) (consA (conF (.cls 4)) (consA (conF (.cls 6)) (consA (conF (.cls 7)) (consA (conF (.cls 8)) (consA (conF (.cls 9)) (consA (conF (.cls 10)) (nilA))))))))) (nilA))))) (retF (conF (.str [97, 110, 111, 116, 104, 101, 114]))) (nopF)) (seqF (ifF (isB (callF (isiX subT) (consA (varF 0) (consA (tupF (consA (conF (.cls 11)) (consA (conF (.cls 12)) (consA (conF (.cls 13)) (consA (conF (.cls 14)) (consA (conF (.cls 15)) (consA (conF (.cls 17)) (consA (conF (.cls 18)) (nilA))))))))) (nilA))))) (retF (conF (.str [97, 110, 111, 116, 104, 101, 114]))) (nopF)) (seqF (setF 1 (lstF (consA (tupF (consA (conF (.str [107, 105, 110, 100])) (consA (callF (isiX subT) (consA (varF 0) (consA (conF (.cls 1)) (nilA)))) (nilA)))) (consA (tupF (consA (conF (.str [119, 111, 114, 116, 104])) (consA (callF (isiX subT) (consA (varF 0) (consA (conF (.cls 2)) (nilA)))) (nilA)))) (nilA))))) (seqF (setF 1 (binF addD (varF 1) (lstF (consA (tupF (consA (conF (.str [110, 117, 109, 98, 101, 114])) (consA (callF (isiX subT) (consA (varF 0) (consA (conF (.cls 5)) (nilA)))) (nilA)))) (consA (tupF (consA (conF (.str [110, 111, 117, 103, 104, 116])) (consA (callF (isiX subT) (consA (varF 0) (consA (conF (.cls 16)) (nilA)))) (nilA)))) (nilA)))))) (seqF (setF 2 (lcF [3, 4] (itS (varF 1)) (.many [.one 3, .one 4]) bL_word_c0 bL_word_e1)) (retF (iteF (andT (isB (binF eqD (callF lenM (consA (varF 2) (nilA))) (conF (.int 1)))) (isB (callF (isiX subT) (consA (varF 0) (consA (conF (.ty .verr)) (nilA)))))) (binF ixD (varF 2) (conF (.int 0))) (conF (.str [97, 110, 111, 116, 104, 101, 114])))))))))
def fL_word : Fn := fnM 1 4 true bL_word
theorem okL_word {P : Program} {w : World} {K : PySem.W.Frag} {M : Lm} {mg : Str → Option Value} {base : Heap} {f : Addr} {fd : FuncData} (N : Kn K mg "_law_word" sL_word ["_law_error"] f fd) (NA : M.arr = false) (B : Bt mg) (G_BadText : mg "BadText" = some (.ref (M.cls 10))) (G_BadPaper : mg "BadPaper" = some (.ref (M.cls 9))) (G_BadProgram : mg "BadProgram" = some (.ref (M.cls 8))) (G_BadTerm : mg "BadTerm" = some (.ref (M.cls 7))) (G_BadName : mg "BadName" = some (.ref (M.cls 6))) (G_BadWay : mg "BadWay" = some (.ref (M.cls 4))) (G_BadTower : mg "BadTower" = some (.ref (M.cls 3))) (G_TooGreat : mg "TooGreat" = some (.ref (M.cls 18))) (G_Lacking : mg "Lacking" = some (.ref (M.cls 17))) (G_NoOrder : mg "NoOrder" = some (.ref (M.cls 15))) (G_TwoKinds : mg "TwoKinds" = some (.ref (M.cls 14))) (G_NoKind : mg "NoKind" = some (.ref (M.cls 13))) (G_NoDeed : mg "NoDeed" = some (.ref (M.cls 12))) (G_BadLine : mg "BadLine" = some (.ref (M.cls 11))) (G_BadWorth : mg "BadWorth" = some (.ref (M.cls 2))) (G_BadKind : mg "BadKind" = some (.ref (M.cls 1))) (G_ByNought : mg "ByNought" = some (.ref (M.cls 16))) (G_BadNumber : mg "BadNumber" = some (.ref (M.cls 5))) (XT : SubOk K M subT) : Def P w K M mg base "_law_word" 1 ["_law_error"] fL_word :=
  N.def (FnS.of (k := 0) NA N.fn scL_word rfl (by decide) fun cdv hcv A outer s H E hr gd W tk hp => by
    have nd := scL_word.nd
    have U : (A.deeper (envOfC "_law_word" (defScope sL_word) s.heap.objs.size f cdv)).units + 65 < cLine := by
      have := hr.un
      omega
    have U64 := Nat.lt_of_succ_lt U
    have U1 := Nat.lt_of_le_of_lt (Nat.add_le_add_left (show 1 ≤ 65 by decide) _) U
    exact ss_cons (ss_if (st_cmp is_ok (s_var 0) (s_non)) (ss_one (ss_ret (s_str []))) (ss_nil)) (ss_cons (ss_if (st_val (s_callB (isiX_ok XT) (B.b_isinstance) (sa_cons (s_var 0) (sa_cons (s_tup (sa_cons (s_cls 3 G_BadTower) (sa_cons (s_cls 4 G_BadWay) (sa_cons (s_cls 6 G_BadName) (sa_cons (s_cls 7 G_BadTerm) (sa_cons (s_cls 8 G_BadProgram) (sa_cons (s_cls 9 G_BadPaper) (sa_cons (s_cls 10 G_BadText) (sa_nil))))))))) (sa_nil))) (hv := bb_isinstance))) (ss_one (ss_ret (s_str [97, 110, 111, 116, 104, 101, 114]))) (ss_nil)) (ss_cons (ss_if (st_val (s_callB (isiX_ok XT) (B.b_isinstance) (sa_cons (s_var 0) (sa_cons (s_tup (sa_cons (s_cls 11 G_BadLine) (sa_cons (s_cls 12 G_NoDeed) (sa_cons (s_cls 13 G_NoKind) (sa_cons (s_cls 14 G_TwoKinds) (sa_cons (s_cls 15 G_NoOrder) (sa_cons (s_cls 17 G_Lacking) (sa_cons (s_cls 18 G_TooGreat) (sa_nil))))))))) (sa_nil))) (hv := bb_isinstance))) (ss_one (ss_ret (s_str [97, 110, 111, 116, 104, 101, 114]))) (ss_nil)) (ss_cons (ss_set 1 nd (s_lst (sa_cons (s_tup (sa_cons (s_str [107, 105, 110, 100]) (sa_cons (s_callB (isiX_ok XT) (B.b_isinstance) (sa_cons (s_var 0) (sa_cons (s_cls 1 G_BadKind) (sa_nil))) (hv := bb_isinstance)) (sa_nil)))) (sa_cons (s_tup (sa_cons (s_str [119, 111, 114, 116, 104]) (sa_cons (s_callB (isiX_ok XT) (B.b_isinstance) (sa_cons (s_var 0) (sa_cons (s_cls 2 G_BadWorth) (sa_nil))) (hv := bb_isinstance)) (sa_nil)))) (sa_nil))))) (ss_cons (ss_set 1 nd (s_bin add_ok (s_var 1) (s_lst (sa_cons (s_tup (sa_cons (s_str [110, 117, 109, 98, 101, 114]) (sa_cons (s_callB (isiX_ok XT) (B.b_isinstance) (sa_cons (s_var 0) (sa_cons (s_cls 5 G_BadNumber) (sa_nil))) (hv := bb_isinstance)) (sa_nil)))) (sa_cons (s_tup (sa_cons (s_str [110, 111, 117, 103, 104, 116]) (sa_cons (s_callB (isiX_ok XT) (B.b_isinstance) (sa_cons (s_var 0) (sa_cons (s_cls 16 G_ByNought) (sa_nil))) (hv := bb_isinstance)) (sa_nil)))) (sa_nil)))))) (ss_cons (ss_setLc 2 [("_law_word_here", 3), ("_law_good", 4)] rfl nd (si_seq (s_var 1)) (blkOk_by (N := nL_word) (sc := defScope sL_word) (by decide +kernel)) (sg2_tup (fun _ => rfl) (fun _ => rfl) (sgs2_cons (sg2_name 3 fun _ => pg_name (i := 3) nd rfl (by first | exact Or.inl rfl | exact Or.inr rfl)) (sgs2_cons (sg2_name 4 fun _ => pg_name (i := 4) nd rfl (by first | exact Or.inl rfl | exact Or.inr rfl)) (sgs2_nil)))) (fun _ => sts_one (st_val (s_var 4))) (fun _ => s_var 3) (sw_true rfl rfl rfl (by decide +kernel))) (ss_one (ss_ret (s_ite (st_w (sw_and (st_cmp (eq_ok U64) (s_callB len_ok (B.b_len) (sa_cons (s_var 2) (sa_nil)) (hv := bb_len)) (s_int)) (sw_and1 (st_val (s_callB (isiX_ok XT) (B.b_isinstance) (sa_cons (s_var 0) (sa_cons (s_bty .verr (B.b_ValueError) bb_ValueError) (sa_nil))) (hv := bb_isinstance)))))) (s_ix U1 (s_var 2) (s_int)) (s_str [97, 110, 111, 116, 104, 101, 114]))))))))))
/-! L_said -/
abbrev sL_said : Stmt := topS 36
abbrev nL_said : List Str := ["_law_one", "_law_other", "_law_caught", "_law_found", "_law_error"]
theorem scL_said : FnScope ["_law_one", "_law_other", "_law_caught", "_law_found", "_law_error"] ["_law_one", "_law_other"] (defScope sL_said) := ⟨rfl, rfl, rfl, by decide +kernel, rfl, by decide +kernel, by decide +kernel⟩
def bL_said_y0 : Env → Sto → SR := setF 3 (callF ffraction (consA (varF 0) (consA (varF 1) (nilA))))
def bL_said_s1 : Env → Sto → SR := seqF (setF 3 (conF .non)) (seqF (tryF (fun k => subT k 0) 4 2 bL_said_y0) (retF (iteF (isB (binF (isNonD false) (varF 2) (conF .non))) (tupF (consA (conF (.str [116, 111, 108, 100])) (consA (varF 3) (nilA)))) (tupF (consA (conF (.str [114, 101, 102, 117, 115, 101, 100])) (consA (callF fL_word (consA (varF 2) (nilA))) (nilA)))))))
def bL_said_s2 : Env → Sto → SR := seqF (tryF (fun k => subT k 0) 4 2 bL_said_y0) (retF (iteF (isB (binF (isNonD false) (varF 2) (conF .non))) (tupF (consA (conF (.str [116, 111, 108, 100])) (consA (varF 3) (nilA)))) (tupF (consA (conF (.str [114, 101, 102, 117, 115, 101, 100])) (consA (callF fL_word (consA (varF 2) (nilA))) (nilA))))))
def bL_said_s3 : Env → Sto → SR := retF (iteF (isB (binF (isNonD false) (varF 2) (conF .non))) (tupF (consA (conF (.str [116, 111, 108, 100])) (consA (varF 3) (nilA)))) (tupF (consA (conF (.str [114, 101, 102, 117, 115, 101, 100])) (consA (callF fL_word (consA (varF 2) (nilA))) (nilA)))))
def bL_said : Env → Sto → SR := seqF (setF 2 (conF .non)) (seqF (setF 3 (conF .non)) (seqF (tryF (fun k => subT k 0) 4 2 bL_said_y0) (retF (iteF (isB (binF (isNonD false) (varF 2) (conF .non))) (tupF (consA (conF (.str [116, 111, 108, 100])) (consA (varF 3) (nilA)))) (tupF (consA (conF (.str [114, 101, 102, 117, 115, 101, 100])) (consA (callF fL_word (consA (varF 2) (nilA))) (nilA))))))))
def fL_said : Fn := fnM 2 3 true bL_said
theorem okL_said {P : Program} {w : World} {K : PySem.W.Frag} {M : Lm} {mg : Str → Option Value} {base : Heap} {f : Addr} {fd : FuncData} (N : Kn K mg "_law_said" sL_said ["_law_one", "_law_other"] f fd) (NA : M.arr = false) (B : Bt mg) (D_fraction : Def P w K M mg base "fraction" 3 ["above", "below"] ffraction) (D_L_word : Def P w K M mg base "_law_word" 1 ["_law_error"] fL_word) (G_TowerError : mg "TowerError" = some (.ref (M.cls 0))) (XT : SubOk K M subT) : Def P w K M mg base "_law_said" 4 ["_law_one", "_law_other"] fL_said :=
  N.def (FnS.of (k := 3) NA N.fn scL_said rfl (by decide) fun cdv hcv A outer s H E hr gd W tk hp => by
    have nd := scL_said.nd
    have U : (A.deeper (envOfC "_law_said" (defScope sL_said) s.heap.objs.size f cdv)).units + 65 < cLine := by
      have := hr.un
      omega
    have U64 := Nat.lt_of_succ_lt U
    have U1 := Nat.lt_of_le_of_lt (Nat.add_le_add_left (show 1 ≤ 65 by decide) _) U
    exact ss_cons (ss_set 2 nd (s_non)) (ss_cons (ss_set 3 nd (s_non)) (ss_cons (ss_try 0 4 2 rfl rfl rfl nd rfl rfl tk G_TowerError (fun k b e => XT.exm k 0 b e) (fun W2 pn xe tk hp => ss_one (ss_set 3 nd (s_callD D_fraction hr gd tk (sa_cons (s_var 0) (sa_cons (s_var 1) (sa_nil))))))) (ss_one (ss_ret (s_ite (st_cmp is_ok (s_var 2) (s_non)) (s_tup (sa_cons (s_str [116, 111, 108, 100]) (sa_cons (s_var 3) (sa_nil)))) (s_tup (sa_cons (s_str [114, 101, 102, 117, 115, 101, 100]) (sa_cons (s_callD D_L_word hr gd tk (sa_cons (s_var 2) (sa_nil))) (sa_nil))))))))))
/-! is_fraction -/
abbrev sis_fraction : Stmt := topS 24
abbrev nis_fraction : List Str := ["thing"]
theorem scis_fraction : FnScope ["thing"] ["thing"] (defScope sis_fraction) := ⟨rfl, rfl, rfl, by decide +kernel, rfl, by decide +kernel, by decide +kernel⟩
def bis_fraction_s1 : Env → Sto → SR := retF (andV (binF gtD (binF ixD (varF 0) (conF (.int 1))) (conF (.int 0))) (binF eqD (callF fcommon_part (consA (binF ixD (varF 0) (conF (.int 0))) (consA (binF ixD (varF 0) (conF (.int 1))) (nilA)))) (conF (.int 1))))
def bis_fraction : Env → Sto → SR := seqF (ifF (orT (notT (isB (callF isiM (consA (varF 0) (consA (conF (.ty .tuple)) (nilA)))))) (orT (isB (binF neD (callF lenM (consA (varF 0) (nilA))) (conF (.int 2)))) (orT (notT (isB (callF fis_whole (consA (binF ixD (varF 0) (conF (.int 0))) (nilA))))) (notT (isB (callF fis_whole (consA (binF ixD (varF 0) (conF (.int 1))) (nilA)))))))) (retF (conF (.bl false))) (nopF)) (retF (andV (binF gtD (binF ixD (varF 0) (conF (.int 1))) (conF (.int 0))) (binF eqD (callF fcommon_part (consA (binF ixD (varF 0) (conF (.int 0))) (consA (binF ixD (varF 0) (conF (.int 1))) (nilA)))) (conF (.int 1)))))
def fis_fraction : Fn := fnM 1 0 true bis_fraction
theorem okis_fraction {P : Program} {w : World} {K : PySem.W.Frag} {M : Lm} {mg : Str → Option Value} {base : Heap} {f : Addr} {fd : FuncData} (N : Kn K mg "is_fraction" sis_fraction ["thing"] f fd) (NA : M.arr = false) (B : Bt mg) (D_is_whole : Def P w K M mg base "is_whole" 1 ["thing"] fis_whole) (D_common_part : Def P w K M mg base "common_part" 1 ["one", "other"] fcommon_part) : Def P w K M mg base "is_fraction" 2 ["thing"] fis_fraction :=
  N.def (FnS.of (k := 1) NA N.fn scis_fraction rfl (by decide) fun cdv hcv A outer s H E hr gd W tk hp => by
    have nd := scis_fraction.nd
    have U : (A.deeper (envOfC "is_fraction" (defScope sis_fraction) s.heap.objs.size f cdv)).units + 65 < cLine := by
      have := hr.un
      omega
    have U64 := Nat.lt_of_succ_lt U
    have U1 := Nat.lt_of_le_of_lt (Nat.add_le_add_left (show 1 ≤ 65 by decide) _) U
    exact ss_cons (ss_if (st_w (sw_or (st_not (st_val (s_callB isi_ok (B.b_isinstance) (sa_cons (s_var 0) (sa_cons (s_bty .tuple (B.b_tuple) bb_tuple) (sa_nil))) (hv := bb_isinstance)))) (sw_or (st_cmp (ne_ok U64) (s_callB len_ok (B.b_len) (sa_cons (s_var 0) (sa_nil)) (hv := bb_len)) (s_int)) (sw_or (st_not (st_val (s_callD D_is_whole hr gd tk (sa_cons (s_ix U1 (s_var 0) (s_int)) (sa_nil))))) (sw_or1 (st_not (st_val (s_callD D_is_whole hr gd tk (sa_cons (s_ix U1 (s_var 0) (s_int)) (sa_nil)))))))))) (ss_one (ss_ret (s_bl))) (ss_nil)) (ss_one (ss_ret (s_and (s_cmp gt_ok (s_ix U1 (s_var 0) (s_int)) (s_int)) (s_one (s_cmp (eq_ok U64) (s_callD D_common_part hr gd tk (sa_cons (s_ix U1 (s_var 0) (s_int)) (sa_cons (s_ix U1 (s_var 0) (s_int)) (sa_nil)))) (s_int)))))))
/-! L_truths_right -/
abbrev sL_truths_right : Stmt := topS 41
abbrev nL_truths_right : List Str := ["_law_one", "_law_other", "_law_good"]
theorem scL_truths_right : FnScope ["_law_one", "_law_other", "_law_good"] [] (defScope sL_truths_right) := ⟨rfl, rfl, rfl, by decide +kernel, rfl, by decide +kernel, by decide +kernel⟩
def bL_truths_right_l0 : Env → Sto → SR := seqF (setF 2 (andV (notV (callF isiM (consA (varF 0) (consA (conF (.ty .bool)) (nilA))))) (notV (callF isiM (consA (varF 1) (consA (conF (.ty .bool)) (nilA))))))) (seqF (ifF (isB (binF neD (callF fL_said (consA (varF 0) (consA (varF 1) (nilA)))) (iteF (isB (varF 2)) (tupF (consA (conF (.str [116, 111, 108, 100])) (consA (tupF (consA (varF 0) (consA (varF 1) (nilA)))) (nilA)))) (tupF (consA (conF (.str [114, 101, 102, 117, 115, 101, 100])) (consA (conF (.str [110, 117, 109, 98, 101, 114])) (nilA))))))) (retF (conF (.bl false))) (nopF)) (ifF (isB (binF neD (callF reprM (consA (callF fis_fraction (consA (tupF (consA (varF 0) (consA (varF 1) (nilA)))) (nilA))) (nilA))) (callF reprM (consA (varF 2) (nilA))))) (retF (conF (.bl false))) (nopF)))
def bL_truths_right_l0_s1 : Env → Sto → SR := seqF (ifF (isB (binF neD (callF fL_said (consA (varF 0) (consA (varF 1) (nilA)))) (iteF (isB (varF 2)) (tupF (consA (conF (.str [116, 111, 108, 100])) (consA (tupF (consA (varF 0) (consA (varF 1) (nilA)))) (nilA)))) (tupF (consA (conF (.str [114, 101, 102, 117, 115, 101, 100])) (consA (conF (.str [110, 117, 109, 98, 101, 114])) (nilA))))))) (retF (conF (.bl false))) (nopF)) (ifF (isB (binF neD (callF reprM (consA (callF fis_fraction (consA (tupF (consA (varF 0) (consA (varF 1) (nilA)))) (nilA))) (nilA))) (callF reprM (consA (varF 2) (nilA))))) (retF (conF (.bl false))) (nopF))
def bL_truths_right_l0_s2 : Env → Sto → SR := ifF (isB (binF neD (callF reprM (consA (callF fis_fraction (consA (tupF (consA (varF 0) (consA (varF 1) (nilA)))) (nilA))) (nilA))) (callF reprM (consA (varF 2) (nilA))))) (retF (conF (.bl false))) (nopF)
def bL_truths_right_s1 : Env → Sto → SR := retF (conF (.bl true))
def bL_truths_right : Env → Sto → SR := seqF (itF (itS (tupF (consA (tupF (consA (conF (.int 1)) (consA (conF (.int 2)) (nilA)))) (consA (tupF (consA (conF (.bl true)) (consA (conF (.int 2)) (nilA)))) (consA (tupF (consA (conF (.int 1)) (consA (conF (.int 2)) (nilA)))) (consA (tupF (consA (conF (.int 2)) (consA (conF (.bl true)) (nilA)))) (consA (tupF (consA (conF (.int 2)) (consA (conF (.int 1)) (nilA)))) (consA (tupF (consA (conF (.int 0)) (consA (conF (.int 1)) (nilA)))) (consA (tupF (consA (conF (.bl false)) (consA (conF (.int 1)) (nilA)))) (consA (tupF (consA (conF (.int 0)) (consA (conF (.bl true)) (nilA)))) (consA (tupF (consA (conF (.int 0)) (consA (conF (.int 1)) (nilA)))) (nilA)))))))))))) (.many [.one 0, .one 1]) bL_truths_right_l0) (retF (conF (.bl true)))
def fL_truths_right : Fn := fnM 0 3 true bL_truths_right
theorem okL_truths_right {P : Program} {w : World} {K : PySem.W.Frag} {M : Lm} {mg : Str → Option Value} {base : Heap} {f : Addr} {fd : FuncData} (N : Kn K mg "_law_truths_right" sL_truths_right [] f fd) (NA : M.arr = false) (B : Bt mg) (D_L_said : Def P w K M mg base "_law_said" 4 ["_law_one", "_law_other"] fL_said) (D_is_fraction : Def P w K M mg base "is_fraction" 2 ["thing"] fis_fraction) : Def P w K M mg base "_law_truths_right" 5 [] fL_truths_right :=
  N.def (FnS.of (k := 4) NA N.fn scL_truths_right rfl (by decide) fun cdv hcv A outer s H E hr gd W tk hp => by
    have nd := scL_truths_right.nd
    have U : (A.deeper (envOfC "_law_truths_right" (defScope sL_truths_right) s.heap.objs.size f cdv)).units + 65 < cLine := by
      have := hr.un
      omega
    have U64 := Nat.lt_of_succ_lt U
    have U1 := Nat.lt_of_le_of_lt (Nat.add_le_add_left (show 1 ≤ 65 by decide) _) U
    exact ss_cons (ss_for hp rfl (si_seq (s_tup (sa_cons (s_tup (sa_cons (s_int) (sa_cons (s_int) (sa_nil)))) (sa_cons (s_tup (sa_cons (s_bl) (sa_cons (s_int) (sa_nil)))) (sa_cons (s_tup (sa_cons (s_int) (sa_cons (s_int) (sa_nil)))) (sa_cons (s_tup (sa_cons (s_int) (sa_cons (s_bl) (sa_nil)))) (sa_cons (s_tup (sa_cons (s_int) (sa_cons (s_int) (sa_nil)))) (sa_cons (s_tup (sa_cons (s_int) (sa_cons (s_int) (sa_nil)))) (sa_cons (s_tup (sa_cons (s_bl) (sa_cons (s_int) (sa_nil)))) (sa_cons (s_tup (sa_cons (s_int) (sa_cons (s_bl) (sa_nil)))) (sa_cons (s_tup (sa_cons (s_int) (sa_cons (s_int) (sa_nil)))) (sa_nil)))))))))))) (sg_tup rfl (sgs_cons (sg_name 0 nd) (sgs_cons (sg_name 1 nd) (sgs_nil))) 2) (ss_cons (ss_set 2 nd (s_and (s_not (s_callB isi_ok (B.b_isinstance) (sa_cons (s_var 0) (sa_cons (s_bty .bool (B.b_bool) bb_bool) (sa_nil))) (hv := bb_isinstance))) (s_one (s_not (s_callB isi_ok (B.b_isinstance) (sa_cons (s_var 1) (sa_cons (s_bty .bool (B.b_bool) bb_bool) (sa_nil))) (hv := bb_isinstance)))))) (ss_cons (ss_if (st_cmp (ne_ok U64) (s_callD D_L_said hr gd tk (sa_cons (s_var 0) (sa_cons (s_var 1) (sa_nil)))) (s_ite (st_val (s_var 2)) (s_tup (sa_cons (s_str [116, 111, 108, 100]) (sa_cons (s_tup (sa_cons (s_var 0) (sa_cons (s_var 1) (sa_nil)))) (sa_nil)))) (s_tup (sa_cons (s_str [114, 101, 102, 117, 115, 101, 100]) (sa_cons (s_str [110, 117, 109, 98, 101, 114]) (sa_nil)))))) (ss_one (ss_ret (s_bl))) (ss_nil)) (ss_one (ss_if (st_cmp (ne_ok U64) (s_callB (repr_ok gd U) (B.b_repr) (sa_cons (s_callD D_is_fraction hr gd tk (sa_cons (s_tup (sa_cons (s_var 0) (sa_cons (s_var 1) (sa_nil)))) (sa_nil))) (sa_nil)) (hv := bb_repr)) (s_callB (repr_ok gd U) (B.b_repr) (sa_cons (s_var 2) (sa_nil)) (hv := bb_repr))) (ss_one (ss_ret (s_bl))) (ss_nil)))))) (ss_one (ss_ret (s_bl))))
/-! L_great_right -/
abbrev sL_great_right : Stmt := topS 42
abbrev nL_great_right : List Str := ["_law_far", "_law_turn"]
theorem scL_great_right : FnScope ["_law_far", "_law_turn"] [] (defScope sL_great_right) := ⟨rfl, rfl, rfl, by decide +kernel, rfl, by decide +kernel, by decide +kernel⟩
def bL_great_right_l0 : Env → Sto → SR := setF 0 (binF mulD (varF 0) (binF powD (conF (.int 10)) (conF (.int 60))))
def bL_great_right_s1 : Env → Sto → SR := seqF (itF (itR1 (consA (conF (.int 50)) (nilA))) (.one 1) bL_great_right_l0) (seqF (ifF (orT (isB (binF neD (callF fL_said (consA (binF mulD (conF (.int 3)) (varF 0)) (consA (binF subD (conF (.int 0)) (binF mulD (conF (.int 2)) (varF 0))) (nilA)))) (tupF (consA (conF (.str [116, 111, 108, 100])) (consA (tupF (consA (negF (conF (.int 3))) (consA (conF (.int 2)) (nilA)))) (nilA)))))) (isB (binF neD (callF fL_said (consA (binF addD (varF 0) (conF (.int 1))) (consA (varF 0) (nilA)))) (tupF (consA (conF (.str [116, 111, 108, 100])) (consA (tupF (consA (binF addD (varF 0) (conF (.int 1))) (consA (varF 0) (nilA)))) (nilA))))))) (retF (conF (.bl false))) (nopF)) (retF (andV (binF (isNonD false) (callF fis_fraction (consA (tupF (consA (binF addD (varF 0) (conF (.int 1))) (consA (varF 0) (nilA)))) (nilA))) (conF (.bl true))) (binF (isNonD false) (callF fis_fraction (consA (tupF (consA (binF mulD (conF (.int 2)) (varF 0)) (consA (binF addD (varF 0) (conF (.int 2))) (nilA)))) (nilA))) (conF (.bl false))))))
def bL_great_right_s2 : Env → Sto → SR := seqF (ifF (orT (isB (binF neD (callF fL_said (consA (binF mulD (conF (.int 3)) (varF 0)) (consA (binF subD (conF (.int 0)) (binF mulD (conF (.int 2)) (varF 0))) (nilA)))) (tupF (consA (conF (.str [116, 111, 108, 100])) (consA (tupF (consA (negF (conF (.int 3))) (consA (conF (.int 2)) (nilA)))) (nilA)))))) (isB (binF neD (callF fL_said (consA (binF addD (varF 0) (conF (.int 1))) (consA (varF 0) (nilA)))) (tupF (consA (conF (.str [116, 111, 108, 100])) (consA (tupF (consA (binF addD (varF 0) (conF (.int 1))) (consA (varF 0) (nilA)))) (nilA))))))) (retF (conF (.bl false))) (nopF)) (retF (andV (binF (isNonD false) (callF fis_fraction (consA (tupF (consA (binF addD (varF 0) (conF (.int 1))) (consA (varF 0) (nilA)))) (nilA))) (conF (.bl true))) (binF (isNonD false) (callF fis_fraction (consA (tupF (consA (binF mulD (conF (.int 2)) (varF 0)) (consA (binF addD (varF 0) (conF (.int 2))) (nilA)))) (nilA))) (conF (.bl false)))))
def bL_great_right_s3 : Env → Sto → SR := retF (andV (binF (isNonD false) (callF fis_fraction (consA (tupF (consA (binF addD (varF 0) (conF (.int 1))) (consA (varF 0) (nilA)))) (nilA))) (conF (.bl true))) (binF (isNonD false) (callF fis_fraction (consA (tupF (consA (binF mulD (conF (.int 2)) (varF 0)) (consA (binF addD (varF 0) (conF (.int 2))) (nilA)))) (nilA))) (conF (.bl false))))
def bL_great_right : Env → Sto → SR := seqF (setF 0 (conF (.int 1))) (seqF (itF (itR1 (consA (conF (.int 50)) (nilA))) (.one 1) bL_great_right_l0) (seqF (ifF (orT (isB (binF neD (callF fL_said (consA (binF mulD (conF (.int 3)) (varF 0)) (consA (binF subD (conF (.int 0)) (binF mulD (conF (.int 2)) (varF 0))) (nilA)))) (tupF (consA (conF (.str [116, 111, 108, 100])) (consA (tupF (consA (negF (conF (.int 3))) (consA (conF (.int 2)) (nilA)))) (nilA)))))) (isB (binF neD (callF fL_said (consA (binF addD (varF 0) (conF (.int 1))) (consA (varF 0) (nilA)))) (tupF (consA (conF (.str [116, 111, 108, 100])) (consA (tupF (consA (binF addD (varF 0) (conF (.int 1))) (consA (varF 0) (nilA)))) (nilA))))))) (retF (conF (.bl false))) (nopF)) (retF (andV (binF (isNonD false) (callF fis_fraction (consA (tupF (consA (binF addD (varF 0) (conF (.int 1))) (consA (varF 0) (nilA)))) (nilA))) (conF (.bl true))) (binF (isNonD false) (callF fis_fraction (consA (tupF (consA (binF mulD (conF (.int 2)) (varF 0)) (consA (binF addD (varF 0) (conF (.int 2))) (nilA)))) (nilA))) (conF (.bl false)))))))
def fL_great_right : Fn := fnM 0 2 true bL_great_right
theorem okL_great_right {P : Program} {w : World} {K : PySem.W.Frag} {M : Lm} {mg : Str → Option Value} {base : Heap} {f : Addr} {fd : FuncData} (N : Kn K mg "_law_great_right" sL_great_right [] f fd) (NA : M.arr = false) (B : Bt mg) (D_L_said : Def P w K M mg base "_law_said" 4 ["_law_one", "_law_other"] fL_said) (D_is_fraction : Def P w K M mg base "is_fraction" 2 ["thing"] fis_fraction) : Def P w K M mg base "_law_great_right" 5 [] fL_great_right :=
  N.def (FnS.of (k := 4) NA N.fn scL_great_right rfl (by decide) fun cdv hcv A outer s H E hr gd W tk hp => by
    have nd := scL_great_right.nd
    have U : (A.deeper (envOfC "_law_great_right" (defScope sL_great_right) s.heap.objs.size f cdv)).units + 65 < cLine := by
      have := hr.un
      omega
    have U64 := Nat.lt_of_succ_lt U
    have U1 := Nat.lt_of_le_of_lt (Nat.add_le_add_left (show 1 ≤ 65 by decide) _) U
    exact ss_cons (ss_set 0 nd (s_int)) (ss_cons (ss_for hp rfl (si_range1 (sa_cons (s_int) (sa_nil)) (B.b_range)) (sg_name 1 nd) (ss_one (ss_set 0 nd (s_bin mul_ok (s_var 0) (s_bin pow_ok (s_int) (s_int)))))) (ss_cons (ss_if (st_w (sw_or (st_cmp (ne_ok U64) (s_callD D_L_said hr gd tk (sa_cons (s_bin mul_ok (s_int) (s_var 0)) (sa_cons (s_bin sub_ok (s_int) (s_bin mul_ok (s_int) (s_var 0))) (sa_nil)))) (s_tup (sa_cons (s_str [116, 111, 108, 100]) (sa_cons (s_tup (sa_cons (s_neg (s_int)) (sa_cons (s_int) (sa_nil)))) (sa_nil))))) (sw_or1 (st_cmp (ne_ok U64) (s_callD D_L_said hr gd tk (sa_cons (s_bin add_ok (s_var 0) (s_int)) (sa_cons (s_var 0) (sa_nil)))) (s_tup (sa_cons (s_str [116, 111, 108, 100]) (sa_cons (s_tup (sa_cons (s_bin add_ok (s_var 0) (s_int)) (sa_cons (s_var 0) (sa_nil)))) (sa_nil)))))))) (ss_one (ss_ret (s_bl))) (ss_nil)) (ss_one (ss_ret (s_and (s_cmp is_ok (s_callD D_is_fraction hr gd tk (sa_cons (s_tup (sa_cons (s_bin add_ok (s_var 0) (s_int)) (sa_cons (s_var 0) (sa_nil)))) (sa_nil))) (s_bl)) (s_one (s_cmp is_ok (s_callD D_is_fraction hr gd tk (sa_cons (s_tup (sa_cons (s_bin mul_ok (s_int) (s_var 0)) (sa_cons (s_bin add_ok (s_var 0) (s_int)) (sa_nil)))) (sa_nil))) (s_bl)))))))))
/-! L_whole_by -/
abbrev sL_whole_by : Stmt := topS 34
abbrev nL_whole_by : List Str := ["_law_stream_here", "_law_kind", "_law_far"]
theorem scL_whole_by : FnScope ["_law_stream_here", "_law_kind", "_law_far"] ["_law_stream_here"] (defScope sL_whole_by) := ⟨rfl, rfl, rfl, by decide +kernel, rfl, by decide +kernel, by decide +kernel⟩
def bL_whole_by_s1 : Env → Sto → SR := seqF (ifF (isB (binF ltD (varF 1) (conF (.int 3)))) (retF (binF subD (callF fL_take (consA (varF 0) (consA (conF (.int 41)) (nilA)))) (conF (.int 20)))) (nopF)) (seqF (ifF (isB (binF eqD (varF 1) (conF (.int 3)))) (seqF (setF 2 (binF ixD (lstF (consA (conF (.int 100)) (consA (conF (.int 1000)) (consA (binF powD (conF (.int 10)) (conF (.int 9))) (consA (binF powD (conF (.int 10)) (conF (.int 20))) (nilA)))))) (callF fL_take (consA (varF 0) (consA (conF (.int 4)) (nilA)))))) (retF (binF subD (binF addD (binF mulD (varF 2) (binF subD (conF (.int 1)) (binF mulD (conF (.int 2)) (callF fL_take (consA (varF 0) (consA (conF (.int 2)) (nilA))))))) (callF fL_take (consA (varF 0) (consA (conF (.int 3)) (nilA))))) (conF (.int 1))))) (nopF)) (retF (binF mulD (binF addD (binF mulD (callF fL_take (consA (varF 0) (consA (binF powD (conF (.int 10)) (conF (.int 6))) (nilA)))) (binF powD (conF (.int 10)) (conF (.int 54)))) (callF fL_take (consA (varF 0) (consA (binF powD (conF (.int 10)) (conF (.int 6))) (nilA))))) (binF subD (conF (.int 1)) (binF mulD (conF (.int 2)) (callF fL_take (consA (varF 0) (consA (conF (.int 2)) (nilA)))))))))
def bL_whole_by_s2 : Env → Sto → SR := seqF (ifF (isB (binF eqD (varF 1) (conF (.int 3)))) (seqF (setF 2 (binF ixD (lstF (consA (conF (.int 100)) (consA (conF (.int 1000)) (consA (binF powD (conF (.int 10)) (conF (.int 9))) (consA (binF powD (conF (.int 10)) (conF (.int 20))) (nilA)))))) (callF fL_take (consA (varF 0) (consA (conF (.int 4)) (nilA)))))) (retF (binF subD (binF addD (binF mulD (varF 2) (binF subD (conF (.int 1)) (binF mulD (conF (.int 2)) (callF fL_take (consA (varF 0) (consA (conF (.int 2)) (nilA))))))) (callF fL_take (consA (varF 0) (consA (conF (.int 3)) (nilA))))) (conF (.int 1))))) (nopF)) (retF (binF mulD (binF addD (binF mulD (callF fL_take (consA (varF 0) (consA (binF powD (conF (.int 10)) (conF (.int 6))) (nilA)))) (binF powD (conF (.int 10)) (conF (.int 54)))) (callF fL_take (consA (varF 0) (consA (binF powD (conF (.int 10)) (conF (.int 6))) (nilA))))) (binF subD (conF (.int 1)) (binF mulD (conF (.int 2)) (callF fL_take (consA (varF 0) (consA (conF (.int 2)) (nilA))))))))
def bL_whole_by_s3 : Env → Sto → SR := retF (binF mulD (binF addD (binF mulD (callF fL_take (consA (varF 0) (consA (binF powD (conF (.int 10)) (conF (.int 6))) (nilA)))) (binF powD (conF (.int 10)) (conF (.int 54)))) (callF fL_take (consA (varF 0) (consA (binF powD (conF (.int 10)) (conF (.int 6))) (nilA))))) (binF subD (conF (.int 1)) (binF mulD (conF (.int 2)) (callF fL_take (consA (varF 0) (consA (conF (.int 2)) (nilA)))))))
def bL_whole_by : Env → Sto → SR := seqF (setF 1 (callF fL_take (consA (varF 0) (consA (conF (.int 5)) (nilA))))) (seqF (ifF (isB (binF ltD (varF 1) (conF (.int 3)))) (retF (binF subD (callF fL_take (consA (varF 0) (consA (conF (.int 41)) (nilA)))) (conF (.int 20)))) (nopF)) (seqF (ifF (isB (binF eqD (varF 1) (conF (.int 3)))) (seqF (setF 2 (binF ixD (lstF (consA (conF (.int 100)) (consA (conF (.int 1000)) (consA (binF powD (conF (.int 10)) (conF (.int 9))) (consA (binF powD (conF (.int 10)) (conF (.int 20))) (nilA)))))) (callF fL_take (consA (varF 0) (consA (conF (.int 4)) (nilA)))))) (retF (binF subD (binF addD (binF mulD (varF 2) (binF subD (conF (.int 1)) (binF mulD (conF (.int 2)) (callF fL_take (consA (varF 0) (consA (conF (.int 2)) (nilA))))))) (callF fL_take (consA (varF 0) (consA (conF (.int 3)) (nilA))))) (conF (.int 1))))) (nopF)) (retF (binF mulD (binF addD (binF mulD (callF fL_take (consA (varF 0) (consA (binF powD (conF (.int 10)) (conF (.int 6))) (nilA)))) (binF powD (conF (.int 10)) (conF (.int 54)))) (callF fL_take (consA (varF 0) (consA (binF powD (conF (.int 10)) (conF (.int 6))) (nilA))))) (binF subD (conF (.int 1)) (binF mulD (conF (.int 2)) (callF fL_take (consA (varF 0) (consA (conF (.int 2)) (nilA))))))))))
def fL_whole_by : Fn := fnM 1 2 true bL_whole_by
theorem okL_whole_by {P : Program} {w : World} {K : PySem.W.Frag} {M : Lm} {mg : Str → Option Value} {base : Heap} {f : Addr} {fd : FuncData} (N : Kn K mg "_law_whole_by" sL_whole_by ["_law_stream_here"] f fd) (NA : M.arr = false) (B : Bt mg) (D_L_take : Def P w K M mg base "_law_take" 2 ["_law_stream_here", "_law_many"] fL_take) : Def P w K M mg base "_law_whole_by" 3 ["_law_stream_here"] fL_whole_by :=
  N.def (FnS.of (k := 2) NA N.fn scL_whole_by rfl (by decide) fun cdv hcv A outer s H E hr gd W tk hp => by
    have nd := scL_whole_by.nd
    have U : (A.deeper (envOfC "_law_whole_by" (defScope sL_whole_by) s.heap.objs.size f cdv)).units + 65 < cLine := by
      have := hr.un
      omega
    have U64 := Nat.lt_of_succ_lt U
    have U1 := Nat.lt_of_le_of_lt (Nat.add_le_add_left (show 1 ≤ 65 by decide) _) U
    exact ss_cons (ss_set 1 nd (s_callD D_L_take hr gd tk (sa_cons (s_var 0) (sa_cons (s_int) (sa_nil))))) (ss_cons (ss_if (st_cmp lt_ok (s_var 1) (s_int)) (ss_one (ss_ret (s_bin sub_ok (s_callD D_L_take hr gd tk (sa_cons (s_var 0) (sa_cons (s_int) (sa_nil)))) (s_int)))) (ss_nil)) (ss_cons (ss_if (st_cmp (eq_ok U64) (s_var 1) (s_int)) (ss_cons (ss_set 2 nd (s_ix U1 (s_lst (sa_cons (s_int) (sa_cons (s_int) (sa_cons (s_bin pow_ok (s_int) (s_int)) (sa_cons (s_bin pow_ok (s_int) (s_int)) (sa_nil)))))) (s_callD D_L_take hr gd tk (sa_cons (s_var 0) (sa_cons (s_int) (sa_nil)))))) (ss_one (ss_ret (s_bin sub_ok (s_bin add_ok (s_bin mul_ok (s_var 2) (s_bin sub_ok (s_int) (s_bin mul_ok (s_int) (s_callD D_L_take hr gd tk (sa_cons (s_var 0) (sa_cons (s_int) (sa_nil))))))) (s_callD D_L_take hr gd tk (sa_cons (s_var 0) (sa_cons (s_int) (sa_nil))))) (s_int))))) (ss_nil)) (ss_one (ss_ret (s_bin mul_ok (s_bin add_ok (s_bin mul_ok (s_callD D_L_take hr gd tk (sa_cons (s_var 0) (sa_cons (s_bin pow_ok (s_int) (s_int)) (sa_nil)))) (s_bin pow_ok (s_int) (s_int))) (s_callD D_L_take hr gd tk (sa_cons (s_var 0) (sa_cons (s_bin pow_ok (s_int) (s_int)) (sa_nil))))) (s_bin sub_ok (s_int) (s_bin mul_ok (s_int) (s_callD D_L_take hr gd tk (sa_cons (s_var 0) (sa_cons (s_int) (sa_nil))))))))))))
/-! L_far_by -/
abbrev sL_far_by : Stmt := topS 35
abbrev nL_far_by : List Str := ["_law_stream_here", "_law_one"]
theorem scL_far_by : FnScope ["_law_stream_here", "_law_one"] ["_law_stream_here"] (defScope sL_far_by) := ⟨rfl, rfl, rfl, by decide +kernel, rfl, by decide +kernel, by decide +kernel⟩
def bL_far_by_s1 : Env → Sto → SR := retF (iteF (isB (binF eqD (callF fL_take (consA (varF 0) (consA (conF (.int 6)) (nilA)))) (conF (.int 0)))) (binF addD (binF mulD (binF mulD (binF mulD (binF mulD (varF 1) (binF powD (conF (.int 10)) (conF (.int 60)))) (binF powD (conF (.int 10)) (conF (.int 60)))) (binF powD (conF (.int 10)) (conF (.int 60)))) (binF powD (conF (.int 10)) (conF (.int 60)))) (conF (.int 7))) (varF 1))
def bL_far_by : Env → Sto → SR := seqF (setF 1 (callF fL_whole_by (consA (varF 0) (nilA)))) (retF (iteF (isB (binF eqD (callF fL_take (consA (varF 0) (consA (conF (.int 6)) (nilA)))) (conF (.int 0)))) (binF addD (binF mulD (binF mulD (binF mulD (binF mulD (varF 1) (binF powD (conF (.int 10)) (conF (.int 60)))) (binF powD (conF (.int 10)) (conF (.int 60)))) (binF powD (conF (.int 10)) (conF (.int 60)))) (binF powD (conF (.int 10)) (conF (.int 60)))) (conF (.int 7))) (varF 1)))
def fL_far_by : Fn := fnM 1 1 true bL_far_by
theorem okL_far_by {P : Program} {w : World} {K : PySem.W.Frag} {M : Lm} {mg : Str → Option Value} {base : Heap} {f : Addr} {fd : FuncData} (N : Kn K mg "_law_far_by" sL_far_by ["_law_stream_here"] f fd) (NA : M.arr = false) (B : Bt mg) (D_L_whole_by : Def P w K M mg base "_law_whole_by" 3 ["_law_stream_here"] fL_whole_by) (D_L_take : Def P w K M mg base "_law_take" 2 ["_law_stream_here", "_law_many"] fL_take) : Def P w K M mg base "_law_far_by" 4 ["_law_stream_here"] fL_far_by :=
  N.def (FnS.of (k := 3) NA N.fn scL_far_by rfl (by decide) fun cdv hcv A outer s H E hr gd W tk hp => by
    have nd := scL_far_by.nd
    have U : (A.deeper (envOfC "_law_far_by" (defScope sL_far_by) s.heap.objs.size f cdv)).units + 65 < cLine := by
      have := hr.un
      omega
    have U64 := Nat.lt_of_succ_lt U
    have U1 := Nat.lt_of_le_of_lt (Nat.add_le_add_left (show 1 ≤ 65 by decide) _) U
    exact ss_cons (ss_set 1 nd (s_callD D_L_whole_by hr gd tk (sa_cons (s_var 0) (sa_nil)))) (ss_one (ss_ret (s_ite (st_cmp (eq_ok U64) (s_callD D_L_take hr gd tk (sa_cons (s_var 0) (sa_cons (s_int) (sa_nil)))) (s_int)) (s_bin add_ok (s_bin mul_ok (s_bin mul_ok (s_bin mul_ok (s_bin mul_ok (s_var 1) (s_bin pow_ok (s_int) (s_int))) (s_bin pow_ok (s_int) (s_int))) (s_bin pow_ok (s_int) (s_int))) (s_bin pow_ok (s_int) (s_int))) (s_int)) (s_var 1)))))
/-! L_part -/
abbrev sL_part : Stmt := topS 32
abbrev nL_part : List Str := ["_law_one", "_law_other"]
theorem scL_part : FnScope ["_law_one", "_law_other"] ["_law_one", "_law_other"] (defScope sL_part) := ⟨rfl, rfl, rfl, by decide +kernel, rfl, by decide +kernel, by decide +kernel⟩
def bL_part_t0 : Env → Sto → Res Bool := andT (isB (binF gtD (varF 0) (conF (.int 0)))) (isB (binF gtD (varF 1) (conF (.int 0))))
def bL_part_w1 : Env → Sto → SR := ifF (isB (binF geD (varF 0) (varF 1))) (setF 0 (binF modD (varF 0) (varF 1))) (setF 1 (binF modD (varF 1) (varF 0)))
def bL_part_s1 : Env → Sto → SR := seqF (whileF bL_part_t0 bL_part_w1) (retF (binF addD (varF 0) (varF 1)))
def bL_part_s2 : Env → Sto → SR := retF (binF addD (varF 0) (varF 1))
def bL_part : Env → Sto → SR := seqF (parF [0, 1] (consA (callF absM (consA (varF 0) (nilA))) (consA (callF absM (consA (varF 1) (nilA))) (nilA)))) (seqF (whileF bL_part_t0 bL_part_w1) (retF (binF addD (varF 0) (varF 1))))
def fL_part : Fn := fnM 2 0 true bL_part
theorem okL_part {P : Program} {w : World} {K : PySem.W.Frag} {M : Lm} {mg : Str → Option Value} {base : Heap} {f : Addr} {fd : FuncData} (N : Kn K mg "_law_part" sL_part ["_law_one", "_law_other"] f fd) (NA : M.arr = false) (B : Bt mg) : Def P w K M mg base "_law_part" 1 ["_law_one", "_law_other"] fL_part :=
  N.def (FnS.of (k := 0) NA N.fn scL_part rfl (by decide) fun cdv hcv A outer s H E hr gd W tk hp => by
    have nd := scL_part.nd
    have U : (A.deeper (envOfC "_law_part" (defScope sL_part) s.heap.objs.size f cdv)).units + 65 < cLine := by
      have := hr.un
      omega
    have U64 := Nat.lt_of_succ_lt U
    have U1 := Nat.lt_of_le_of_lt (Nat.add_le_add_left (show 1 ≤ 65 by decide) _) U
    exact ss_cons (ss_par 0 1 rfl nd (sa_cons (s_callB abs_ok (B.b_abs) (sa_cons (s_var 0) (sa_nil)) (hv := bb_abs)) (sa_cons (s_callB abs_ok (B.b_abs) (sa_cons (s_var 1) (sa_nil)) (hv := bb_abs)) (sa_nil)))) (ss_cons (ss_while hp (st_w (sw_and (st_cmp gt_ok (s_var 0) (s_int)) (sw_and1 (st_cmp gt_ok (s_var 1) (s_int))))) (ss_one (ss_if (st_cmp ge_ok (s_var 0) (s_var 1)) (ss_one (ss_set 0 nd (s_bin mod_ok (s_var 0) (s_var 1)))) (ss_one (ss_set 1 nd (s_bin mod_ok (s_var 1) (s_var 0))))))) (ss_one (ss_ret (s_bin add_ok (s_var 0) (s_var 1))))))
/-! L_lowest -/
abbrev sL_lowest : Stmt := topS 33
abbrev nL_lowest : List Str := ["_law_above", "_law_below", "_law_part_here"]
theorem scL_lowest : FnScope ["_law_above", "_law_below", "_law_part_here"] ["_law_above", "_law_below"] (defScope sL_lowest) := ⟨rfl, rfl, rfl, by decide +kernel, rfl, by decide +kernel, by decide +kernel⟩
def bL_lowest_s1 : Env → Sto → SR := retF (tupF (consA (binF fdivD (varF 0) (varF 2)) (consA (binF fdivD (varF 1) (varF 2)) (nilA))))
def bL_lowest : Env → Sto → SR := seqF (setF 2 (binF mulD (callF fL_part (consA (varF 0) (consA (varF 1) (nilA)))) (iteF (isB (binF gtD (varF 1) (conF (.int 0)))) (conF (.int 1)) (negF (conF (.int 1)))))) (retF (tupF (consA (binF fdivD (varF 0) (varF 2)) (consA (binF fdivD (varF 1) (varF 2)) (nilA)))))
def fL_lowest : Fn := fnM 2 1 true bL_lowest
theorem okL_lowest {P : Program} {w : World} {K : PySem.W.Frag} {M : Lm} {mg : Str → Option Value} {base : Heap} {f : Addr} {fd : FuncData} (N : Kn K mg "_law_lowest" sL_lowest ["_law_above", "_law_below"] f fd) (NA : M.arr = false) (B : Bt mg) (D_L_part : Def P w K M mg base "_law_part" 1 ["_law_one", "_law_other"] fL_part) : Def P w K M mg base "_law_lowest" 2 ["_law_above", "_law_below"] fL_lowest :=
  N.def (FnS.of (k := 1) NA N.fn scL_lowest rfl (by decide) fun cdv hcv A outer s H E hr gd W tk hp => by
    have nd := scL_lowest.nd
    have U : (A.deeper (envOfC "_law_lowest" (defScope sL_lowest) s.heap.objs.size f cdv)).units + 65 < cLine := by
      have := hr.un
      omega
    have U64 := Nat.lt_of_succ_lt U
    have U1 := Nat.lt_of_le_of_lt (Nat.add_le_add_left (show 1 ≤ 65 by decide) _) U
    exact ss_cons (ss_set 2 nd (s_bin mul_ok (s_callD D_L_part hr gd tk (sa_cons (s_var 0) (sa_cons (s_var 1) (sa_nil)))) (s_ite (st_cmp gt_ok (s_var 1) (s_int)) (s_int) (s_neg (s_int))))) (ss_one (ss_ret (s_tup (sa_cons (s_bin fdiv_ok (s_var 0) (s_var 2)) (sa_cons (s_bin fdiv_ok (s_var 1) (s_var 2)) (sa_nil)))))))
/-! L_is -/
abbrev sL_is : Stmt := topS 37
abbrev nL_is : List Str := ["_law_thing", "_law_one"]
theorem scL_is : FnScope ["_law_thing", "_law_one"] ["_law_thing"] (defScope sL_is) := ⟨rfl, rfl, rfl, by decide +kernel, rfl, by decide +kernel, by decide +kernel⟩
def bL_is_e0 : Env → Sto → Res D := andV (callF isiM (consA (varF 1) (consA (conF (.ty .int)) (nilA)))) (notV (callF isiM (consA (varF 1) (consA (conF (.ty .bool)) (nilA)))))
def bL_is_s1 : Env → Sto → SR := seqF (ifF (notT (isB (callF allM (consA (lcF [1] (itS (varF 0)) (.one 1) yesF bL_is_e0) (nilA))))) (retF (conF (.bl false))) (nopF)) (retF (andV (binF gtD (binF ixD (varF 0) (conF (.int 1))) (conF (.int 0))) (binF eqD (callF fL_part (consA (binF ixD (varF 0) (conF (.int 0))) (consA (binF ixD (varF 0) (conF (.int 1))) (nilA)))) (conF (.int 1)))))
def bL_is_s2 : Env → Sto → SR := retF (andV (binF gtD (binF ixD (varF 0) (conF (.int 1))) (conF (.int 0))) (binF eqD (callF fL_part (consA (binF ixD (varF 0) (conF (.int 0))) (consA (binF ixD (varF 0) (conF (.int 1))) (nilA)))) (conF (.int 1))))
def bL_is : Env → Sto → SR := seqF (ifF (orT (notT (isB (callF isiM (consA (varF 0) (consA (conF (.ty .tuple)) (nilA)))))) (isB (binF neD (callF lenM (consA (varF 0) (nilA))) (conF (.int 2))))) (retF (conF (.bl false))) (nopF)) (seqF (ifF (notT (isB (callF allM (consA (lcF [1] (itS (varF 0)) (.one 1) yesF bL_is_e0) (nilA))))) (retF (conF (.bl false))) (nopF)) (retF (andV (binF gtD (binF ixD (varF 0) (conF (.int 1))) (conF (.int 0))) (binF eqD (callF fL_part (consA (binF ixD (varF 0) (conF (.int 0))) (consA (binF ixD (varF 0) (conF (.int 1))) (nilA)))) (conF (.int 1))))))
def fL_is : Fn := fnM 1 1 true bL_is
theorem okL_is {P : Program} {w : World} {K : PySem.W.Frag} {M : Lm} {mg : Str → Option Value} {base : Heap} {f : Addr} {fd : FuncData} (N : Kn K mg "_law_is" sL_is ["_law_thing"] f fd) (NA : M.arr = false) (B : Bt mg) (D_L_part : Def P w K M mg base "_law_part" 1 ["_law_one", "_law_other"] fL_part) : Def P w K M mg base "_law_is" 2 ["_law_thing"] fL_is :=
  N.def (FnS.of (k := 1) NA N.fn scL_is rfl (by decide) fun cdv hcv A outer s H E hr gd W tk hp => by
    have nd := scL_is.nd
    have U : (A.deeper (envOfC "_law_is" (defScope sL_is) s.heap.objs.size f cdv)).units + 65 < cLine := by
      have := hr.un
      omega
    have U64 := Nat.lt_of_succ_lt U
    have U1 := Nat.lt_of_le_of_lt (Nat.add_le_add_left (show 1 ≤ 65 by decide) _) U
    exact ss_cons (ss_if (st_w (sw_or (st_not (st_val (s_callB isi_ok (B.b_isinstance) (sa_cons (s_var 0) (sa_cons (s_bty .tuple (B.b_tuple) bb_tuple) (sa_nil))) (hv := bb_isinstance)))) (sw_or1 (st_cmp (ne_ok U64) (s_callB len_ok (B.b_len) (sa_cons (s_var 0) (sa_nil)) (hv := bb_len)) (s_int))))) (ss_one (ss_ret (s_bl))) (ss_nil)) (ss_cons (ss_if (st_not (st_val (s_callB (all_ok rfl) (B.b_all) (sa_cons (s_lc [("_law_one", 1)] rfl nd (si_seq (s_var 0)) (blkOk_by (N := nL_is) (sc := defScope sL_is) (by decide +kernel)) (sg2_name 1 fun _ => pg_name (i := 1) nd rfl (by first | exact Or.inl rfl | exact Or.inr rfl)) (fun _ => sts_nil) (fun _ => s_and (s_callB isi_ok (B.b_isinstance) (sa_cons (s_var 1) (sa_cons (s_bty .int (B.b_int) bb_int) (sa_nil))) (hv := bb_isinstance)) (s_one (s_not (s_callB isi_ok (B.b_isinstance) (sa_cons (s_var 1) (sa_cons (s_bty .bool (B.b_bool) bb_bool) (sa_nil))) (hv := bb_isinstance)))))) (sa_nil)) (hv := bb_all)))) (ss_one (ss_ret (s_bl))) (ss_nil)) (ss_one (ss_ret (s_and (s_cmp gt_ok (s_ix U1 (s_var 0) (s_int)) (s_int)) (s_one (s_cmp (eq_ok U64) (s_callD D_L_part hr gd tk (sa_cons (s_ix U1 (s_var 0) (s_int)) (sa_cons (s_ix U1 (s_var 0) (s_int)) (sa_nil)))) (s_int))))))))
/-! law -/
abbrev slaw : Stmt := topS 43
abbrev nlaw : List Str := ["_law_script", "_law_k", "_law_cell", "_law_stream_here", "_law_pair", "_law_part_here", "_law_due", "_law_turn", "_law_more", "_law_one", "_law_other", "_law_wanted", "_law_odd", "_law_thing", "_law_none"]
theorem sclaw : FnScope ["_law_script", "_law_k", "_law_cell", "_law_stream_here", "_law_pair", "_law_part_here", "_law_due", "_law_turn", "_law_more", "_law_one", "_law_other", "_law_wanted", "_law_odd", "_law_thing", "_law_none"] ["_law_script"] (defScope slaw) := ⟨rfl, rfl, rfl, by decide +kernel, rfl, by decide +kernel, by decide +kernel⟩
def blaw_l0 : Env → Sto → SR := ifF (isB (binF neD (callF reprM (consA (callF fL_said (consA (binF ixD (varF 4) (conF (.int 0))) (consA (binF ixD (varF 4) (conF (.int 1))) (nilA)))) (nilA))) (callF reprM (consA (varF 6) (nilA))))) (retF (conF (.bl false))) (nopF)
def blaw_l1 : Env → Sto → SR := seqF (setF 11 (iteF (isB (binF eqD (varF 10) (conF (.int 0)))) (tupF (consA (conF (.str [114, 101, 102, 117, 115, 101, 100])) (consA (conF (.str [110, 117, 109, 98, 101, 114])) (nilA)))) (tupF (consA (conF (.str [116, 111, 108, 100])) (consA (callF fL_lowest (consA (varF 9) (consA (varF 10) (nilA)))) (nilA)))))) (ifF (isB (binF neD (callF reprM (consA (callF fL_said (consA (varF 9) (consA (varF 10) (nilA)))) (nilA))) (callF reprM (consA (varF 11) (nilA))))) (retF (conF (.bl false))) (nopF))
def blaw_l1_s1 : Env → Sto → SR := ifF (isB (binF neD (callF reprM (consA (callF fL_said (consA (varF 9) (consA (varF 10) (nilA)))) (nilA))) (callF reprM (consA (varF 11) (nilA))))) (retF (conF (.bl false))) (nopF)
def blaw_l3 : Env → Sto → SR := ifF (isB (binF neD (callF reprM (consA (callF fis_fraction (consA (varF 13) (nilA))) (nilA))) (callF reprM (consA (callF fL_is (consA (varF 13) (nilA))) (nilA))))) (retF (conF (.bl false))) (nopF)
def blaw_l4 : Env → Sto → SR := ifF (isB (binF neD (callF fL_said (consA (varF 9) (consA (varF 10) (nilA)))) (tupF (consA (conF (.str [114, 101, 102, 117, 115, 101, 100])) (consA (conF (.str [110, 117, 109, 98, 101, 114])) (nilA)))))) (retF (conF (.bl false))) (nopF)
def blaw_l5 : Env → Sto → SR := seqF (setF 3 (callF fL_stream (consA (varF 2) (consA (varF 1) (nilA))))) (seqF (setF 4 (tupF (consA (callF fL_far_by (consA (varF 3) (nilA))) (consA (callF fL_far_by (consA (varF 3) (nilA))) (nilA))))) (seqF (ifF (isB (binF eqD (callF fL_take (consA (varF 3) (consA (conF (.int 2)) (nilA)))) (conF (.int 1)))) (seqF (setF 5 (binF addD (conF (.int 2)) (callF fL_take (consA (varF 3) (consA (conF (.int 30)) (nilA)))))) (setF 4 (tupF (consA (binF mulD (binF ixD (varF 4) (conF (.int 0))) (varF 5)) (consA (binF mulD (binF ixD (varF 4) (conF (.int 1))) (varF 5)) (nilA)))))) (nopF)) (seqF (setF 6 (iteF (isB (binF eqD (binF ixD (varF 4) (conF (.int 1))) (conF (.int 0)))) (tupF (consA (conF (.str [114, 101, 102, 117, 115, 101, 100])) (consA (conF (.str [110, 117, 109, 98, 101, 114])) (nilA)))) (tupF (consA (conF (.str [116, 111, 108, 100])) (consA (callF fL_lowest (consA (binF ixD (varF 4) (conF (.int 0))) (consA (binF ixD (varF 4) (conF (.int 1))) (nilA)))) (nilA)))))) (seqF (itF (itR1 (consA (conF (.int 2)) (nilA))) (.one 7) blaw_l0) (seqF (setF 8 (binF addD (conF (.int 1)) (callF absM (consA (callF fL_whole_by (consA (varF 3) (nilA))) (nilA))))) (seqF (itF (itS (tupF (consA (tupF (consA (binF ixD (varF 4) (conF (.int 0))) (consA (varF 8) (nilA)))) (consA (tupF (consA (varF 8) (consA (binF ixD (varF 4) (conF (.int 1))) (nilA)))) (consA (varF 4) (consA (tupF (consA (binF ixD (varF 4) (conF (.int 0))) (consA (binF subD (conF (.int 0)) (varF 8)) (nilA)))) (consA (varF 4) (nilA)))))))) (.many [.one 9, .one 10]) blaw_l1) (seqF (setF 12 (callF fL_odd_by (consA (varF 3) (consA (varF 4) (nilA))))) (seqF (itF (itS (binF addD (tupF (consA (varF 4) (consA (varF 12) (nilA)))) (sliceF (varF 6) (partF (conF (.int 1))) (noPart)))) (.one 13) blaw_l3) (seqF (setF 14 (binF ixD (lstF (consA (conF .non) (consA (conF (.bl true)) (consA (conF (.str [49])) (consA (lstF (consA (conF (.int 1)) (nilA))) (consA (tupF (consA (conF (.int 1)) (consA (conF (.int 1)) (nilA)))) (consA (dic0) (consA (tupF (nilA)) (nilA))))))))) (callF fL_take (consA (varF 3) (consA (conF (.int 7)) (nilA)))))) (itF (itS (tupF (consA (tupF (consA (varF 14) (consA (binF ixD (varF 4) (conF (.int 1))) (nilA)))) (consA (tupF (consA (binF ixD (varF 4) (conF (.int 0))) (consA (varF 14) (nilA)))) (consA (tupF (consA (varF 14) (consA (conF (.int 0)) (nilA)))) (consA (tupF (consA (varF 14) (consA (varF 14) (nilA)))) (consA (tupF (consA (binF ixD (varF 4) (conF (.int 0))) (consA (conF (.int 0)) (nilA)))) (nilA)))))))) (.many [.one 9, .one 10]) blaw_l4))))))))))
def blaw_l5_s1 : Env → Sto → SR := seqF (setF 4 (tupF (consA (callF fL_far_by (consA (varF 3) (nilA))) (consA (callF fL_far_by (consA (varF 3) (nilA))) (nilA))))) (seqF (ifF (isB (binF eqD (callF fL_take (consA (varF 3) (consA (conF (.int 2)) (nilA)))) (conF (.int 1)))) (seqF (setF 5 (binF addD (conF (.int 2)) (callF fL_take (consA (varF 3) (consA (conF (.int 30)) (nilA)))))) (setF 4 (tupF (consA (binF mulD (binF ixD (varF 4) (conF (.int 0))) (varF 5)) (consA (binF mulD (binF ixD (varF 4) (conF (.int 1))) (varF 5)) (nilA)))))) (nopF)) (seqF (setF 6 (iteF (isB (binF eqD (binF ixD (varF 4) (conF (.int 1))) (conF (.int 0)))) (tupF (consA (conF (.str [114, 101, 102, 117, 115, 101, 100])) (consA (conF (.str [110, 117, 109, 98, 101, 114])) (nilA)))) (tupF (consA (conF (.str [116, 111, 108, 100])) (consA (callF fL_lowest (consA (binF ixD (varF 4) (conF (.int 0))) (consA (binF ixD (varF 4) (conF (.int 1))) (nilA)))) (nilA)))))) (seqF (itF (itR1 (consA (conF (.int 2)) (nilA))) (.one 7) blaw_l0) (seqF (setF 8 (binF addD (conF (.int 1)) (callF absM (consA (callF fL_whole_by (consA (varF 3) (nilA))) (nilA))))) (seqF (itF (itS (tupF (consA (tupF (consA (binF ixD (varF 4) (conF (.int 0))) (consA (varF 8) (nilA)))) (consA (tupF (consA (varF 8) (consA (binF ixD (varF 4) (conF (.int 1))) (nilA)))) (consA (varF 4) (consA (tupF (consA (binF ixD (varF 4) (conF (.int 0))) (consA (binF subD (conF (.int 0)) (varF 8)) (nilA)))) (consA (varF 4) (nilA)))))))) (.many [.one 9, .one 10]) blaw_l1) (seqF (setF 12 (callF fL_odd_by (consA (varF 3) (consA (varF 4) (nilA))))) (seqF (itF (itS (binF addD (tupF (consA (varF 4) (consA (varF 12) (nilA)))) (sliceF (varF 6) (partF (conF (.int 1))) (noPart)))) (.one 13) blaw_l3) (seqF (setF 14 (binF ixD (lstF (consA (conF .non) (consA (conF (.bl true)) (consA (conF (.str [49])) (consA (lstF (consA (conF (.int 1)) (nilA))) (consA (tupF (consA (conF (.int 1)) (consA (conF (.int 1)) (nilA)))) (consA (dic0) (consA (tupF (nilA)) (nilA))))))))) (callF fL_take (consA (varF 3) (consA (conF (.int 7)) (nilA)))))) (itF (itS (tupF (consA (tupF (consA (varF 14) (consA (binF ixD (varF 4) (conF (.int 1))) (nilA)))) (consA (tupF (consA (binF ixD (varF 4) (conF (.int 0))) (consA (varF 14) (nilA)))) (consA (tupF (consA (varF 14) (consA (conF (.int 0)) (nilA)))) (consA (tupF (consA (varF 14) (consA (varF 14) (nilA)))) (consA (tupF (consA (binF ixD (varF 4) (conF (.int 0))) (consA (conF (.int 0)) (nilA)))) (nilA)))))))) (.many [.one 9, .one 10]) blaw_l4)))))))))
def blaw_l5_s2 : Env → Sto → SR := seqF (ifF (isB (binF eqD (callF fL_take (consA (varF 3) (consA (conF (.int 2)) (nilA)))) (conF (.int 1)))) (seqF (setF 5 (binF addD (conF (.int 2)) (callF fL_take (consA (varF 3) (consA (conF (.int 30)) (nilA)))))) (setF 4 (tupF (consA (binF mulD (binF ixD (varF 4) (conF (.int 0))) (varF 5)) (consA (binF mulD (binF ixD (varF 4) (conF (.int 1))) (varF 5)) (nilA)))))) (nopF)) (seqF (setF 6 (iteF (isB (binF eqD (binF ixD (varF 4) (conF (.int 1))) (conF (.int 0)))) (tupF (consA (conF (.str [114, 101, 102, 117, 115, 101, 100])) (consA (conF (.str [110, 117, 109, 98, 101, 114])) (nilA)))) (tupF (consA (conF (.str [116, 111, 108, 100])) (consA (callF fL_lowest (consA (binF ixD (varF 4) (conF (.int 0))) (consA (binF ixD (varF 4) (conF (.int 1))) (nilA)))) (nilA)))))) (seqF (itF (itR1 (consA (conF (.int 2)) (nilA))) (.one 7) blaw_l0) (seqF (setF 8 (binF addD (conF (.int 1)) (callF absM (consA (callF fL_whole_by (consA (varF 3) (nilA))) (nilA))))) (seqF (itF (itS (tupF (consA (tupF (consA (binF ixD (varF 4) (conF (.int 0))) (consA (varF 8) (nilA)))) (consA (tupF (consA (varF 8) (consA (binF ixD (varF 4) (conF (.int 1))) (nilA)))) (consA (varF 4) (consA (tupF (consA (binF ixD (varF 4) (conF (.int 0))) (consA (binF subD (conF (.int 0)) (varF 8)) (nilA)))) (consA (varF 4) (nilA)))))))) (.many [.one 9, .one 10]) blaw_l1) (seqF (setF 12 (callF fL_odd_by (consA (varF 3) (consA (varF 4) (nilA))))) (seqF (itF (itS (binF addD (tupF (consA (varF 4) (consA (varF 12) (nilA)))) (sliceF (varF 6) (partF (conF (.int 1))) (noPart)))) (.one 13) blaw_l3) (seqF (setF 14 (binF ixD (lstF (consA (conF .non) (consA (conF (.bl true)) (consA (conF (.str [49])) (consA (lstF (consA (conF (.int 1)) (nilA))) (consA (tupF (consA (conF (.int 1)) (consA (conF (.int 1)) (nilA)))) (consA (dic0) (consA (tupF (nilA)) (nilA))))))))) (callF fL_take (consA (varF 3) (consA (conF (.int 7)) (nilA)))))) (itF (itS (tupF (consA (tupF (consA (varF 14) (consA (binF ixD (varF 4) (conF (.int 1))) (nilA)))) (consA (tupF (consA (binF ixD (varF 4) (conF (.int 0))) (consA (varF 14) (nilA)))) (consA (tupF (consA (varF 14) (consA (conF (.int 0)) (nilA)))) (consA (tupF (consA (varF 14) (consA (varF 14) (nilA)))) (consA (tupF (consA (binF ixD (varF 4) (conF (.int 0))) (consA (conF (.int 0)) (nilA)))) (nilA)))))))) (.many [.one 9, .one 10]) blaw_l4))))))))
def blaw_l5_s3 : Env → Sto → SR := seqF (setF 6 (iteF (isB (binF eqD (binF ixD (varF 4) (conF (.int 1))) (conF (.int 0)))) (tupF (consA (conF (.str [114, 101, 102, 117, 115, 101, 100])) (consA (conF (.str [110, 117, 109, 98, 101, 114])) (nilA)))) (tupF (consA (conF (.str [116, 111, 108, 100])) (consA (callF fL_lowest (consA (binF ixD (varF 4) (conF (.int 0))) (consA (binF ixD (varF 4) (conF (.int 1))) (nilA)))) (nilA)))))) (seqF (itF (itR1 (consA (conF (.int 2)) (nilA))) (.one 7) blaw_l0) (seqF (setF 8 (binF addD (conF (.int 1)) (callF absM (consA (callF fL_whole_by (consA (varF 3) (nilA))) (nilA))))) (seqF (itF (itS (tupF (consA (tupF (consA (binF ixD (varF 4) (conF (.int 0))) (consA (varF 8) (nilA)))) (consA (tupF (consA (varF 8) (consA (binF ixD (varF 4) (conF (.int 1))) (nilA)))) (consA (varF 4) (consA (tupF (consA (binF ixD (varF 4) (conF (.int 0))) (consA (binF subD (conF (.int 0)) (varF 8)) (nilA)))) (consA (varF 4) (nilA)))))))) (.many [.one 9, .one 10]) blaw_l1) (seqF (setF 12 (callF fL_odd_by (consA (varF 3) (consA (varF 4) (nilA))))) (seqF (itF (itS (binF addD (tupF (consA (varF 4) (consA (varF 12) (nilA)))) (sliceF (varF 6) (partF (conF (.int 1))) (noPart)))) (.one 13) blaw_l3) (seqF (setF 14 (binF ixD (lstF (consA (conF .non) (consA (conF (.bl true)) (consA (conF (.str [49])) (consA (lstF (consA (conF (.int 1)) (nilA))) (consA (tupF (consA (conF (.int 1)) (consA (conF (.int 1)) (nilA)))) (consA (dic0) (consA (tupF (nilA)) (nilA))))))))) (callF fL_take (consA (varF 3) (consA (conF (.int 7)) (nilA)))))) (itF (itS (tupF (consA (tupF (consA (varF 14) (consA (binF ixD (varF 4) (conF (.int 1))) (nilA)))) (consA (tupF (consA (binF ixD (varF 4) (conF (.int 0))) (consA (varF 14) (nilA)))) (consA (tupF (consA (varF 14) (consA (conF (.int 0)) (nilA)))) (consA (tupF (consA (varF 14) (consA (varF 14) (nilA)))) (consA (tupF (consA (binF ixD (varF 4) (conF (.int 0))) (consA (conF (.int 0)) (nilA)))) (nilA)))))))) (.many [.one 9, .one 10]) blaw_l4)))))))
def blaw_l5_s4 : Env → Sto → SR := seqF (itF (itR1 (consA (conF (.int 2)) (nilA))) (.one 7) blaw_l0) (seqF (setF 8 (binF addD (conF (.int 1)) (callF absM (consA (callF fL_whole_by (consA (varF 3) (nilA))) (nilA))))) (seqF (itF (itS (tupF (consA (tupF (consA (binF ixD (varF 4) (conF (.int 0))) (consA (varF 8) (nilA)))) (consA (tupF (consA (varF 8) (consA (binF ixD (varF 4) (conF (.int 1))) (nilA)))) (consA (varF 4) (consA (tupF (consA (binF ixD (varF 4) (conF (.int 0))) (consA (binF subD (conF (.int 0)) (varF 8)) (nilA)))) (consA (varF 4) (nilA)))))))) (.many [.one 9, .one 10]) blaw_l1) (seqF (setF 12 (callF fL_odd_by (consA (varF 3) (consA (varF 4) (nilA))))) (seqF (itF (itS (binF addD (tupF (consA (varF 4) (consA (varF 12) (nilA)))) (sliceF (varF 6) (partF (conF (.int 1))) (noPart)))) (.one 13) blaw_l3) (seqF (setF 14 (binF ixD (lstF (consA (conF .non) (consA (conF (.bl true)) (consA (conF (.str [49])) (consA (lstF (consA (conF (.int 1)) (nilA))) (consA (tupF (consA (conF (.int 1)) (consA (conF (.int 1)) (nilA)))) (consA (dic0) (consA (tupF (nilA)) (nilA))))))))) (callF fL_take (consA (varF 3) (consA (conF (.int 7)) (nilA)))))) (itF (itS (tupF (consA (tupF (consA (varF 14) (consA (binF ixD (varF 4) (conF (.int 1))) (nilA)))) (consA (tupF (consA (binF ixD (varF 4) (conF (.int 0))) (consA (varF 14) (nilA)))) (consA (tupF (consA (varF 14) (consA (conF (.int 0)) (nilA)))) (consA (tupF (consA (varF 14) (consA (varF 14) (nilA)))) (consA (tupF (consA (binF ixD (varF 4) (conF (.int 0))) (consA (conF (.int 0)) (nilA)))) (nilA)))))))) (.many [.one 9, .one 10]) blaw_l4))))))
def blaw_l5_s5 : Env → Sto → SR := seqF (setF 8 (binF addD (conF (.int 1)) (callF absM (consA (callF fL_whole_by (consA (varF 3) (nilA))) (nilA))))) (seqF (itF (itS (tupF (consA (tupF (consA (binF ixD (varF 4) (conF (.int 0))) (consA (varF 8) (nilA)))) (consA (tupF (consA (varF 8) (consA (binF ixD (varF 4) (conF (.int 1))) (nilA)))) (consA (varF 4) (consA (tupF (consA (binF ixD (varF 4) (conF (.int 0))) (consA (binF subD (conF (.int 0)) (varF 8)) (nilA)))) (consA (varF 4) (nilA)))))))) (.many [.one 9, .one 10]) blaw_l1) (seqF (setF 12 (callF fL_odd_by (consA (varF 3) (consA (varF 4) (nilA))))) (seqF (itF (itS (binF addD (tupF (consA (varF 4) (consA (varF 12) (nilA)))) (sliceF (varF 6) (partF (conF (.int 1))) (noPart)))) (.one 13) blaw_l3) (seqF (setF 14 (binF ixD (lstF (consA (conF .non) (consA (conF (.bl true)) (consA (conF (.str [49])) (consA (lstF (consA (conF (.int 1)) (nilA))) (consA (tupF (consA (conF (.int 1)) (consA (conF (.int 1)) (nilA)))) (consA (dic0) (consA (tupF (nilA)) (nilA))))))))) (callF fL_take (consA (varF 3) (consA (conF (.int 7)) (nilA)))))) (itF (itS (tupF (consA (tupF (consA (varF 14) (consA (binF ixD (varF 4) (conF (.int 1))) (nilA)))) (consA (tupF (consA (binF ixD (varF 4) (conF (.int 0))) (consA (varF 14) (nilA)))) (consA (tupF (consA (varF 14) (consA (conF (.int 0)) (nilA)))) (consA (tupF (consA (varF 14) (consA (varF 14) (nilA)))) (consA (tupF (consA (binF ixD (varF 4) (conF (.int 0))) (consA (conF (.int 0)) (nilA)))) (nilA)))))))) (.many [.one 9, .one 10]) blaw_l4)))))
def blaw_l5_s6 : Env → Sto → SR := seqF (itF (itS (tupF (consA (tupF (consA (binF ixD (varF 4) (conF (.int 0))) (consA (varF 8) (nilA)))) (consA (tupF (consA (varF 8) (consA (binF ixD (varF 4) (conF (.int 1))) (nilA)))) (consA (varF 4) (consA (tupF (consA (binF ixD (varF 4) (conF (.int 0))) (consA (binF subD (conF (.int 0)) (varF 8)) (nilA)))) (consA (varF 4) (nilA)))))))) (.many [.one 9, .one 10]) blaw_l1) (seqF (setF 12 (callF fL_odd_by (consA (varF 3) (consA (varF 4) (nilA))))) (seqF (itF (itS (binF addD (tupF (consA (varF 4) (consA (varF 12) (nilA)))) (sliceF (varF 6) (partF (conF (.int 1))) (noPart)))) (.one 13) blaw_l3) (seqF (setF 14 (binF ixD (lstF (consA (conF .non) (consA (conF (.bl true)) (consA (conF (.str [49])) (consA (lstF (consA (conF (.int 1)) (nilA))) (consA (tupF (consA (conF (.int 1)) (consA (conF (.int 1)) (nilA)))) (consA (dic0) (consA (tupF (nilA)) (nilA))))))))) (callF fL_take (consA (varF 3) (consA (conF (.int 7)) (nilA)))))) (itF (itS (tupF (consA (tupF (consA (varF 14) (consA (binF ixD (varF 4) (conF (.int 1))) (nilA)))) (consA (tupF (consA (binF ixD (varF 4) (conF (.int 0))) (consA (varF 14) (nilA)))) (consA (tupF (consA (varF 14) (consA (conF (.int 0)) (nilA)))) (consA (tupF (consA (varF 14) (consA (varF 14) (nilA)))) (consA (tupF (consA (binF ixD (varF 4) (conF (.int 0))) (consA (conF (.int 0)) (nilA)))) (nilA)))))))) (.many [.one 9, .one 10]) blaw_l4))))
def blaw_l5_s7 : Env → Sto → SR := seqF (setF 12 (callF fL_odd_by (consA (varF 3) (consA (varF 4) (nilA))))) (seqF (itF (itS (binF addD (tupF (consA (varF 4) (consA (varF 12) (nilA)))) (sliceF (varF 6) (partF (conF (.int 1))) (noPart)))) (.one 13) blaw_l3) (seqF (setF 14 (binF ixD (lstF (consA (conF .non) (consA (conF (.bl true)) (consA (conF (.str [49])) (consA (lstF (consA (conF (.int 1)) (nilA))) (consA (tupF (consA (conF (.int 1)) (consA (conF (.int 1)) (nilA)))) (consA (dic0) (consA (tupF (nilA)) (nilA))))))))) (callF fL_take (consA (varF 3) (consA (conF (.int 7)) (nilA)))))) (itF (itS (tupF (consA (tupF (consA (varF 14) (consA (binF ixD (varF 4) (conF (.int 1))) (nilA)))) (consA (tupF (consA (binF ixD (varF 4) (conF (.int 0))) (consA (varF 14) (nilA)))) (consA (tupF (consA (varF 14) (consA (conF (.int 0)) (nilA)))) (consA (tupF (consA (varF 14) (consA (varF 14) (nilA)))) (consA (tupF (consA (binF ixD (varF 4) (conF (.int 0))) (consA (conF (.int 0)) (nilA)))) (nilA)))))))) (.many [.one 9, .one 10]) blaw_l4)))
def blaw_l5_s8 : Env → Sto → SR := seqF (itF (itS (binF addD (tupF (consA (varF 4) (consA (varF 12) (nilA)))) (sliceF (varF 6) (partF (conF (.int 1))) (noPart)))) (.one 13) blaw_l3) (seqF (setF 14 (binF ixD (lstF (consA (conF .non) (consA (conF (.bl true)) (consA (conF (.str [49])) (consA (lstF (consA (conF (.int 1)) (nilA))) (consA (tupF (consA (conF (.int 1)) (consA (conF (.int 1)) (nilA)))) (consA (dic0) (consA (tupF (nilA)) (nilA))))))))) (callF fL_take (consA (varF 3) (consA (conF (.int 7)) (nilA)))))) (itF (itS (tupF (consA (tupF (consA (varF 14) (consA (binF ixD (varF 4) (conF (.int 1))) (nilA)))) (consA (tupF (consA (binF ixD (varF 4) (conF (.int 0))) (consA (varF 14) (nilA)))) (consA (tupF (consA (varF 14) (consA (conF (.int 0)) (nilA)))) (consA (tupF (consA (varF 14) (consA (varF 14) (nilA)))) (consA (tupF (consA (binF ixD (varF 4) (conF (.int 0))) (consA (conF (.int 0)) (nilA)))) (nilA)))))))) (.many [.one 9, .one 10]) blaw_l4))
def blaw_l5_s9 : Env → Sto → SR := seqF (setF 14 (binF ixD (lstF (consA (conF .non) (consA (conF (.bl true)) (consA (conF (.str [49])) (consA (lstF (consA (conF (.int 1)) (nilA))) (consA (tupF (consA (conF (.int 1)) (consA (conF (.int 1)) (nilA)))) (consA (dic0) (consA (tupF (nilA)) (nilA))))))))) (callF fL_take (consA (varF 3) (consA (conF (.int 7)) (nilA)))))) (itF (itS (tupF (consA (tupF (consA (varF 14) (consA (binF ixD (varF 4) (conF (.int 1))) (nilA)))) (consA (tupF (consA (binF ixD (varF 4) (conF (.int 0))) (consA (varF 14) (nilA)))) (consA (tupF (consA (varF 14) (consA (conF (.int 0)) (nilA)))) (consA (tupF (consA (varF 14) (consA (varF 14) (nilA)))) (consA (tupF (consA (binF ixD (varF 4) (conF (.int 0))) (consA (conF (.int 0)) (nilA)))) (nilA)))))))) (.many [.one 9, .one 10]) blaw_l4)
def blaw_l5_s10 : Env → Sto → SR := itF (itS (tupF (consA (tupF (consA (varF 14) (consA (binF ixD (varF 4) (conF (.int 1))) (nilA)))) (consA (tupF (consA (binF ixD (varF 4) (conF (.int 0))) (consA (varF 14) (nilA)))) (consA (tupF (consA (varF 14) (consA (conF (.int 0)) (nilA)))) (consA (tupF (consA (varF 14) (consA (varF 14) (nilA)))) (consA (tupF (consA (binF ixD (varF 4) (conF (.int 0))) (consA (conF (.int 0)) (nilA)))) (nilA)))))))) (.many [.one 9, .one 10]) blaw_l4
def blaw_s1 : Env → Sto → SR := seqF (itF (itE (consA (sliceF (binF addD (varF 0) (lstF (consA (conF (.int 0)) (nilA)))) (noPart) (partF (conF (.int 63)))) (nilA))) (.many [.one 1, .one 2]) blaw_l5) (retF (conF (.bl true)))
def blaw_s2 : Env → Sto → SR := retF (conF (.bl true))
def blaw : Env → Sto → SR := seqF (ifF (orT (notT (isB (callF fL_classes_right nilA))) (orT (notT (isB (callF fL_truths_right nilA))) (notT (isB (callF fL_great_right nilA))))) (retF (conF (.bl false))) (nopF)) (seqF (itF (itE (consA (sliceF (binF addD (varF 0) (lstF (consA (conF (.int 0)) (nilA)))) (noPart) (partF (conF (.int 63)))) (nilA))) (.many [.one 1, .one 2]) blaw_l5) (retF (conF (.bl true))))
def flaw : Fn := fnM 1 14 true blaw
theorem okFlaw {P : Program} {w : World} {K : PySem.W.Frag} {M : Lm} {mg : Str → Option Value} {base : Heap} {f : Addr} {fd : FuncData} (N : Kn K mg "law" slaw ["_law_script"] f fd) (NA : M.arr = false) (B : Bt mg) (D_L_classes_right : Def P w K M mg base "_law_classes_right" 3 [] fL_classes_right) (D_L_truths_right : Def P w K M mg base "_law_truths_right" 5 [] fL_truths_right) (D_L_great_right : Def P w K M mg base "_law_great_right" 5 [] fL_great_right) (D_L_stream : Def P w K M mg base "_law_stream" 2 ["_law_cell", "_law_k"] fL_stream) (D_L_far_by : Def P w K M mg base "_law_far_by" 4 ["_law_stream_here"] fL_far_by) (D_L_take : Def P w K M mg base "_law_take" 2 ["_law_stream_here", "_law_many"] fL_take) (D_L_lowest : Def P w K M mg base "_law_lowest" 2 ["_law_above", "_law_below"] fL_lowest) (D_L_said : Def P w K M mg base "_law_said" 4 ["_law_one", "_law_other"] fL_said) (D_L_whole_by : Def P w K M mg base "_law_whole_by" 3 ["_law_stream_here"] fL_whole_by) (D_L_odd_by : Def P w K M mg base "_law_odd_by" 3 ["_law_stream_here", "_law_pair"] fL_odd_by) (D_is_fraction : Def P w K M mg base "is_fraction" 2 ["thing"] fis_fraction) (D_L_is : Def P w K M mg base "_law_is" 2 ["_law_thing"] fL_is) : FnS P w K M mg base 6 f fd ["_law_script"] flaw :=
  (FnS.of (k := 5) NA N.fn sclaw rfl (by decide) fun cdv hcv A outer s H E hr gd W tk hp => by
    have nd := sclaw.nd
    have U : (A.deeper (envOfC "law" (defScope slaw) s.heap.objs.size f cdv)).units + 65 < cLine := by
      have := hr.un
      omega
    have U64 := Nat.lt_of_succ_lt U
    have U1 := Nat.lt_of_le_of_lt (Nat.add_le_add_left (show 1 ≤ 65 by decide) _) U
    exact ss_cons (ss_if (st_w (sw_or (st_not (st_val (s_callD0 D_L_classes_right hr gd tk))) (sw_or (st_not (st_val (s_callD0 D_L_truths_right hr gd tk))) (sw_or1 (st_not (st_val (s_callD0 D_L_great_right hr gd tk))))))) (ss_one (ss_ret (s_bl))) (ss_nil)) (ss_cons (ss_for hp rfl (si_enum (sa_cons (s_slice (s_bin add_ok (s_var 0) (s_lst (sa_cons (s_int) (sa_nil)))) (sp_none) (sp_some (s_int))) (sa_nil)) (B.b_enumerate)) (sg_tup rfl (sgs_cons (sg_name 1 nd) (sgs_cons (sg_name 2 nd) (sgs_nil))) 2) (ss_cons (ss_set 3 nd (s_callD D_L_stream hr gd tk (sa_cons (s_var 2) (sa_cons (s_var 1) (sa_nil))))) (ss_cons (ss_set 4 nd (s_tup (sa_cons (s_callD D_L_far_by hr gd tk (sa_cons (s_var 3) (sa_nil))) (sa_cons (s_callD D_L_far_by hr gd tk (sa_cons (s_var 3) (sa_nil))) (sa_nil))))) (ss_cons (ss_if (st_cmp (eq_ok U64) (s_callD D_L_take hr gd tk (sa_cons (s_var 3) (sa_cons (s_int) (sa_nil)))) (s_int)) (ss_cons (ss_set 5 nd (s_bin add_ok (s_int) (s_callD D_L_take hr gd tk (sa_cons (s_var 3) (sa_cons (s_int) (sa_nil)))))) (ss_one (ss_set 4 nd (s_tup (sa_cons (s_bin mul_ok (s_ix U1 (s_var 4) (s_int)) (s_var 5)) (sa_cons (s_bin mul_ok (s_ix U1 (s_var 4) (s_int)) (s_var 5)) (sa_nil))))))) (ss_nil)) (ss_cons (ss_set 6 nd (s_ite (st_cmp (eq_ok U64) (s_ix U1 (s_var 4) (s_int)) (s_int)) (s_tup (sa_cons (s_str [114, 101, 102, 117, 115, 101, 100]) (sa_cons (s_str [110, 117, 109, 98, 101, 114]) (sa_nil)))) (s_tup (sa_cons (s_str [116, 111, 108, 100]) (sa_cons (s_callD D_L_lowest hr gd tk (sa_cons (s_ix U1 (s_var 4) (s_int)) (sa_cons (s_ix U1 (s_var 4) (s_int)) (sa_nil)))) (sa_nil)))))) (ss_cons (ss_for hp rfl (si_range1 (sa_cons (s_int) (sa_nil)) (B.b_range)) (sg_name 7 nd) (ss_one (ss_if (st_cmp (ne_ok U64) (s_callB (repr_ok gd U) (B.b_repr) (sa_cons (s_callD D_L_said hr gd tk (sa_cons (s_ix U1 (s_var 4) (s_int)) (sa_cons (s_ix U1 (s_var 4) (s_int)) (sa_nil)))) (sa_nil)) (hv := bb_repr)) (s_callB (repr_ok gd U) (B.b_repr) (sa_cons (s_var 6) (sa_nil)) (hv := bb_repr))) (ss_one (ss_ret (s_bl))) (ss_nil)))) (ss_cons (ss_set 8 nd (s_bin add_ok (s_int) (s_callB abs_ok (B.b_abs) (sa_cons (s_callD D_L_whole_by hr gd tk (sa_cons (s_var 3) (sa_nil))) (sa_nil)) (hv := bb_abs)))) (ss_cons (ss_for hp rfl (si_seq (s_tup (sa_cons (s_tup (sa_cons (s_ix U1 (s_var 4) (s_int)) (sa_cons (s_var 8) (sa_nil)))) (sa_cons (s_tup (sa_cons (s_var 8) (sa_cons (s_ix U1 (s_var 4) (s_int)) (sa_nil)))) (sa_cons (s_var 4) (sa_cons (s_tup (sa_cons (s_ix U1 (s_var 4) (s_int)) (sa_cons (s_bin sub_ok (s_int) (s_var 8)) (sa_nil)))) (sa_cons (s_var 4) (sa_nil)))))))) (sg_tup rfl (sgs_cons (sg_name 9 nd) (sgs_cons (sg_name 10 nd) (sgs_nil))) 2) (ss_cons (ss_set 11 nd (s_ite (st_cmp (eq_ok U64) (s_var 10) (s_int)) (s_tup (sa_cons (s_str [114, 101, 102, 117, 115, 101, 100]) (sa_cons (s_str [110, 117, 109, 98, 101, 114]) (sa_nil)))) (s_tup (sa_cons (s_str [116, 111, 108, 100]) (sa_cons (s_callD D_L_lowest hr gd tk (sa_cons (s_var 9) (sa_cons (s_var 10) (sa_nil)))) (sa_nil)))))) (ss_one (ss_if (st_cmp (ne_ok U64) (s_callB (repr_ok gd U) (B.b_repr) (sa_cons (s_callD D_L_said hr gd tk (sa_cons (s_var 9) (sa_cons (s_var 10) (sa_nil)))) (sa_nil)) (hv := bb_repr)) (s_callB (repr_ok gd U) (B.b_repr) (sa_cons (s_var 11) (sa_nil)) (hv := bb_repr))) (ss_one (ss_ret (s_bl))) (ss_nil))))) (ss_cons (ss_set 12 nd (s_callD D_L_odd_by hr gd tk (sa_cons (s_var 3) (sa_cons (s_var 4) (sa_nil))))) (ss_cons (ss_for hp rfl (si_seq (s_bin add_ok (s_tup (sa_cons (s_var 4) (sa_cons (s_var 12) (sa_nil)))) (s_slice (s_var 6) (sp_some (s_int)) (sp_none)))) (sg_name 13 nd) (ss_one (ss_if (st_cmp (ne_ok U64) (s_callB (repr_ok gd U) (B.b_repr) (sa_cons (s_callD D_is_fraction hr gd tk (sa_cons (s_var 13) (sa_nil))) (sa_nil)) (hv := bb_repr)) (s_callB (repr_ok gd U) (B.b_repr) (sa_cons (s_callD D_L_is hr gd tk (sa_cons (s_var 13) (sa_nil))) (sa_nil)) (hv := bb_repr))) (ss_one (ss_ret (s_bl))) (ss_nil)))) (ss_cons (ss_set 14 nd (s_ix U1 (s_lst (sa_cons (s_non) (sa_cons (s_bl) (sa_cons (s_str [49]) (sa_cons (s_lst (sa_cons (s_int) (sa_nil))) (sa_cons (s_tup (sa_cons (s_int) (sa_cons (s_int) (sa_nil)))) (sa_cons (s_dic0) (sa_cons (s_tup (sa_nil)) (sa_nil))))))))) (s_callD D_L_take hr gd tk (sa_cons (s_var 3) (sa_cons (s_int) (sa_nil)))))) (ss_one (ss_for hp rfl (si_seq (s_tup (sa_cons (s_tup (sa_cons (s_var 14) (sa_cons (s_ix U1 (s_var 4) (s_int)) (sa_nil)))) (sa_cons (s_tup (sa_cons (s_ix U1 (s_var 4) (s_int)) (sa_cons (s_var 14) (sa_nil)))) (sa_cons (s_tup (sa_cons (s_var 14) (sa_cons (s_int) (sa_nil)))) (sa_cons (s_tup (sa_cons (s_var 14) (sa_cons (s_var 14) (sa_nil)))) (sa_cons (s_tup (sa_cons (s_ix U1 (s_var 4) (s_int)) (sa_cons (s_int) (sa_nil)))) (sa_nil)))))))) (sg_tup rfl (sgs_cons (sg_name 9 nd) (sgs_cons (sg_name 10 nd) (sgs_nil))) 2) (ss_one (ss_if (st_cmp (ne_ok U64) (s_callD D_L_said hr gd tk (sa_cons (s_var 9) (sa_cons (s_var 10) (sa_nil)))) (s_tup (sa_cons (s_str [114, 101, 102, 117, 115, 101, 100]) (sa_cons (s_str [110, 117, 109, 98, 101, 114]) (sa_nil))))) (ss_one (ss_ret (s_bl))) (ss_nil)))))))))))))))) (ss_one (ss_ret (s_bl)))))
/-! ### the end -/
theorem all_mk {P : Program} {w : World} {K : PySem.W.Frag} {h : Heap} {mg : Str → Option Value} {fa : Addr} {q0 : Program} (TP : ∃ lo mean mb, Top q0 lo mean mg mb h) (X : K.In h) (G : h.Ns mainGlobals mg) (hfa : mg "law" = some (.ref fa)) {f0 : Addr} {oc0 kV0 dc0 pm0 cv0 ct0 : Value} {od0 an0 : Option Addr} {sl0 : Array (Option Value)} {f1 : Addr} {oc1 kV1 dc1 pm1 cv1 ct1 : Value} {od1 an1 : Option Addr} {sl1 : Array (Option Value)} {f2 : Addr} {oc2 kV2 dc2 pm2 cv2 ct2 : Value} {od2 an2 : Option Addr} {sl2 : Array (Option Value)} {f3 : Addr} {oc3 kV3 dc3 pm3 cv3 ct3 : Value} {od3 an3 : Option Addr} {sl3 : Array (Option Value)} {f4 : Addr} {oc4 kV4 dc4 pm4 cv4 ct4 : Value} {od4 an4 : Option Addr} {sl4 : Array (Option Value)} {f5 : Addr} {oc5 kV5 dc5 pm5 cv5 ct5 : Value} {od5 an5 : Option Addr} {sl5 : Array (Option Value)} {f6 : Addr} {oc6 kV6 dc6 pm6 cv6 ct6 : Value} {od6 an6 : Option Addr} {sl6 : Array (Option Value)} {f7 : Addr} {oc7 kV7 dc7 pm7 cv7 ct7 : Value} {od7 an7 : Option Addr} {sl7 : Array (Option Value)} {f8 : Addr} {oc8 kV8 dc8 pm8 cv8 ct8 : Value} {od8 an8 : Option Addr} {sl8 : Array (Option Value)} {f9 : Addr} {oc9 kV9 dc9 pm9 cv9 ct9 : Value} {od9 an9 : Option Addr} {sl9 : Array (Option Value)} {f10 : Addr} {oc10 kV10 dc10 pm10 cv10 ct10 : Value} {od10 an10 : Option Addr} {sl10 : Array (Option Value)} {f11 : Addr} {oc11 kV11 dc11 pm11 cv11 ct11 : Value} {od11 an11 : Option Addr} {sl11 : Array (Option Value)} {f12 : Addr} {oc12 kV12 dc12 pm12 cv12 ct12 : Value} {od12 an12 : Option Addr} {sl12 : Array (Option Value)} {f13 : Addr} {oc13 kV13 dc13 pm13 cv13 ct13 : Value} {od13 an13 : Option Addr} {sl13 : Array (Option Value)} {f14 : Addr} {oc14 kV14 dc14 pm14 cv14 ct14 : Value} {od14 an14 : Option Addr} {sl14 : Array (Option Value)} {f15 : Addr} {oc15 kV15 dc15 pm15 cv15 ct15 : Value} {od15 an15 : Option Addr} {sl15 : Array (Option Value)} {f16 : Addr} {oc16 kV16 dc16 pm16 cv16 ct16 : Value} {od16 an16 : Option Addr} {sl16 : Array (Option Value)} {f17 : Addr} {oc17 kV17 dc17 pm17 cv17 ct17 : Value} {od17 an17 : Option Addr} {sl17 : Array (Option Value)} {f18 : Addr} {oc18 kV18 dc18 pm18 cv18 ct18 : Value} {od18 an18 : Option Addr} {sl18 : Array (Option Value)} {f19 : Addr} {oc19 kV19 dc19 pm19 cv19 ct19 : Value} {od19 an19 : Option Addr} {sl19 : Array (Option Value)} {f20 : Addr} {oc20 kV20 dc20 pm20 cv20 ct20 : Value} {od20 an20 : Option Addr} {sl20 : Array (Option Value)} {C0 : Addr} {cd0 : ClassData} {C1 : Addr} {cd1 : ClassData} {C2 : Addr} {cd2 : ClassData} {C3 : Addr} {cd3 : ClassData} {C4 : Addr} {cd4 : ClassData} {C5 : Addr} {cd5 : ClassData} {C6 : Addr} {cd6 : ClassData} {C7 : Addr} {cd7 : ClassData} {C8 : Addr} {cd8 : ClassData} {C9 : Addr} {cd9 : ClassData} {C10 : Addr} {cd10 : ClassData} {C11 : Addr} {cd11 : ClassData} {C12 : Addr} {cd12 : ClassData} {C13 : Addr} {cd13 : ClassData} {C14 : Addr} {cd14 : ClassData} {C15 : Addr} {cd15 : ClassData} {C16 : Addr} {cd16 : ClassData} {C17 : Addr} {cd17 : ClassData} {C18 : Addr} {cd18 : ClassData} {fI3 : Addr} {oI3 kI3 dI3 pI3 cI3 tI3 : Value} {eI3 aI3 : Option Addr} {lI3 : Array (Option Value)} {fI8 : Addr} {oI8 kI8 dI8 pI8 cI8 tI8 : Value} {eI8 aI8 : Option Addr} {lI8 : Array (Option Value)} {fI9 : Addr} {oI9 kI9 dI9 pI9 cI9 tI9 : Value} {eI9 aI9 : Option Addr} {lI9 : Array (Option Value)} {fI10 : Addr} {oI10 kI10 dI10 pI10 cI10 tI10 : Value} {eI10 aI10 : Option Addr} {lI10 : Array (Option Value)} {fI14 : Addr} {oI14 kI14 dI14 pI14 cI14 tI14 : Value} {eI14 aI14 : Option Addr} {lI14 : Array (Option Value)}
    (a0 : PySem.W.nsIn K mainGlobals "_law_mixed" = some (some (.ref f0))) (l0 : K.lookup f0 = some ⟨oc0, od0, .func (PySem.W.fnOf "_law_mixed" "_law_mixed" (defArgs sL_mixed) (defBody sL_mixed) (defScope sL_mixed) .none kV0 dc0 pm0 an0 cv0 ct0), sl0⟩) (c0 : PySem.W.codeIn K cv0 "_law_mixed" = true) (k0 : PySem.W.keepIn K (.ref f0) = true)
    (a1 : PySem.W.nsIn K mainGlobals "_law_stream" = some (some (.ref f1))) (l1 : K.lookup f1 = some ⟨oc1, od1, .func (PySem.W.fnOf "_law_stream" "_law_stream" (defArgs sL_stream) (defBody sL_stream) (defScope sL_stream) .none kV1 dc1 pm1 an1 cv1 ct1), sl1⟩) (c1 : PySem.W.codeIn K cv1 "_law_stream" = true) (k1 : PySem.W.keepIn K (.ref f1) = true)
    (a2 : PySem.W.nsIn K mainGlobals "_law_take" = some (some (.ref f2))) (l2 : K.lookup f2 = some ⟨oc2, od2, .func (PySem.W.fnOf "_law_take" "_law_take" (defArgs sL_take) (defBody sL_take) (defScope sL_take) .none kV2 dc2 pm2 an2 cv2 ct2), sl2⟩) (c2 : PySem.W.codeIn K cv2 "_law_take" = true) (k2 : PySem.W.keepIn K (.ref f2) = true)
    (a3 : PySem.W.nsIn K mainGlobals "_law_odd_by" = some (some (.ref f3))) (l3 : K.lookup f3 = some ⟨oc3, od3, .func (PySem.W.fnOf "_law_odd_by" "_law_odd_by" (defArgs sL_odd_by) (defBody sL_odd_by) (defScope sL_odd_by) .none kV3 dc3 pm3 an3 cv3 ct3), sl3⟩) (c3 : PySem.W.codeIn K cv3 "_law_odd_by" = true) (k3 : PySem.W.keepIn K (.ref f3) = true)
    (a4 : PySem.W.nsIn K mainGlobals "_law_classes" = some (some (.ref f4))) (l4 : K.lookup f4 = some ⟨oc4, od4, .func (PySem.W.fnOf "_law_classes" "_law_classes" (defArgs sL_classes) (defBody sL_classes) (defScope sL_classes) .none kV4 dc4 pm4 an4 cv4 ct4), sl4⟩) (c4 : PySem.W.codeIn K cv4 "_law_classes" = true) (k4 : PySem.W.keepIn K (.ref f4) = true)
    (a5 : PySem.W.nsIn K mainGlobals "_law_classes_right" = some (some (.ref f5))) (l5 : K.lookup f5 = some ⟨oc5, od5, .func (PySem.W.fnOf "_law_classes_right" "_law_classes_right" (defArgs sL_classes_right) (defBody sL_classes_right) (defScope sL_classes_right) .none kV5 dc5 pm5 an5 cv5 ct5), sl5⟩) (c5 : PySem.W.codeIn K cv5 "_law_classes_right" = true) (k5 : PySem.W.keepIn K (.ref f5) = true)
    (a6 : PySem.W.nsIn K mainGlobals "common_part" = some (some (.ref f6))) (l6 : K.lookup f6 = some ⟨oc6, od6, .func (PySem.W.fnOf "common_part" "common_part" (defArgs scommon_part) (defBody scommon_part) (defScope scommon_part) .none kV6 dc6 pm6 an6 cv6 ct6), sl6⟩) (c6 : PySem.W.codeIn K cv6 "common_part" = true) (k6 : PySem.W.keepIn K (.ref f6) = true)
    (a7 : PySem.W.nsIn K mainGlobals "in_lowest" = some (some (.ref f7))) (l7 : K.lookup f7 = some ⟨oc7, od7, .func (PySem.W.fnOf "in_lowest" "in_lowest" (defArgs sin_lowest) (defBody sin_lowest) (defScope sin_lowest) .none kV7 dc7 pm7 an7 cv7 ct7), sl7⟩) (c7 : PySem.W.codeIn K cv7 "in_lowest" = true) (k7 : PySem.W.keepIn K (.ref f7) = true)
    (a8 : PySem.W.nsIn K mainGlobals "is_whole" = some (some (.ref f8))) (l8 : K.lookup f8 = some ⟨oc8, od8, .func (PySem.W.fnOf "is_whole" "is_whole" (defArgs sis_whole) (defBody sis_whole) (defScope sis_whole) .none kV8 dc8 pm8 an8 cv8 ct8), sl8⟩) (c8 : PySem.W.codeIn K cv8 "is_whole" = true) (k8 : PySem.W.keepIn K (.ref f8) = true)
    (a9 : PySem.W.nsIn K mainGlobals "fraction" = some (some (.ref f9))) (l9 : K.lookup f9 = some ⟨oc9, od9, .func (PySem.W.fnOf "fraction" "fraction" (defArgs sfraction) (defBody sfraction) (defScope sfraction) .none kV9 dc9 pm9 an9 cv9 ct9), sl9⟩) (c9 : PySem.W.codeIn K cv9 "fraction" = true) (k9 : PySem.W.keepIn K (.ref f9) = true)
    (a10 : PySem.W.nsIn K mainGlobals "_law_word" = some (some (.ref f10))) (l10 : K.lookup f10 = some ⟨oc10, od10, .func (PySem.W.fnOf "_law_word" "_law_word" (defArgs sL_word) (defBody sL_word) (defScope sL_word) .none kV10 dc10 pm10 an10 cv10 ct10), sl10⟩) (c10 : PySem.W.codeIn K cv10 "_law_word" = true) (k10 : PySem.W.keepIn K (.ref f10) = true)
    (a11 : PySem.W.nsIn K mainGlobals "_law_said" = some (some (.ref f11))) (l11 : K.lookup f11 = some ⟨oc11, od11, .func (PySem.W.fnOf "_law_said" "_law_said" (defArgs sL_said) (defBody sL_said) (defScope sL_said) .none kV11 dc11 pm11 an11 cv11 ct11), sl11⟩) (c11 : PySem.W.codeIn K cv11 "_law_said" = true) (k11 : PySem.W.keepIn K (.ref f11) = true)
    (a12 : PySem.W.nsIn K mainGlobals "is_fraction" = some (some (.ref f12))) (l12 : K.lookup f12 = some ⟨oc12, od12, .func (PySem.W.fnOf "is_fraction" "is_fraction" (defArgs sis_fraction) (defBody sis_fraction) (defScope sis_fraction) .none kV12 dc12 pm12 an12 cv12 ct12), sl12⟩) (c12 : PySem.W.codeIn K cv12 "is_fraction" = true) (k12 : PySem.W.keepIn K (.ref f12) = true)
    (a13 : PySem.W.nsIn K mainGlobals "_law_truths_right" = some (some (.ref f13))) (l13 : K.lookup f13 = some ⟨oc13, od13, .func (PySem.W.fnOf "_law_truths_right" "_law_truths_right" (defArgs sL_truths_right) (defBody sL_truths_right) (defScope sL_truths_right) .none kV13 dc13 pm13 an13 cv13 ct13), sl13⟩) (c13 : PySem.W.codeIn K cv13 "_law_truths_right" = true) (k13 : PySem.W.keepIn K (.ref f13) = true)
    (a14 : PySem.W.nsIn K mainGlobals "_law_great_right" = some (some (.ref f14))) (l14 : K.lookup f14 = some ⟨oc14, od14, .func (PySem.W.fnOf "_law_great_right" "_law_great_right" (defArgs sL_great_right) (defBody sL_great_right) (defScope sL_great_right) .none kV14 dc14 pm14 an14 cv14 ct14), sl14⟩) (c14 : PySem.W.codeIn K cv14 "_law_great_right" = true) (k14 : PySem.W.keepIn K (.ref f14) = true)
    (a15 : PySem.W.nsIn K mainGlobals "_law_whole_by" = some (some (.ref f15))) (l15 : K.lookup f15 = some ⟨oc15, od15, .func (PySem.W.fnOf "_law_whole_by" "_law_whole_by" (defArgs sL_whole_by) (defBody sL_whole_by) (defScope sL_whole_by) .none kV15 dc15 pm15 an15 cv15 ct15), sl15⟩) (c15 : PySem.W.codeIn K cv15 "_law_whole_by" = true) (k15 : PySem.W.keepIn K (.ref f15) = true)
    (a16 : PySem.W.nsIn K mainGlobals "_law_far_by" = some (some (.ref f16))) (l16 : K.lookup f16 = some ⟨oc16, od16, .func (PySem.W.fnOf "_law_far_by" "_law_far_by" (defArgs sL_far_by) (defBody sL_far_by) (defScope sL_far_by) .none kV16 dc16 pm16 an16 cv16 ct16), sl16⟩) (c16 : PySem.W.codeIn K cv16 "_law_far_by" = true) (k16 : PySem.W.keepIn K (.ref f16) = true)
    (a17 : PySem.W.nsIn K mainGlobals "_law_part" = some (some (.ref f17))) (l17 : K.lookup f17 = some ⟨oc17, od17, .func (PySem.W.fnOf "_law_part" "_law_part" (defArgs sL_part) (defBody sL_part) (defScope sL_part) .none kV17 dc17 pm17 an17 cv17 ct17), sl17⟩) (c17 : PySem.W.codeIn K cv17 "_law_part" = true) (k17 : PySem.W.keepIn K (.ref f17) = true)
    (a18 : PySem.W.nsIn K mainGlobals "_law_lowest" = some (some (.ref f18))) (l18 : K.lookup f18 = some ⟨oc18, od18, .func (PySem.W.fnOf "_law_lowest" "_law_lowest" (defArgs sL_lowest) (defBody sL_lowest) (defScope sL_lowest) .none kV18 dc18 pm18 an18 cv18 ct18), sl18⟩) (c18 : PySem.W.codeIn K cv18 "_law_lowest" = true) (k18 : PySem.W.keepIn K (.ref f18) = true)
    (a19 : PySem.W.nsIn K mainGlobals "_law_is" = some (some (.ref f19))) (l19 : K.lookup f19 = some ⟨oc19, od19, .func (PySem.W.fnOf "_law_is" "_law_is" (defArgs sL_is) (defBody sL_is) (defScope sL_is) .none kV19 dc19 pm19 an19 cv19 ct19), sl19⟩) (c19 : PySem.W.codeIn K cv19 "_law_is" = true) (k19 : PySem.W.keepIn K (.ref f19) = true)
    (a20 : PySem.W.nsIn K mainGlobals "law" = some (some (.ref f20))) (l20 : K.lookup f20 = some ⟨oc20, od20, .func (PySem.W.fnOf "law" "law" (defArgs slaw) (defBody slaw) (defScope slaw) .none kV20 dc20 pm20 an20 cv20 ct20), sl20⟩) (c20 : PySem.W.codeIn K cv20 "law" = true) (k20 : PySem.W.keepIn K (.ref f20) = true)
    (z_ValueError : PySem.W.nsIn K mainGlobals "ValueError" = some none)
    (z_abs : PySem.W.nsIn K mainGlobals "abs" = some none)
    (z_all : PySem.W.nsIn K mainGlobals "all" = some none)
    (z_bool : PySem.W.nsIn K mainGlobals "bool" = some none)
    (z_enumerate : PySem.W.nsIn K mainGlobals "enumerate" = some none)
    (z_int : PySem.W.nsIn K mainGlobals "int" = some none)
    (z_isinstance : PySem.W.nsIn K mainGlobals "isinstance" = some none)
    (z_len : PySem.W.nsIn K mainGlobals "len" = some none)
    (z_list : PySem.W.nsIn K mainGlobals "list" = some none)
    (z_range : PySem.W.nsIn K mainGlobals "range" = some none)
    (z_repr : PySem.W.nsIn K mainGlobals "repr" = some none)
    (z_str : PySem.W.nsIn K mainGlobals "str" = some none)
    (z_tuple : PySem.W.nsIn K mainGlobals "tuple" = some none)
    (gc0 : PySem.W.nsIn K mainGlobals "TowerError" = some (some (.ref C0))) (lc0 : PySem.W.clsIn K C0 = some cd0) (tc0 : PySem.W.typeIn K (.ref C0) = some (.type "type")) (nc0 : cd0.mro.isEmpty = false) (bc0 : cd0.mro.contains (.type "BaseException") = true)
    (gc1 : PySem.W.nsIn K mainGlobals "BadKind" = some (some (.ref C1))) (lc1 : PySem.W.clsIn K C1 = some cd1) (tc1 : PySem.W.typeIn K (.ref C1) = some (.type "type")) (nc1 : cd1.mro.isEmpty = false) (bc1 : cd1.mro.contains (.type "BaseException") = true)
    (gc2 : PySem.W.nsIn K mainGlobals "BadWorth" = some (some (.ref C2))) (lc2 : PySem.W.clsIn K C2 = some cd2) (tc2 : PySem.W.typeIn K (.ref C2) = some (.type "type")) (nc2 : cd2.mro.isEmpty = false) (bc2 : cd2.mro.contains (.type "BaseException") = true)
    (gc3 : PySem.W.nsIn K mainGlobals "BadTower" = some (some (.ref C3))) (lc3 : PySem.W.clsIn K C3 = some cd3) (tc3 : PySem.W.typeIn K (.ref C3) = some (.type "type")) (nc3 : cd3.mro.isEmpty = false) (bc3 : cd3.mro.contains (.type "BaseException") = true)
    (gc4 : PySem.W.nsIn K mainGlobals "BadWay" = some (some (.ref C4))) (lc4 : PySem.W.clsIn K C4 = some cd4) (tc4 : PySem.W.typeIn K (.ref C4) = some (.type "type")) (nc4 : cd4.mro.isEmpty = false) (bc4 : cd4.mro.contains (.type "BaseException") = true)
    (gc5 : PySem.W.nsIn K mainGlobals "BadNumber" = some (some (.ref C5))) (lc5 : PySem.W.clsIn K C5 = some cd5) (tc5 : PySem.W.typeIn K (.ref C5) = some (.type "type")) (nc5 : cd5.mro.isEmpty = false) (bc5 : cd5.mro.contains (.type "BaseException") = true)
    (gc6 : PySem.W.nsIn K mainGlobals "BadName" = some (some (.ref C6))) (lc6 : PySem.W.clsIn K C6 = some cd6) (tc6 : PySem.W.typeIn K (.ref C6) = some (.type "type")) (nc6 : cd6.mro.isEmpty = false) (bc6 : cd6.mro.contains (.type "BaseException") = true)
    (gc7 : PySem.W.nsIn K mainGlobals "BadTerm" = some (some (.ref C7))) (lc7 : PySem.W.clsIn K C7 = some cd7) (tc7 : PySem.W.typeIn K (.ref C7) = some (.type "type")) (nc7 : cd7.mro.isEmpty = false) (bc7 : cd7.mro.contains (.type "BaseException") = true)
    (gc8 : PySem.W.nsIn K mainGlobals "BadProgram" = some (some (.ref C8))) (lc8 : PySem.W.clsIn K C8 = some cd8) (tc8 : PySem.W.typeIn K (.ref C8) = some (.type "type")) (nc8 : cd8.mro.isEmpty = false) (bc8 : cd8.mro.contains (.type "BaseException") = true)
    (gc9 : PySem.W.nsIn K mainGlobals "BadPaper" = some (some (.ref C9))) (lc9 : PySem.W.clsIn K C9 = some cd9) (tc9 : PySem.W.typeIn K (.ref C9) = some (.type "type")) (nc9 : cd9.mro.isEmpty = false) (bc9 : cd9.mro.contains (.type "BaseException") = true)
    (gc10 : PySem.W.nsIn K mainGlobals "BadText" = some (some (.ref C10))) (lc10 : PySem.W.clsIn K C10 = some cd10) (tc10 : PySem.W.typeIn K (.ref C10) = some (.type "type")) (nc10 : cd10.mro.isEmpty = false) (bc10 : cd10.mro.contains (.type "BaseException") = true)
    (gc11 : PySem.W.nsIn K mainGlobals "BadLine" = some (some (.ref C11))) (lc11 : PySem.W.clsIn K C11 = some cd11) (tc11 : PySem.W.typeIn K (.ref C11) = some (.type "type")) (nc11 : cd11.mro.isEmpty = false) (bc11 : cd11.mro.contains (.type "BaseException") = true)
    (gc12 : PySem.W.nsIn K mainGlobals "NoDeed" = some (some (.ref C12))) (lc12 : PySem.W.clsIn K C12 = some cd12) (tc12 : PySem.W.typeIn K (.ref C12) = some (.type "type")) (nc12 : cd12.mro.isEmpty = false) (bc12 : cd12.mro.contains (.type "BaseException") = true)
    (gc13 : PySem.W.nsIn K mainGlobals "NoKind" = some (some (.ref C13))) (lc13 : PySem.W.clsIn K C13 = some cd13) (tc13 : PySem.W.typeIn K (.ref C13) = some (.type "type")) (nc13 : cd13.mro.isEmpty = false) (bc13 : cd13.mro.contains (.type "BaseException") = true)
    (gc14 : PySem.W.nsIn K mainGlobals "TwoKinds" = some (some (.ref C14))) (lc14 : PySem.W.clsIn K C14 = some cd14) (tc14 : PySem.W.typeIn K (.ref C14) = some (.type "type")) (nc14 : cd14.mro.isEmpty = false) (bc14 : cd14.mro.contains (.type "BaseException") = true)
    (gc15 : PySem.W.nsIn K mainGlobals "NoOrder" = some (some (.ref C15))) (lc15 : PySem.W.clsIn K C15 = some cd15) (tc15 : PySem.W.typeIn K (.ref C15) = some (.type "type")) (nc15 : cd15.mro.isEmpty = false) (bc15 : cd15.mro.contains (.type "BaseException") = true)
    (gc16 : PySem.W.nsIn K mainGlobals "ByNought" = some (some (.ref C16))) (lc16 : PySem.W.clsIn K C16 = some cd16) (tc16 : PySem.W.typeIn K (.ref C16) = some (.type "type")) (nc16 : cd16.mro.isEmpty = false) (bc16 : cd16.mro.contains (.type "BaseException") = true)
    (gc17 : PySem.W.nsIn K mainGlobals "Lacking" = some (some (.ref C17))) (lc17 : PySem.W.clsIn K C17 = some cd17) (tc17 : PySem.W.typeIn K (.ref C17) = some (.type "type")) (nc17 : cd17.mro.isEmpty = false) (bc17 : cd17.mro.contains (.type "BaseException") = true)
    (gc18 : PySem.W.nsIn K mainGlobals "TooGreat" = some (some (.ref C18))) (lc18 : PySem.W.clsIn K C18 = some cd18) (tc18 : PySem.W.typeIn K (.ref C18) = some (.type "type")) (nc18 : cd18.mro.isEmpty = false) (bc18 : cd18.mro.contains (.type "BaseException") = true)
    (xe1 : PySem.W.excIn K C1 [.type "ValueError", .type "Exception", .type "BaseException", .type "object"] "ValueError.__new__" = true) (xk1 : PySem.W.keepIn K (.ref C1) = true)
    (xs1 : PySem.W.subIn K (.ref C1) (.type "BaseException") = some true)
    (xg1 : PySem.W.findIn K (.ref C1) "__getattribute__" = some (some (.builtin "BaseException.__getattribute__"))) (xa1 : PySem.W.findIn K (.ref C1) "__getattr__" = some none) (xd1 : PySem.W.hasDictIn K C1 = true) (xc1 : PySem.W.findIn K (.ref C1) "__class__" = some (some (.builtin "object.__class__"))) (xm1 : PySem.W.mroIn K C1 (.type "object") = some true)
    (xv1 : cd1.mro.contains (.type "ValueError") = true) (xo1 : cd1.mro.contains (.ref C1) = true) (xr1 : ([C0, C1, C2, C3, C4, C5, C6, C7, C8, C9, C10, C11, C12, C13, C14, C15, C16, C17, C18] : List Addr).map (fun D => cd1.mro.contains (.ref D)) = [true, true, false, false, false, false, false, false, false, false, false, false, false, false, false, false, false, false, false])
    (xe2 : PySem.W.excIn K C2 [.type "ValueError", .type "Exception", .type "BaseException", .type "object"] "ValueError.__new__" = true) (xk2 : PySem.W.keepIn K (.ref C2) = true)
    (xs2 : PySem.W.subIn K (.ref C2) (.type "BaseException") = some true)
    (xg2 : PySem.W.findIn K (.ref C2) "__getattribute__" = some (some (.builtin "BaseException.__getattribute__"))) (xa2 : PySem.W.findIn K (.ref C2) "__getattr__" = some none) (xd2 : PySem.W.hasDictIn K C2 = true) (xc2 : PySem.W.findIn K (.ref C2) "__class__" = some (some (.builtin "object.__class__"))) (xm2 : PySem.W.mroIn K C2 (.type "object") = some true)
    (xv2 : cd2.mro.contains (.type "ValueError") = true) (xo2 : cd2.mro.contains (.ref C2) = true) (xr2 : ([C0, C1, C2, C3, C4, C5, C6, C7, C8, C9, C10, C11, C12, C13, C14, C15, C16, C17, C18] : List Addr).map (fun D => cd2.mro.contains (.ref D)) = [true, false, true, false, false, false, false, false, false, false, false, false, false, false, false, false, false, false, false])
    (xs3 : PySem.W.subIn K (.ref C3) (.type "BaseException") = some true)
    (xg3 : PySem.W.findIn K (.ref C3) "__getattribute__" = some (some (.builtin "BaseException.__getattribute__"))) (xa3 : PySem.W.findIn K (.ref C3) "__getattr__" = some none) (xd3 : PySem.W.hasDictIn K C3 = true) (xc3 : PySem.W.findIn K (.ref C3) "__class__" = some (some (.builtin "object.__class__"))) (xm3 : PySem.W.mroIn K C3 (.type "object") = some true)
    (xv3 : cd3.mro.contains (.type "ValueError") = true) (xo3 : cd3.mro.contains (.ref C3) = true) (xr3 : ([C0, C1, C2, C3, C4, C5, C6, C7, C8, C9, C10, C11, C12, C13, C14, C15, C16, C17, C18] : List Addr).map (fun D => cd3.mro.contains (.ref D)) = [true, false, false, true, false, false, false, false, false, false, false, false, false, false, false, false, false, false, false])
    (xe4 : PySem.W.excIn K C4 [.type "ValueError", .type "Exception", .type "BaseException", .type "object"] "ValueError.__new__" = true) (xk4 : PySem.W.keepIn K (.ref C4) = true)
    (xs4 : PySem.W.subIn K (.ref C4) (.type "BaseException") = some true)
    (xg4 : PySem.W.findIn K (.ref C4) "__getattribute__" = some (some (.builtin "BaseException.__getattribute__"))) (xa4 : PySem.W.findIn K (.ref C4) "__getattr__" = some none) (xd4 : PySem.W.hasDictIn K C4 = true) (xc4 : PySem.W.findIn K (.ref C4) "__class__" = some (some (.builtin "object.__class__"))) (xm4 : PySem.W.mroIn K C4 (.type "object") = some true)
    (xv4 : cd4.mro.contains (.type "ValueError") = true) (xo4 : cd4.mro.contains (.ref C4) = true) (xr4 : ([C0, C1, C2, C3, C4, C5, C6, C7, C8, C9, C10, C11, C12, C13, C14, C15, C16, C17, C18] : List Addr).map (fun D => cd4.mro.contains (.ref D)) = [true, false, false, false, true, false, false, false, false, false, false, false, false, false, false, false, false, false, false])
    (xe5 : PySem.W.excIn K C5 [.type "ValueError", .type "Exception", .type "BaseException", .type "object"] "ValueError.__new__" = true) (xk5 : PySem.W.keepIn K (.ref C5) = true)
    (xs5 : PySem.W.subIn K (.ref C5) (.type "BaseException") = some true)
    (xg5 : PySem.W.findIn K (.ref C5) "__getattribute__" = some (some (.builtin "BaseException.__getattribute__"))) (xa5 : PySem.W.findIn K (.ref C5) "__getattr__" = some none) (xd5 : PySem.W.hasDictIn K C5 = true) (xc5 : PySem.W.findIn K (.ref C5) "__class__" = some (some (.builtin "object.__class__"))) (xm5 : PySem.W.mroIn K C5 (.type "object") = some true)
    (xv5 : cd5.mro.contains (.type "ValueError") = true) (xo5 : cd5.mro.contains (.ref C5) = true) (xr5 : ([C0, C1, C2, C3, C4, C5, C6, C7, C8, C9, C10, C11, C12, C13, C14, C15, C16, C17, C18] : List Addr).map (fun D => cd5.mro.contains (.ref D)) = [true, false, false, false, false, true, false, false, false, false, false, false, false, false, false, false, false, false, false])
    (xe6 : PySem.W.excIn K C6 [.type "ValueError", .type "Exception", .type "BaseException", .type "object"] "ValueError.__new__" = true) (xk6 : PySem.W.keepIn K (.ref C6) = true)
    (xs6 : PySem.W.subIn K (.ref C6) (.type "BaseException") = some true)
    (xg6 : PySem.W.findIn K (.ref C6) "__getattribute__" = some (some (.builtin "BaseException.__getattribute__"))) (xa6 : PySem.W.findIn K (.ref C6) "__getattr__" = some none) (xd6 : PySem.W.hasDictIn K C6 = true) (xc6 : PySem.W.findIn K (.ref C6) "__class__" = some (some (.builtin "object.__class__"))) (xm6 : PySem.W.mroIn K C6 (.type "object") = some true)
    (xv6 : cd6.mro.contains (.type "ValueError") = true) (xo6 : cd6.mro.contains (.ref C6) = true) (xr6 : ([C0, C1, C2, C3, C4, C5, C6, C7, C8, C9, C10, C11, C12, C13, C14, C15, C16, C17, C18] : List Addr).map (fun D => cd6.mro.contains (.ref D)) = [true, false, false, false, false, false, true, false, false, false, false, false, false, false, false, false, false, false, false])
    (xe7 : PySem.W.excIn K C7 [.type "ValueError", .type "Exception", .type "BaseException", .type "object"] "ValueError.__new__" = true) (xk7 : PySem.W.keepIn K (.ref C7) = true)
    (xs7 : PySem.W.subIn K (.ref C7) (.type "BaseException") = some true)
    (xg7 : PySem.W.findIn K (.ref C7) "__getattribute__" = some (some (.builtin "BaseException.__getattribute__"))) (xa7 : PySem.W.findIn K (.ref C7) "__getattr__" = some none) (xd7 : PySem.W.hasDictIn K C7 = true) (xc7 : PySem.W.findIn K (.ref C7) "__class__" = some (some (.builtin "object.__class__"))) (xm7 : PySem.W.mroIn K C7 (.type "object") = some true)
    (xv7 : cd7.mro.contains (.type "ValueError") = true) (xo7 : cd7.mro.contains (.ref C7) = true) (xr7 : ([C0, C1, C2, C3, C4, C5, C6, C7, C8, C9, C10, C11, C12, C13, C14, C15, C16, C17, C18] : List Addr).map (fun D => cd7.mro.contains (.ref D)) = [true, false, false, false, false, false, false, true, false, false, false, false, false, false, false, false, false, false, false])
    (xs8 : PySem.W.subIn K (.ref C8) (.type "BaseException") = some true)
    (xg8 : PySem.W.findIn K (.ref C8) "__getattribute__" = some (some (.builtin "BaseException.__getattribute__"))) (xa8 : PySem.W.findIn K (.ref C8) "__getattr__" = some none) (xd8 : PySem.W.hasDictIn K C8 = true) (xc8 : PySem.W.findIn K (.ref C8) "__class__" = some (some (.builtin "object.__class__"))) (xm8 : PySem.W.mroIn K C8 (.type "object") = some true)
    (xv8 : cd8.mro.contains (.type "ValueError") = true) (xo8 : cd8.mro.contains (.ref C8) = true) (xr8 : ([C0, C1, C2, C3, C4, C5, C6, C7, C8, C9, C10, C11, C12, C13, C14, C15, C16, C17, C18] : List Addr).map (fun D => cd8.mro.contains (.ref D)) = [true, false, false, false, false, false, false, false, true, false, false, false, false, false, false, false, false, false, false])
    (xs9 : PySem.W.subIn K (.ref C9) (.type "BaseException") = some true)
    (xg9 : PySem.W.findIn K (.ref C9) "__getattribute__" = some (some (.builtin "BaseException.__getattribute__"))) (xa9 : PySem.W.findIn K (.ref C9) "__getattr__" = some none) (xd9 : PySem.W.hasDictIn K C9 = true) (xc9 : PySem.W.findIn K (.ref C9) "__class__" = some (some (.builtin "object.__class__"))) (xm9 : PySem.W.mroIn K C9 (.type "object") = some true)
    (xv9 : cd9.mro.contains (.type "ValueError") = true) (xo9 : cd9.mro.contains (.ref C9) = true) (xr9 : ([C0, C1, C2, C3, C4, C5, C6, C7, C8, C9, C10, C11, C12, C13, C14, C15, C16, C17, C18] : List Addr).map (fun D => cd9.mro.contains (.ref D)) = [true, false, false, false, false, false, false, false, false, true, false, false, false, false, false, false, false, false, false])
    (xs10 : PySem.W.subIn K (.ref C10) (.type "BaseException") = some true)
    (xg10 : PySem.W.findIn K (.ref C10) "__getattribute__" = some (some (.builtin "BaseException.__getattribute__"))) (xa10 : PySem.W.findIn K (.ref C10) "__getattr__" = some none) (xd10 : PySem.W.hasDictIn K C10 = true) (xc10 : PySem.W.findIn K (.ref C10) "__class__" = some (some (.builtin "object.__class__"))) (xm10 : PySem.W.mroIn K C10 (.type "object") = some true)
    (xv10 : cd10.mro.contains (.type "ValueError") = true) (xo10 : cd10.mro.contains (.ref C10) = true) (xr10 : ([C0, C1, C2, C3, C4, C5, C6, C7, C8, C9, C10, C11, C12, C13, C14, C15, C16, C17, C18] : List Addr).map (fun D => cd10.mro.contains (.ref D)) = [true, false, false, false, false, false, false, false, false, false, true, false, false, false, false, false, false, false, false])
    (xe11 : PySem.W.excIn K C11 [.type "ValueError", .type "Exception", .type "BaseException", .type "object"] "ValueError.__new__" = true) (xk11 : PySem.W.keepIn K (.ref C11) = true)
    (xs11 : PySem.W.subIn K (.ref C11) (.type "BaseException") = some true)
    (xg11 : PySem.W.findIn K (.ref C11) "__getattribute__" = some (some (.builtin "BaseException.__getattribute__"))) (xa11 : PySem.W.findIn K (.ref C11) "__getattr__" = some none) (xd11 : PySem.W.hasDictIn K C11 = true) (xc11 : PySem.W.findIn K (.ref C11) "__class__" = some (some (.builtin "object.__class__"))) (xm11 : PySem.W.mroIn K C11 (.type "object") = some true)
    (xv11 : cd11.mro.contains (.type "ValueError") = true) (xo11 : cd11.mro.contains (.ref C11) = true) (xr11 : ([C0, C1, C2, C3, C4, C5, C6, C7, C8, C9, C10, C11, C12, C13, C14, C15, C16, C17, C18] : List Addr).map (fun D => cd11.mro.contains (.ref D)) = [true, false, false, false, false, false, false, false, false, false, false, true, false, false, false, false, false, false, false])
    (xe12 : PySem.W.excIn K C12 [.type "ValueError", .type "Exception", .type "BaseException", .type "object"] "ValueError.__new__" = true) (xk12 : PySem.W.keepIn K (.ref C12) = true)
    (xs12 : PySem.W.subIn K (.ref C12) (.type "BaseException") = some true)
    (xg12 : PySem.W.findIn K (.ref C12) "__getattribute__" = some (some (.builtin "BaseException.__getattribute__"))) (xa12 : PySem.W.findIn K (.ref C12) "__getattr__" = some none) (xd12 : PySem.W.hasDictIn K C12 = true) (xc12 : PySem.W.findIn K (.ref C12) "__class__" = some (some (.builtin "object.__class__"))) (xm12 : PySem.W.mroIn K C12 (.type "object") = some true)
    (xv12 : cd12.mro.contains (.type "ValueError") = true) (xo12 : cd12.mro.contains (.ref C12) = true) (xr12 : ([C0, C1, C2, C3, C4, C5, C6, C7, C8, C9, C10, C11, C12, C13, C14, C15, C16, C17, C18] : List Addr).map (fun D => cd12.mro.contains (.ref D)) = [true, false, false, false, false, false, false, false, false, false, false, false, true, false, false, false, false, false, false])
    (xe13 : PySem.W.excIn K C13 [.type "ValueError", .type "Exception", .type "BaseException", .type "object"] "ValueError.__new__" = true) (xk13 : PySem.W.keepIn K (.ref C13) = true)
    (xs13 : PySem.W.subIn K (.ref C13) (.type "BaseException") = some true)
    (xg13 : PySem.W.findIn K (.ref C13) "__getattribute__" = some (some (.builtin "BaseException.__getattribute__"))) (xa13 : PySem.W.findIn K (.ref C13) "__getattr__" = some none) (xd13 : PySem.W.hasDictIn K C13 = true) (xc13 : PySem.W.findIn K (.ref C13) "__class__" = some (some (.builtin "object.__class__"))) (xm13 : PySem.W.mroIn K C13 (.type "object") = some true)
    (xv13 : cd13.mro.contains (.type "ValueError") = true) (xo13 : cd13.mro.contains (.ref C13) = true) (xr13 : ([C0, C1, C2, C3, C4, C5, C6, C7, C8, C9, C10, C11, C12, C13, C14, C15, C16, C17, C18] : List Addr).map (fun D => cd13.mro.contains (.ref D)) = [true, false, false, false, false, false, false, false, false, false, false, false, false, true, false, false, false, false, false])
    (xs14 : PySem.W.subIn K (.ref C14) (.type "BaseException") = some true)
    (xg14 : PySem.W.findIn K (.ref C14) "__getattribute__" = some (some (.builtin "BaseException.__getattribute__"))) (xa14 : PySem.W.findIn K (.ref C14) "__getattr__" = some none) (xd14 : PySem.W.hasDictIn K C14 = true) (xc14 : PySem.W.findIn K (.ref C14) "__class__" = some (some (.builtin "object.__class__"))) (xm14 : PySem.W.mroIn K C14 (.type "object") = some true)
    (xv14 : cd14.mro.contains (.type "ValueError") = true) (xo14 : cd14.mro.contains (.ref C14) = true) (xr14 : ([C0, C1, C2, C3, C4, C5, C6, C7, C8, C9, C10, C11, C12, C13, C14, C15, C16, C17, C18] : List Addr).map (fun D => cd14.mro.contains (.ref D)) = [true, false, false, false, false, false, false, false, false, false, false, false, false, false, true, false, false, false, false])
    (xe15 : PySem.W.excIn K C15 [.type "ValueError", .type "Exception", .type "BaseException", .type "object"] "ValueError.__new__" = true) (xk15 : PySem.W.keepIn K (.ref C15) = true)
    (xs15 : PySem.W.subIn K (.ref C15) (.type "BaseException") = some true)
    (xg15 : PySem.W.findIn K (.ref C15) "__getattribute__" = some (some (.builtin "BaseException.__getattribute__"))) (xa15 : PySem.W.findIn K (.ref C15) "__getattr__" = some none) (xd15 : PySem.W.hasDictIn K C15 = true) (xc15 : PySem.W.findIn K (.ref C15) "__class__" = some (some (.builtin "object.__class__"))) (xm15 : PySem.W.mroIn K C15 (.type "object") = some true)
    (xv15 : cd15.mro.contains (.type "ValueError") = true) (xo15 : cd15.mro.contains (.ref C15) = true) (xr15 : ([C0, C1, C2, C3, C4, C5, C6, C7, C8, C9, C10, C11, C12, C13, C14, C15, C16, C17, C18] : List Addr).map (fun D => cd15.mro.contains (.ref D)) = [true, false, false, false, false, false, false, false, false, false, false, false, false, false, false, true, false, false, false])
    (xe16 : PySem.W.excIn K C16 [.type "ValueError", .type "Exception", .type "BaseException", .type "object"] "ValueError.__new__" = true) (xk16 : PySem.W.keepIn K (.ref C16) = true)
    (xs16 : PySem.W.subIn K (.ref C16) (.type "BaseException") = some true)
    (xg16 : PySem.W.findIn K (.ref C16) "__getattribute__" = some (some (.builtin "BaseException.__getattribute__"))) (xa16 : PySem.W.findIn K (.ref C16) "__getattr__" = some none) (xd16 : PySem.W.hasDictIn K C16 = true) (xc16 : PySem.W.findIn K (.ref C16) "__class__" = some (some (.builtin "object.__class__"))) (xm16 : PySem.W.mroIn K C16 (.type "object") = some true)
    (xv16 : cd16.mro.contains (.type "ValueError") = true) (xo16 : cd16.mro.contains (.ref C16) = true) (xr16 : ([C0, C1, C2, C3, C4, C5, C6, C7, C8, C9, C10, C11, C12, C13, C14, C15, C16, C17, C18] : List Addr).map (fun D => cd16.mro.contains (.ref D)) = [true, false, false, false, false, false, false, false, false, false, false, false, false, false, false, false, true, false, false])
    (xe17 : PySem.W.excIn K C17 [.type "ValueError", .type "Exception", .type "BaseException", .type "object"] "ValueError.__new__" = true) (xk17 : PySem.W.keepIn K (.ref C17) = true)
    (xs17 : PySem.W.subIn K (.ref C17) (.type "BaseException") = some true)
    (xg17 : PySem.W.findIn K (.ref C17) "__getattribute__" = some (some (.builtin "BaseException.__getattribute__"))) (xa17 : PySem.W.findIn K (.ref C17) "__getattr__" = some none) (xd17 : PySem.W.hasDictIn K C17 = true) (xc17 : PySem.W.findIn K (.ref C17) "__class__" = some (some (.builtin "object.__class__"))) (xm17 : PySem.W.mroIn K C17 (.type "object") = some true)
    (xv17 : cd17.mro.contains (.type "ValueError") = true) (xo17 : cd17.mro.contains (.ref C17) = true) (xr17 : ([C0, C1, C2, C3, C4, C5, C6, C7, C8, C9, C10, C11, C12, C13, C14, C15, C16, C17, C18] : List Addr).map (fun D => cd17.mro.contains (.ref D)) = [true, false, false, false, false, false, false, false, false, false, false, false, false, false, false, false, false, true, false])
    (xe18 : PySem.W.excIn K C18 [.type "ValueError", .type "Exception", .type "BaseException", .type "object"] "ValueError.__new__" = true) (xk18 : PySem.W.keepIn K (.ref C18) = true)
    (xs18 : PySem.W.subIn K (.ref C18) (.type "BaseException") = some true)
    (xg18 : PySem.W.findIn K (.ref C18) "__getattribute__" = some (some (.builtin "BaseException.__getattribute__"))) (xa18 : PySem.W.findIn K (.ref C18) "__getattr__" = some none) (xd18 : PySem.W.hasDictIn K C18 = true) (xc18 : PySem.W.findIn K (.ref C18) "__class__" = some (some (.builtin "object.__class__"))) (xm18 : PySem.W.mroIn K C18 (.type "object") = some true)
    (xv18 : cd18.mro.contains (.type "ValueError") = true) (xo18 : cd18.mro.contains (.ref C18) = true) (xr18 : ([C0, C1, C2, C3, C4, C5, C6, C7, C8, C9, C10, C11, C12, C13, C14, C15, C16, C17, C18] : List Addr).map (fun D => cd18.mro.contains (.ref D)) = [true, false, false, false, false, false, false, false, false, false, false, false, false, false, false, false, false, false, true])
    (isg0 : PySem.W.specialIn K (.ref C0) "__getattribute__" = some (some (.builtin "type.__getattribute__"))) (ird0 : PySem.W.readsIn K C0 (.type "type") = true) (ifv0 : PySem.W.findCls K (.ref C0) (.type "type") "__init__" = some (.val (.builtin "ValueError.__init__")))
    (ox3 : OexC K C3) (fi3 : PySem.W.findIn K (.ref C3) "__init__" = some (some (.ref fI3))) (ti3 : PySem.W.typeIn K (.ref fI3) = some (.type "function"))
    (li3 : K.lookup fI3 = some ⟨oI3, eI3, .func (PySem.W.fnOf "__init__" "BadTower.__init__" (defArgs sI_BadTower) (defBody sI_BadTower) (defScope sI_BadTower) .none kI3 dI3 pI3 aI3 cI3 tI3), lI3⟩) (ci3 : PySem.W.codeIn K cI3 "BadTower.__init__" = true) (ki3 : PySem.W.keepIn K (.ref fI3) = true)
    (no3_0 : PySem.W.findIn K (.ref C3) "place" = some none)
    (ox8 : OexC K C8) (fi8 : PySem.W.findIn K (.ref C8) "__init__" = some (some (.ref fI8))) (ti8 : PySem.W.typeIn K (.ref fI8) = some (.type "function"))
    (li8 : K.lookup fI8 = some ⟨oI8, eI8, .func (PySem.W.fnOf "__init__" "BadProgram.__init__" (defArgs sI_BadProgram) (defBody sI_BadProgram) (defScope sI_BadProgram) .none kI8 dI8 pI8 aI8 cI8 tI8), lI8⟩) (ci8 : PySem.W.codeIn K cI8 "BadProgram.__init__" = true) (ki8 : PySem.W.keepIn K (.ref fI8) = true)
    (no8_0 : PySem.W.findIn K (.ref C8) "row" = some none)
    (ox9 : OexC K C9) (fi9 : PySem.W.findIn K (.ref C9) "__init__" = some (some (.ref fI9))) (ti9 : PySem.W.typeIn K (.ref fI9) = some (.type "function"))
    (li9 : K.lookup fI9 = some ⟨oI9, eI9, .func (PySem.W.fnOf "__init__" "BadPaper.__init__" (defArgs sI_BadPaper) (defBody sI_BadPaper) (defScope sI_BadPaper) .none kI9 dI9 pI9 aI9 cI9 tI9), lI9⟩) (ci9 : PySem.W.codeIn K cI9 "BadPaper.__init__" = true) (ki9 : PySem.W.keepIn K (.ref fI9) = true)
    (no9_0 : PySem.W.findIn K (.ref C9) "place" = some none)
    (ox10 : OexC K C10) (fi10 : PySem.W.findIn K (.ref C10) "__init__" = some (some (.ref fI10))) (ti10 : PySem.W.typeIn K (.ref fI10) = some (.type "function"))
    (li10 : K.lookup fI10 = some ⟨oI10, eI10, .func (PySem.W.fnOf "__init__" "BadText.__init__" (defArgs sI_BadText) (defBody sI_BadText) (defScope sI_BadText) .none kI10 dI10 pI10 aI10 cI10 tI10), lI10⟩) (ci10 : PySem.W.codeIn K cI10 "BadText.__init__" = true) (ki10 : PySem.W.keepIn K (.ref fI10) = true)
    (no10_0 : PySem.W.findIn K (.ref C10) "line" = some none)
    (no10_1 : PySem.W.findIn K (.ref C10) "word" = some none)
    (ox14 : OexC K C14) (fi14 : PySem.W.findIn K (.ref C14) "__init__" = some (some (.ref fI14))) (ti14 : PySem.W.typeIn K (.ref fI14) = some (.type "function"))
    (li14 : K.lookup fI14 = some ⟨oI14, eI14, .func (PySem.W.fnOf "__init__" "TwoKinds.__init__" (defArgs sI_TwoKinds) (defBody sI_TwoKinds) (defScope sI_TwoKinds) .none kI14 dI14 pI14 aI14 cI14 tI14), lI14⟩) (ci14 : PySem.W.codeIn K cI14 "TwoKinds.__init__" = true) (ki14 : PySem.W.keepIn K (.ref fI14) = true)
    (no14_0 : PySem.W.findIn K (.ref C14) "one" = some none)
    (no14_1 : PySem.W.findIn K (.ref C14) "other" = some none)
    (xn : PySem.W.specialIn K (.builtin "object.__class__") "__get__" = some (some (.builtin "getset_descriptor.__get__"))) (xt : PySem.W.takesIn K (.builtin "object.__class__") = some true)
    : ∃ (M : Lm) (fd : FuncData) (cs : Mk), Mk0 K cs h ∧ M.tabs = cs.map (·.2) ∧ M.caps = [] ∧ M.codes = [] ∧ (∀ (s : Shared) (v : Value), BindsTo s fd ⟨[v], []⟩ [("_law_script", v)]) ∧ ∀ base : Heap, K.In base → base.Ns mainGlobals mg → MkB base mg cs → base.NoDigits → FnS P w K M mg base 6 fa fd ["_law_script"] flaw := by
  have e := hfa.symm.trans (PySem.W.mg_of X G a20)
  cases e
  have N0 := Kn.mk' (st := sL_mixed) (ps := ["_law_number", "_law_k"]) X G a0 l0 c0 k0 fun _ _ _ _ _ _ us hl => match us, hl with | [_, _], _ => rfl
  have N1 := Kn.mk' (st := sL_stream) (ps := ["_law_cell", "_law_k"]) X G a1 l1 c1 k1 fun _ _ _ _ _ _ us hl => match us, hl with | [_, _], _ => rfl
  have N2 := Kn.mk' (st := sL_take) (ps := ["_law_stream_here", "_law_many"]) X G a2 l2 c2 k2 fun _ _ _ _ _ _ us hl => match us, hl with | [_, _], _ => rfl
  have N3 := Kn.mk' (st := sL_odd_by) (ps := ["_law_stream_here", "_law_pair"]) X G a3 l3 c3 k3 fun _ _ _ _ _ _ us hl => match us, hl with | [_, _], _ => rfl
  have N4 := Kn.mk' (st := sL_classes) (ps := ["_law_error"]) X G a4 l4 c4 k4 fun _ _ _ _ _ _ us hl => match us, hl with | [_], _ => rfl
  have N5 := Kn.mk' (st := sL_classes_right) (ps := []) X G a5 l5 c5 k5 fun _ _ _ _ _ _ us hl => match us, hl with | [], _ => rfl
  have N6 := Kn.mk' (st := scommon_part) (ps := ["one", "other"]) X G a6 l6 c6 k6 fun _ _ _ _ _ _ us hl => match us, hl with | [_, _], _ => rfl
  have N7 := Kn.mk' (st := sin_lowest) (ps := ["above", "below"]) X G a7 l7 c7 k7 fun _ _ _ _ _ _ us hl => match us, hl with | [_, _], _ => rfl
  have N8 := Kn.mk' (st := sis_whole) (ps := ["thing"]) X G a8 l8 c8 k8 fun _ _ _ _ _ _ us hl => match us, hl with | [_], _ => rfl
  have N9 := Kn.mk' (st := sfraction) (ps := ["above", "below"]) X G a9 l9 c9 k9 fun _ _ _ _ _ _ us hl => match us, hl with | [_, _], _ => rfl
  have N10 := Kn.mk' (st := sL_word) (ps := ["_law_error"]) X G a10 l10 c10 k10 fun _ _ _ _ _ _ us hl => match us, hl with | [_], _ => rfl
  have N11 := Kn.mk' (st := sL_said) (ps := ["_law_one", "_law_other"]) X G a11 l11 c11 k11 fun _ _ _ _ _ _ us hl => match us, hl with | [_, _], _ => rfl
  have N12 := Kn.mk' (st := sis_fraction) (ps := ["thing"]) X G a12 l12 c12 k12 fun _ _ _ _ _ _ us hl => match us, hl with | [_], _ => rfl
  have N13 := Kn.mk' (st := sL_truths_right) (ps := []) X G a13 l13 c13 k13 fun _ _ _ _ _ _ us hl => match us, hl with | [], _ => rfl
  have N14 := Kn.mk' (st := sL_great_right) (ps := []) X G a14 l14 c14 k14 fun _ _ _ _ _ _ us hl => match us, hl with | [], _ => rfl
  have N15 := Kn.mk' (st := sL_whole_by) (ps := ["_law_stream_here"]) X G a15 l15 c15 k15 fun _ _ _ _ _ _ us hl => match us, hl with | [_], _ => rfl
  have N16 := Kn.mk' (st := sL_far_by) (ps := ["_law_stream_here"]) X G a16 l16 c16 k16 fun _ _ _ _ _ _ us hl => match us, hl with | [_], _ => rfl
  have N17 := Kn.mk' (st := sL_part) (ps := ["_law_one", "_law_other"]) X G a17 l17 c17 k17 fun _ _ _ _ _ _ us hl => match us, hl with | [_, _], _ => rfl
  have N18 := Kn.mk' (st := sL_lowest) (ps := ["_law_above", "_law_below"]) X G a18 l18 c18 k18 fun _ _ _ _ _ _ us hl => match us, hl with | [_, _], _ => rfl
  have N19 := Kn.mk' (st := sL_is) (ps := ["_law_thing"]) X G a19 l19 c19 k19 fun _ _ _ _ _ _ us hl => match us, hl with | [_], _ => rfl
  have N20 := Kn.mk' (st := slaw) (ps := ["_law_script"]) X G a20 l20 c20 k20 fun _ _ _ _ _ _ us hl => match us, hl with | [_], _ => rfl
  have B : Bt mg := ⟨PySem.W.mg_none_of X G z_ValueError, PySem.W.mg_none_of X G z_abs, PySem.W.mg_none_of X G z_all, PySem.W.mg_none_of X G z_bool, PySem.W.mg_none_of X G z_enumerate, PySem.W.mg_none_of X G z_int, PySem.W.mg_none_of X G z_isinstance, PySem.W.mg_none_of X G z_len, PySem.W.mg_none_of X G z_list, PySem.W.mg_none_of X G z_range, PySem.W.mg_none_of X G z_repr, PySem.W.mg_none_of X G z_str, PySem.W.mg_none_of X G z_tuple⟩
  have G_TowerError : mg "TowerError" = some (.ref ((MofX [C0, C1, C2, C3, C4, C5, C6, C7, C8, C9, C10, C11, C12, C13, C14, C15, C16, C17, C18] [] false [] [[], [], [], ["place"], [], [], [], [], ["row"], ["place"], ["word", "line"], [], [], [], ["other", "one"], [], [], [], []]).cls 0)) := PySem.W.mg_of X G gc0
  have G_BadKind : mg "BadKind" = some (.ref ((MofX [C0, C1, C2, C3, C4, C5, C6, C7, C8, C9, C10, C11, C12, C13, C14, C15, C16, C17, C18] [] false [] [[], [], [], ["place"], [], [], [], [], ["row"], ["place"], ["word", "line"], [], [], [], ["other", "one"], [], [], [], []]).cls 1)) := PySem.W.mg_of X G gc1
  have G_BadWorth : mg "BadWorth" = some (.ref ((MofX [C0, C1, C2, C3, C4, C5, C6, C7, C8, C9, C10, C11, C12, C13, C14, C15, C16, C17, C18] [] false [] [[], [], [], ["place"], [], [], [], [], ["row"], ["place"], ["word", "line"], [], [], [], ["other", "one"], [], [], [], []]).cls 2)) := PySem.W.mg_of X G gc2
  have G_BadTower : mg "BadTower" = some (.ref ((MofX [C0, C1, C2, C3, C4, C5, C6, C7, C8, C9, C10, C11, C12, C13, C14, C15, C16, C17, C18] [] false [] [[], [], [], ["place"], [], [], [], [], ["row"], ["place"], ["word", "line"], [], [], [], ["other", "one"], [], [], [], []]).cls 3)) := PySem.W.mg_of X G gc3
  have G_BadWay : mg "BadWay" = some (.ref ((MofX [C0, C1, C2, C3, C4, C5, C6, C7, C8, C9, C10, C11, C12, C13, C14, C15, C16, C17, C18] [] false [] [[], [], [], ["place"], [], [], [], [], ["row"], ["place"], ["word", "line"], [], [], [], ["other", "one"], [], [], [], []]).cls 4)) := PySem.W.mg_of X G gc4
  have G_BadNumber : mg "BadNumber" = some (.ref ((MofX [C0, C1, C2, C3, C4, C5, C6, C7, C8, C9, C10, C11, C12, C13, C14, C15, C16, C17, C18] [] false [] [[], [], [], ["place"], [], [], [], [], ["row"], ["place"], ["word", "line"], [], [], [], ["other", "one"], [], [], [], []]).cls 5)) := PySem.W.mg_of X G gc5
  have G_BadName : mg "BadName" = some (.ref ((MofX [C0, C1, C2, C3, C4, C5, C6, C7, C8, C9, C10, C11, C12, C13, C14, C15, C16, C17, C18] [] false [] [[], [], [], ["place"], [], [], [], [], ["row"], ["place"], ["word", "line"], [], [], [], ["other", "one"], [], [], [], []]).cls 6)) := PySem.W.mg_of X G gc6
  have G_BadTerm : mg "BadTerm" = some (.ref ((MofX [C0, C1, C2, C3, C4, C5, C6, C7, C8, C9, C10, C11, C12, C13, C14, C15, C16, C17, C18] [] false [] [[], [], [], ["place"], [], [], [], [], ["row"], ["place"], ["word", "line"], [], [], [], ["other", "one"], [], [], [], []]).cls 7)) := PySem.W.mg_of X G gc7
  have G_BadProgram : mg "BadProgram" = some (.ref ((MofX [C0, C1, C2, C3, C4, C5, C6, C7, C8, C9, C10, C11, C12, C13, C14, C15, C16, C17, C18] [] false [] [[], [], [], ["place"], [], [], [], [], ["row"], ["place"], ["word", "line"], [], [], [], ["other", "one"], [], [], [], []]).cls 8)) := PySem.W.mg_of X G gc8
  have G_BadPaper : mg "BadPaper" = some (.ref ((MofX [C0, C1, C2, C3, C4, C5, C6, C7, C8, C9, C10, C11, C12, C13, C14, C15, C16, C17, C18] [] false [] [[], [], [], ["place"], [], [], [], [], ["row"], ["place"], ["word", "line"], [], [], [], ["other", "one"], [], [], [], []]).cls 9)) := PySem.W.mg_of X G gc9
  have G_BadText : mg "BadText" = some (.ref ((MofX [C0, C1, C2, C3, C4, C5, C6, C7, C8, C9, C10, C11, C12, C13, C14, C15, C16, C17, C18] [] false [] [[], [], [], ["place"], [], [], [], [], ["row"], ["place"], ["word", "line"], [], [], [], ["other", "one"], [], [], [], []]).cls 10)) := PySem.W.mg_of X G gc10
  have G_BadLine : mg "BadLine" = some (.ref ((MofX [C0, C1, C2, C3, C4, C5, C6, C7, C8, C9, C10, C11, C12, C13, C14, C15, C16, C17, C18] [] false [] [[], [], [], ["place"], [], [], [], [], ["row"], ["place"], ["word", "line"], [], [], [], ["other", "one"], [], [], [], []]).cls 11)) := PySem.W.mg_of X G gc11
  have G_NoDeed : mg "NoDeed" = some (.ref ((MofX [C0, C1, C2, C3, C4, C5, C6, C7, C8, C9, C10, C11, C12, C13, C14, C15, C16, C17, C18] [] false [] [[], [], [], ["place"], [], [], [], [], ["row"], ["place"], ["word", "line"], [], [], [], ["other", "one"], [], [], [], []]).cls 12)) := PySem.W.mg_of X G gc12
  have G_NoKind : mg "NoKind" = some (.ref ((MofX [C0, C1, C2, C3, C4, C5, C6, C7, C8, C9, C10, C11, C12, C13, C14, C15, C16, C17, C18] [] false [] [[], [], [], ["place"], [], [], [], [], ["row"], ["place"], ["word", "line"], [], [], [], ["other", "one"], [], [], [], []]).cls 13)) := PySem.W.mg_of X G gc13
  have G_TwoKinds : mg "TwoKinds" = some (.ref ((MofX [C0, C1, C2, C3, C4, C5, C6, C7, C8, C9, C10, C11, C12, C13, C14, C15, C16, C17, C18] [] false [] [[], [], [], ["place"], [], [], [], [], ["row"], ["place"], ["word", "line"], [], [], [], ["other", "one"], [], [], [], []]).cls 14)) := PySem.W.mg_of X G gc14
  have G_NoOrder : mg "NoOrder" = some (.ref ((MofX [C0, C1, C2, C3, C4, C5, C6, C7, C8, C9, C10, C11, C12, C13, C14, C15, C16, C17, C18] [] false [] [[], [], [], ["place"], [], [], [], [], ["row"], ["place"], ["word", "line"], [], [], [], ["other", "one"], [], [], [], []]).cls 15)) := PySem.W.mg_of X G gc15
  have G_ByNought : mg "ByNought" = some (.ref ((MofX [C0, C1, C2, C3, C4, C5, C6, C7, C8, C9, C10, C11, C12, C13, C14, C15, C16, C17, C18] [] false [] [[], [], [], ["place"], [], [], [], [], ["row"], ["place"], ["word", "line"], [], [], [], ["other", "one"], [], [], [], []]).cls 16)) := PySem.W.mg_of X G gc16
  have G_Lacking : mg "Lacking" = some (.ref ((MofX [C0, C1, C2, C3, C4, C5, C6, C7, C8, C9, C10, C11, C12, C13, C14, C15, C16, C17, C18] [] false [] [[], [], [], ["place"], [], [], [], [], ["row"], ["place"], ["word", "line"], [], [], [], ["other", "one"], [], [], [], []]).cls 17)) := PySem.W.mg_of X G gc17
  have G_TooGreat : mg "TooGreat" = some (.ref ((MofX [C0, C1, C2, C3, C4, C5, C6, C7, C8, C9, C10, C11, C12, C13, C14, C15, C16, C17, C18] [] false [] [[], [], [], ["place"], [], [], [], [], ["row"], ["place"], ["word", "line"], [], [], [], ["other", "one"], [], [], [], []]).cls 18)) := PySem.W.mg_of X G gc18
  have X_BadKind : XcF K ((MofX [C0, C1, C2, C3, C4, C5, C6, C7, C8, C9, C10, C11, C12, C13, C14, C15, C16, C17, C18] [] false [] [[], [], [], ["place"], [], [], [], [], ["row"], ["place"], ["word", "line"], [], [], [], ["other", "one"], [], [], [], []]).cls 1) := ⟨xe1, xk1, xs1, tc1⟩
  have X_BadWorth : XcF K ((MofX [C0, C1, C2, C3, C4, C5, C6, C7, C8, C9, C10, C11, C12, C13, C14, C15, C16, C17, C18] [] false [] [[], [], [], ["place"], [], [], [], [], ["row"], ["place"], ["word", "line"], [], [], [], ["other", "one"], [], [], [], []]).cls 2) := ⟨xe2, xk2, xs2, tc2⟩
  have X_BadWay : XcF K ((MofX [C0, C1, C2, C3, C4, C5, C6, C7, C8, C9, C10, C11, C12, C13, C14, C15, C16, C17, C18] [] false [] [[], [], [], ["place"], [], [], [], [], ["row"], ["place"], ["word", "line"], [], [], [], ["other", "one"], [], [], [], []]).cls 4) := ⟨xe4, xk4, xs4, tc4⟩
  have X_BadNumber : XcF K ((MofX [C0, C1, C2, C3, C4, C5, C6, C7, C8, C9, C10, C11, C12, C13, C14, C15, C16, C17, C18] [] false [] [[], [], [], ["place"], [], [], [], [], ["row"], ["place"], ["word", "line"], [], [], [], ["other", "one"], [], [], [], []]).cls 5) := ⟨xe5, xk5, xs5, tc5⟩
  have X_BadName : XcF K ((MofX [C0, C1, C2, C3, C4, C5, C6, C7, C8, C9, C10, C11, C12, C13, C14, C15, C16, C17, C18] [] false [] [[], [], [], ["place"], [], [], [], [], ["row"], ["place"], ["word", "line"], [], [], [], ["other", "one"], [], [], [], []]).cls 6) := ⟨xe6, xk6, xs6, tc6⟩
  have X_BadTerm : XcF K ((MofX [C0, C1, C2, C3, C4, C5, C6, C7, C8, C9, C10, C11, C12, C13, C14, C15, C16, C17, C18] [] false [] [[], [], [], ["place"], [], [], [], [], ["row"], ["place"], ["word", "line"], [], [], [], ["other", "one"], [], [], [], []]).cls 7) := ⟨xe7, xk7, xs7, tc7⟩
  have X_BadLine : XcF K ((MofX [C0, C1, C2, C3, C4, C5, C6, C7, C8, C9, C10, C11, C12, C13, C14, C15, C16, C17, C18] [] false [] [[], [], [], ["place"], [], [], [], [], ["row"], ["place"], ["word", "line"], [], [], [], ["other", "one"], [], [], [], []]).cls 11) := ⟨xe11, xk11, xs11, tc11⟩
  have X_NoDeed : XcF K ((MofX [C0, C1, C2, C3, C4, C5, C6, C7, C8, C9, C10, C11, C12, C13, C14, C15, C16, C17, C18] [] false [] [[], [], [], ["place"], [], [], [], [], ["row"], ["place"], ["word", "line"], [], [], [], ["other", "one"], [], [], [], []]).cls 12) := ⟨xe12, xk12, xs12, tc12⟩
  have X_NoKind : XcF K ((MofX [C0, C1, C2, C3, C4, C5, C6, C7, C8, C9, C10, C11, C12, C13, C14, C15, C16, C17, C18] [] false [] [[], [], [], ["place"], [], [], [], [], ["row"], ["place"], ["word", "line"], [], [], [], ["other", "one"], [], [], [], []]).cls 13) := ⟨xe13, xk13, xs13, tc13⟩
  have X_NoOrder : XcF K ((MofX [C0, C1, C2, C3, C4, C5, C6, C7, C8, C9, C10, C11, C12, C13, C14, C15, C16, C17, C18] [] false [] [[], [], [], ["place"], [], [], [], [], ["row"], ["place"], ["word", "line"], [], [], [], ["other", "one"], [], [], [], []]).cls 15) := ⟨xe15, xk15, xs15, tc15⟩
  have X_ByNought : XcF K ((MofX [C0, C1, C2, C3, C4, C5, C6, C7, C8, C9, C10, C11, C12, C13, C14, C15, C16, C17, C18] [] false [] [[], [], [], ["place"], [], [], [], [], ["row"], ["place"], ["word", "line"], [], [], [], ["other", "one"], [], [], [], []]).cls 16) := ⟨xe16, xk16, xs16, tc16⟩
  have X_Lacking : XcF K ((MofX [C0, C1, C2, C3, C4, C5, C6, C7, C8, C9, C10, C11, C12, C13, C14, C15, C16, C17, C18] [] false [] [[], [], [], ["place"], [], [], [], [], ["row"], ["place"], ["word", "line"], [], [], [], ["other", "one"], [], [], [], []]).cls 17) := ⟨xe17, xk17, xs17, tc17⟩
  have X_TooGreat : XcF K ((MofX [C0, C1, C2, C3, C4, C5, C6, C7, C8, C9, C10, C11, C12, C13, C14, C15, C16, C17, C18] [] false [] [[], [], [], ["place"], [], [], [], [], ["row"], ["place"], ["word", "line"], [], [], [], ["other", "one"], [], [], [], []]).cls 18) := ⟨xe18, xk18, xs18, tc18⟩
  have XT : SubOk K (MofX [C0, C1, C2, C3, C4, C5, C6, C7, C8, C9, C10, C11, C12, C13, C14, C15, C16, C17, C18] [] false [] [[], [], [], ["place"], [], [], [], [], ["row"], ["place"], ["word", "line"], [], [], [], ["other", "one"], [], [], [], []]) subT := sub_mkX (all_cl ⟨_, lc0, tc0, nc0, bc0⟩ (all_cl ⟨_, lc1, tc1, nc1, bc1⟩ (all_cl ⟨_, lc2, tc2, nc2, bc2⟩ (all_cl ⟨_, lc3, tc3, nc3, bc3⟩ (all_cl ⟨_, lc4, tc4, nc4, bc4⟩ (all_cl ⟨_, lc5, tc5, nc5, bc5⟩ (all_cl ⟨_, lc6, tc6, nc6, bc6⟩ (all_cl ⟨_, lc7, tc7, nc7, bc7⟩ (all_cl ⟨_, lc8, tc8, nc8, bc8⟩ (all_cl ⟨_, lc9, tc9, nc9, bc9⟩ (all_cl ⟨_, lc10, tc10, nc10, bc10⟩ (all_cl ⟨_, lc11, tc11, nc11, bc11⟩ (all_cl ⟨_, lc12, tc12, nc12, bc12⟩ (all_cl ⟨_, lc13, tc13, nc13, bc13⟩ (all_cl ⟨_, lc14, tc14, nc14, bc14⟩ (all_cl ⟨_, lc15, tc15, nc15, bc15⟩ (all_cl ⟨_, lc16, tc16, nc16, bc16⟩ (all_cl ⟨_, lc17, tc17, nc17, bc17⟩ (all_cl ⟨_, lc18, tc18, nc18, bc18⟩ all_cl0))))))))))))))))))) (all_row ⟨C1, cd1, rfl, lc1, nc1, ⟨xg1, xa1, xs1, xd1, xc1, xn, xt, xm1⟩, xv1, xo1, xr1⟩ (all_row ⟨C2, cd2, rfl, lc2, nc2, ⟨xg2, xa2, xs2, xd2, xc2, xn, xt, xm2⟩, xv2, xo2, xr2⟩ (all_row ⟨C3, cd3, rfl, lc3, nc3, ⟨xg3, xa3, xs3, xd3, xc3, xn, xt, xm3⟩, xv3, xo3, xr3⟩ (all_row ⟨C4, cd4, rfl, lc4, nc4, ⟨xg4, xa4, xs4, xd4, xc4, xn, xt, xm4⟩, xv4, xo4, xr4⟩ (all_row ⟨C5, cd5, rfl, lc5, nc5, ⟨xg5, xa5, xs5, xd5, xc5, xn, xt, xm5⟩, xv5, xo5, xr5⟩ (all_row ⟨C6, cd6, rfl, lc6, nc6, ⟨xg6, xa6, xs6, xd6, xc6, xn, xt, xm6⟩, xv6, xo6, xr6⟩ (all_row ⟨C7, cd7, rfl, lc7, nc7, ⟨xg7, xa7, xs7, xd7, xc7, xn, xt, xm7⟩, xv7, xo7, xr7⟩ (all_row ⟨C8, cd8, rfl, lc8, nc8, ⟨xg8, xa8, xs8, xd8, xc8, xn, xt, xm8⟩, xv8, xo8, xr8⟩ (all_row ⟨C9, cd9, rfl, lc9, nc9, ⟨xg9, xa9, xs9, xd9, xc9, xn, xt, xm9⟩, xv9, xo9, xr9⟩ (all_row ⟨C10, cd10, rfl, lc10, nc10, ⟨xg10, xa10, xs10, xd10, xc10, xn, xt, xm10⟩, xv10, xo10, xr10⟩ (all_row ⟨C11, cd11, rfl, lc11, nc11, ⟨xg11, xa11, xs11, xd11, xc11, xn, xt, xm11⟩, xv11, xo11, xr11⟩ (all_row ⟨C12, cd12, rfl, lc12, nc12, ⟨xg12, xa12, xs12, xd12, xc12, xn, xt, xm12⟩, xv12, xo12, xr12⟩ (all_row ⟨C13, cd13, rfl, lc13, nc13, ⟨xg13, xa13, xs13, xd13, xc13, xn, xt, xm13⟩, xv13, xo13, xr13⟩ (all_row ⟨C14, cd14, rfl, lc14, nc14, ⟨xg14, xa14, xs14, xd14, xc14, xn, xt, xm14⟩, xv14, xo14, xr14⟩ (all_row ⟨C15, cd15, rfl, lc15, nc15, ⟨xg15, xa15, xs15, xd15, xc15, xn, xt, xm15⟩, xv15, xo15, xr15⟩ (all_row ⟨C16, cd16, rfl, lc16, nc16, ⟨xg16, xa16, xs16, xd16, xc16, xn, xt, xm16⟩, xv16, xo16, xr16⟩ (all_row ⟨C17, cd17, rfl, lc17, nc17, ⟨xg17, xa17, xs17, xd17, xc17, xn, xt, xm17⟩, xv17, xo17, xr17⟩ (all_row ⟨C18, cd18, rfl, lc18, nc18, ⟨xg18, xa18, xs18, xd18, xc18, xn, xt, xm18⟩, xv18, xo18, xr18⟩ all_row0)))))))))))))))))) (by decide)
  have I_BadTower : ∀ base, Ini P w K (MofX [C0, C1, C2, C3, C4, C5, C6, C7, C8, C9, C10, C11, C12, C13, C14, C15, C16, C17, C18] [] false [] [[], [], [], ["place"], [], [], [], [], ["row"], ["place"], ["word", "line"], [], [], [], ["other", "one"], [], [], [], []]) mg base 3 1 "place" := fun base => Ini.of ox3 fi3 ti3 ⟨⟨_, _, _, _, _, _, _, _, _, rfl, li3, ci3⟩, ki3⟩ scI_BadTower no3_0 (Binds.all fun us hl => match us, hl with | [_, _], _ => rfl) rfl (fun cdv A outer s H E => bI_BadTower G_TowerError isg0 ird0 ifv0 cdv A outer s H E)
  have I_BadProgram : ∀ base, Ini P w K (MofX [C0, C1, C2, C3, C4, C5, C6, C7, C8, C9, C10, C11, C12, C13, C14, C15, C16, C17, C18] [] false [] [[], [], [], ["place"], [], [], [], [], ["row"], ["place"], ["word", "line"], [], [], [], ["other", "one"], [], [], [], []]) mg base 8 1 "row" := fun base => Ini.of ox8 fi8 ti8 ⟨⟨_, _, _, _, _, _, _, _, _, rfl, li8, ci8⟩, ki8⟩ scI_BadProgram no8_0 (Binds.all fun us hl => match us, hl with | [_, _], _ => rfl) rfl (fun cdv A outer s H E => bI_BadProgram G_TowerError isg0 ird0 ifv0 cdv A outer s H E)
  have I_BadPaper : ∀ base, Ini P w K (MofX [C0, C1, C2, C3, C4, C5, C6, C7, C8, C9, C10, C11, C12, C13, C14, C15, C16, C17, C18] [] false [] [[], [], [], ["place"], [], [], [], [], ["row"], ["place"], ["word", "line"], [], [], [], ["other", "one"], [], [], [], []]) mg base 9 1 "place" := fun base => Ini.of ox9 fi9 ti9 ⟨⟨_, _, _, _, _, _, _, _, _, rfl, li9, ci9⟩, ki9⟩ scI_BadPaper no9_0 (Binds.all fun us hl => match us, hl with | [_, _], _ => rfl) rfl (fun cdv A outer s H E => bI_BadPaper G_TowerError isg0 ird0 ifv0 cdv A outer s H E)
  have I_BadText : ∀ base, Ini2 P w K (MofX [C0, C1, C2, C3, C4, C5, C6, C7, C8, C9, C10, C11, C12, C13, C14, C15, C16, C17, C18] [] false [] [[], [], [], ["place"], [], [], [], [], ["row"], ["place"], ["word", "line"], [], [], [], ["other", "one"], [], [], [], []]) mg base 10 1 "line" "word" := fun base => Ini2.of ox10 fi10 ti10 ⟨⟨_, _, _, _, _, _, _, _, _, rfl, li10, ci10⟩, ki10⟩ scI_BadText no10_0 no10_1 (Binds.all fun us hl => match us, hl with | [_, _, _], _ => rfl) rfl (fun cdv A outer s H E => bI_BadText G_TowerError isg0 ird0 ifv0 cdv A outer s H E)
  have I_TwoKinds : ∀ base, Ini2 P w K (MofX [C0, C1, C2, C3, C4, C5, C6, C7, C8, C9, C10, C11, C12, C13, C14, C15, C16, C17, C18] [] false [] [[], [], [], ["place"], [], [], [], [], ["row"], ["place"], ["word", "line"], [], [], [], ["other", "one"], [], [], [], []]) mg base 14 1 "one" "other" := fun base => Ini2.of ox14 fi14 ti14 ⟨⟨_, _, _, _, _, _, _, _, _, rfl, li14, ci14⟩, ki14⟩ scI_TwoKinds no14_0 no14_1 (Binds.all fun us hl => match us, hl with | [_, _, _], _ => rfl) rfl (fun cdv A outer s H E => bI_TwoKinds G_TowerError isg0 ird0 ifv0 cdv A outer s H E)
  have FK_line : ∀ p ∈ ([(10, 1)] : List (Nat × Nat)), FldI K (MofX [C0, C1, C2, C3, C4, C5, C6, C7, C8, C9, C10, C11, C12, C13, C14, C15, C16, C17, C18] [] false [] [[], [], [], ["place"], [], [], [], [], ["row"], ["place"], ["word", "line"], [], [], [], ["other", "one"], [], [], [], []]) "line" p.1 p.2 := fun p hp => by
    simp only [List.mem_cons, List.not_mem_nil, or_false] at hp
    rcases hp with rfl
    · exact fldI1 ⟨xg10, xa10, xs10, xd10⟩ no10_0 rfl (by decide)
  have FK_one : ∀ p ∈ ([(14, 1)] : List (Nat × Nat)), FldI K (MofX [C0, C1, C2, C3, C4, C5, C6, C7, C8, C9, C10, C11, C12, C13, C14, C15, C16, C17, C18] [] false [] [[], [], [], ["place"], [], [], [], [], ["row"], ["place"], ["word", "line"], [], [], [], ["other", "one"], [], [], [], []]) "one" p.1 p.2 := fun p hp => by
    simp only [List.mem_cons, List.not_mem_nil, or_false] at hp
    rcases hp with rfl
    · exact fldI1 ⟨xg14, xa14, xs14, xd14⟩ no14_0 rfl (by decide)
  have FK_other : ∀ p ∈ ([(14, 0)] : List (Nat × Nat)), FldI K (MofX [C0, C1, C2, C3, C4, C5, C6, C7, C8, C9, C10, C11, C12, C13, C14, C15, C16, C17, C18] [] false [] [[], [], [], ["place"], [], [], [], [], ["row"], ["place"], ["word", "line"], [], [], [], ["other", "one"], [], [], [], []]) "other" p.1 p.2 := fun p hp => by
    simp only [List.mem_cons, List.not_mem_nil, or_false] at hp
    rcases hp with rfl
    · exact fldI0 ⟨xg14, xa14, xs14, xd14⟩ no14_1 rfl
  have FK_place : ∀ p ∈ ([(3, 0), (9, 0)] : List (Nat × Nat)), FldI K (MofX [C0, C1, C2, C3, C4, C5, C6, C7, C8, C9, C10, C11, C12, C13, C14, C15, C16, C17, C18] [] false [] [[], [], [], ["place"], [], [], [], [], ["row"], ["place"], ["word", "line"], [], [], [], ["other", "one"], [], [], [], []]) "place" p.1 p.2 := fun p hp => by
    simp only [List.mem_cons, List.not_mem_nil, or_false] at hp
    rcases hp with rfl | rfl
    · exact fldI0 ⟨xg3, xa3, xs3, xd3⟩ no3_0 rfl
    · exact fldI0 ⟨xg9, xa9, xs9, xd9⟩ no9_0 rfl
  have FK_row : ∀ p ∈ ([(8, 0)] : List (Nat × Nat)), FldI K (MofX [C0, C1, C2, C3, C4, C5, C6, C7, C8, C9, C10, C11, C12, C13, C14, C15, C16, C17, C18] [] false [] [[], [], [], ["place"], [], [], [], [], ["row"], ["place"], ["word", "line"], [], [], [], ["other", "one"], [], [], [], []]) "row" p.1 p.2 := fun p hp => by
    simp only [List.mem_cons, List.not_mem_nil, or_false] at hp
    rcases hp with rfl
    · exact fldI0 ⟨xg8, xa8, xs8, xd8⟩ no8_0 rfl
  have FK_word : ∀ p ∈ ([(10, 0)] : List (Nat × Nat)), FldI K (MofX [C0, C1, C2, C3, C4, C5, C6, C7, C8, C9, C10, C11, C12, C13, C14, C15, C16, C17, C18] [] false [] [[], [], [], ["place"], [], [], [], [], ["row"], ["place"], ["word", "line"], [], [], [], ["other", "one"], [], [], [], []]) "word" p.1 p.2 := fun p hp => by
    simp only [List.mem_cons, List.not_mem_nil, or_false] at hp
    rcases hp with rfl
    · exact fldI0 ⟨xg10, xa10, xs10, xd10⟩ no10_1 rfl
  refine ⟨(MofX [C0, C1, C2, C3, C4, C5, C6, C7, C8, C9, C10, C11, C12, C13, C14, C15, C16, C17, C18] [] false [] [[], [], [], ["place"], [], [], [], [], ["row"], ["place"], ["word", "line"], [], [], [], ["other", "one"], [], [], [], []]), PySem.W.fnOf "law" "law" (defArgs slaw) (defBody slaw) (defScope slaw)   .none kV20 dc20 pm20 an20 cv20 ct20, [], mk0_nil, rfl, rfl, rfl, fun s v => .of_eq rfl, fun base hb1 hb2 hmk hnd => ?_⟩
  have D_L_mixed := okL_mixed (P := P) (w := w) (M := (MofX [C0, C1, C2, C3, C4, C5, C6, C7, C8, C9, C10, C11, C12, C13, C14, C15, C16, C17, C18] [] false [] [[], [], [], ["place"], [], [], [], [], ["row"], ["place"], ["word", "line"], [], [], [], ["other", "one"], [], [], [], []])) (base := base) N0 rfl B
  have D_L_stream := okL_stream (P := P) (w := w) (M := (MofX [C0, C1, C2, C3, C4, C5, C6, C7, C8, C9, C10, C11, C12, C13, C14, C15, C16, C17, C18] [] false [] [[], [], [], ["place"], [], [], [], [], ["row"], ["place"], ["word", "line"], [], [], [], ["other", "one"], [], [], [], []])) (base := base) N1 rfl B D_L_mixed
  have D_L_take := okL_take (P := P) (w := w) (M := (MofX [C0, C1, C2, C3, C4, C5, C6, C7, C8, C9, C10, C11, C12, C13, C14, C15, C16, C17, C18] [] false [] [[], [], [], ["place"], [], [], [], [], ["row"], ["place"], ["word", "line"], [], [], [], ["other", "one"], [], [], [], []])) (base := base) N2 rfl B D_L_mixed
  have D_L_odd_by := okL_odd_by (P := P) (w := w) (M := (MofX [C0, C1, C2, C3, C4, C5, C6, C7, C8, C9, C10, C11, C12, C13, C14, C15, C16, C17, C18] [] false [] [[], [], [], ["place"], [], [], [], [], ["row"], ["place"], ["word", "line"], [], [], [], ["other", "one"], [], [], [], []])) (base := base) N3 rfl B D_L_take
  have D_L_classes := okL_classes (P := P) (w := w) (M := (MofX [C0, C1, C2, C3, C4, C5, C6, C7, C8, C9, C10, C11, C12, C13, C14, C15, C16, C17, C18] [] false [] [[], [], [], ["place"], [], [], [], [], ["row"], ["place"], ["word", "line"], [], [], [], ["other", "one"], [], [], [], []])) (base := base) N4 rfl B G_BadTower G_BadWorth G_BadKind G_BadName G_BadNumber G_BadWay G_BadPaper G_BadProgram G_BadTerm G_NoDeed G_BadLine G_BadText G_NoOrder G_TwoKinds G_NoKind G_TooGreat G_Lacking G_ByNought XT
  have D_L_classes_right := okL_classes_right (P := P) (w := w) (M := (MofX [C0, C1, C2, C3, C4, C5, C6, C7, C8, C9, C10, C11, C12, C13, C14, C15, C16, C17, C18] [] false [] [[], [], [], ["place"], [], [], [], [], ["row"], ["place"], ["word", "line"], [], [], [], ["other", "one"], [], [], [], []])) (base := base) N5 rfl B D_L_classes G_BadTerm G_BadName G_BadNumber G_BadWay G_BadTower G_BadWorth G_BadKind G_NoKind G_NoDeed G_BadLine G_BadText G_BadPaper G_BadProgram G_TooGreat G_Lacking G_ByNought G_NoOrder G_TwoKinds G_TowerError X_BadTerm X_BadName X_BadNumber X_BadWay X_BadWorth X_BadKind X_NoKind X_NoDeed X_BadLine X_TooGreat X_Lacking X_ByNought X_NoOrder (I_BadTower base) (I_BadText base) (I_BadPaper base) (I_BadProgram base) (I_TwoKinds base) FK_place FK_row FK_other FK_one FK_word FK_line XT
  have D_common_part := okcommon_part (P := P) (w := w) (M := (MofX [C0, C1, C2, C3, C4, C5, C6, C7, C8, C9, C10, C11, C12, C13, C14, C15, C16, C17, C18] [] false [] [[], [], [], ["place"], [], [], [], [], ["row"], ["place"], ["word", "line"], [], [], [], ["other", "one"], [], [], [], []])) (base := base) N6 rfl B
  have D_in_lowest := okin_lowest (P := P) (w := w) (M := (MofX [C0, C1, C2, C3, C4, C5, C6, C7, C8, C9, C10, C11, C12, C13, C14, C15, C16, C17, C18] [] false [] [[], [], [], ["place"], [], [], [], [], ["row"], ["place"], ["word", "line"], [], [], [], ["other", "one"], [], [], [], []])) (base := base) N7 rfl B D_common_part
  have D_is_whole := okis_whole (P := P) (w := w) (M := (MofX [C0, C1, C2, C3, C4, C5, C6, C7, C8, C9, C10, C11, C12, C13, C14, C15, C16, C17, C18] [] false [] [[], [], [], ["place"], [], [], [], [], ["row"], ["place"], ["word", "line"], [], [], [], ["other", "one"], [], [], [], []])) (base := base) N8 rfl B
  have D_fraction := okfraction (P := P) (w := w) (M := (MofX [C0, C1, C2, C3, C4, C5, C6, C7, C8, C9, C10, C11, C12, C13, C14, C15, C16, C17, C18] [] false [] [[], [], [], ["place"], [], [], [], [], ["row"], ["place"], ["word", "line"], [], [], [], ["other", "one"], [], [], [], []])) (base := base) N9 rfl B D_is_whole D_in_lowest G_BadNumber X_BadNumber
  have D_L_word := okL_word (P := P) (w := w) (M := (MofX [C0, C1, C2, C3, C4, C5, C6, C7, C8, C9, C10, C11, C12, C13, C14, C15, C16, C17, C18] [] false [] [[], [], [], ["place"], [], [], [], [], ["row"], ["place"], ["word", "line"], [], [], [], ["other", "one"], [], [], [], []])) (base := base) N10 rfl B G_BadText G_BadPaper G_BadProgram G_BadTerm G_BadName G_BadWay G_BadTower G_TooGreat G_Lacking G_NoOrder G_TwoKinds G_NoKind G_NoDeed G_BadLine G_BadWorth G_BadKind G_ByNought G_BadNumber XT
  have D_L_said := okL_said (P := P) (w := w) (M := (MofX [C0, C1, C2, C3, C4, C5, C6, C7, C8, C9, C10, C11, C12, C13, C14, C15, C16, C17, C18] [] false [] [[], [], [], ["place"], [], [], [], [], ["row"], ["place"], ["word", "line"], [], [], [], ["other", "one"], [], [], [], []])) (base := base) N11 rfl B D_fraction D_L_word G_TowerError XT
  have D_is_fraction := okis_fraction (P := P) (w := w) (M := (MofX [C0, C1, C2, C3, C4, C5, C6, C7, C8, C9, C10, C11, C12, C13, C14, C15, C16, C17, C18] [] false [] [[], [], [], ["place"], [], [], [], [], ["row"], ["place"], ["word", "line"], [], [], [], ["other", "one"], [], [], [], []])) (base := base) N12 rfl B D_is_whole D_common_part
  have D_L_truths_right := okL_truths_right (P := P) (w := w) (M := (MofX [C0, C1, C2, C3, C4, C5, C6, C7, C8, C9, C10, C11, C12, C13, C14, C15, C16, C17, C18] [] false [] [[], [], [], ["place"], [], [], [], [], ["row"], ["place"], ["word", "line"], [], [], [], ["other", "one"], [], [], [], []])) (base := base) N13 rfl B D_L_said D_is_fraction
  have D_L_great_right := okL_great_right (P := P) (w := w) (M := (MofX [C0, C1, C2, C3, C4, C5, C6, C7, C8, C9, C10, C11, C12, C13, C14, C15, C16, C17, C18] [] false [] [[], [], [], ["place"], [], [], [], [], ["row"], ["place"], ["word", "line"], [], [], [], ["other", "one"], [], [], [], []])) (base := base) N14 rfl B D_L_said D_is_fraction
  have D_L_whole_by := okL_whole_by (P := P) (w := w) (M := (MofX [C0, C1, C2, C3, C4, C5, C6, C7, C8, C9, C10, C11, C12, C13, C14, C15, C16, C17, C18] [] false [] [[], [], [], ["place"], [], [], [], [], ["row"], ["place"], ["word", "line"], [], [], [], ["other", "one"], [], [], [], []])) (base := base) N15 rfl B D_L_take
  have D_L_far_by := okL_far_by (P := P) (w := w) (M := (MofX [C0, C1, C2, C3, C4, C5, C6, C7, C8, C9, C10, C11, C12, C13, C14, C15, C16, C17, C18] [] false [] [[], [], [], ["place"], [], [], [], [], ["row"], ["place"], ["word", "line"], [], [], [], ["other", "one"], [], [], [], []])) (base := base) N16 rfl B D_L_whole_by D_L_take
  have D_L_part := okL_part (P := P) (w := w) (M := (MofX [C0, C1, C2, C3, C4, C5, C6, C7, C8, C9, C10, C11, C12, C13, C14, C15, C16, C17, C18] [] false [] [[], [], [], ["place"], [], [], [], [], ["row"], ["place"], ["word", "line"], [], [], [], ["other", "one"], [], [], [], []])) (base := base) N17 rfl B
  have D_L_lowest := okL_lowest (P := P) (w := w) (M := (MofX [C0, C1, C2, C3, C4, C5, C6, C7, C8, C9, C10, C11, C12, C13, C14, C15, C16, C17, C18] [] false [] [[], [], [], ["place"], [], [], [], [], ["row"], ["place"], ["word", "line"], [], [], [], ["other", "one"], [], [], [], []])) (base := base) N18 rfl B D_L_part
  have D_L_is := okL_is (P := P) (w := w) (M := (MofX [C0, C1, C2, C3, C4, C5, C6, C7, C8, C9, C10, C11, C12, C13, C14, C15, C16, C17, C18] [] false [] [[], [], [], ["place"], [], [], [], [], ["row"], ["place"], ["word", "line"], [], [], [], ["other", "one"], [], [], [], []])) (base := base) N19 rfl B D_L_part
  exact okFlaw (P := P) (w := w) (M := (MofX [C0, C1, C2, C3, C4, C5, C6, C7, C8, C9, C10, C11, C12, C13, C14, C15, C16, C17, C18] [] false [] [[], [], [], ["place"], [], [], [], [], ["row"], ["place"], ["word", "line"], [], [], [], ["other", "one"], [], [], [], []])) (base := base) N20 rfl B D_L_classes_right D_L_truths_right D_L_great_right D_L_stream D_L_far_by D_L_take D_L_lowest D_L_said D_L_whole_by D_L_odd_by D_is_fraction D_L_is

end Sm
namespace Sm
open PySem PySem.Spec PyProof.Rows L2
local macro_rules | `(tactic| walk_at "sme1") => `(tactic| (with_reducible first
  | refine Rule.out ?_ | (refine g_br ?_; first | refine br_tt (by with_unfolding_all rfl) ?_ | refine br_ff (by with_unfolding_all rfl) ?_)
  | (refine g_ex ?_; first | refine ex_var (by with_unfolding_all rfl) ?_ | refine ex_put (by with_unfolding_all rfl) ?_ | refine ex_r1 (by exact isSm_of (by omega) (by omega)) ?_ | refine ex_r2 (by exact isSm_of (by omega) (by omega)) (by exact isSm_of (by omega) (by omega)) ?_ | refine ex_md (by with_unfolding_all rfl) ?_ | refine ex_g2 (by exact rgOkB_of (by omega) (by omega) (by omega) (by omega)) ?_)
  | (refine g_and ?_; first | refine and_len (by with_unfolding_all rfl) ?_ | refine and_lens (by with_unfolding_all rfl) ?_ | refine and_ty (by first | with_unfolding_all rfl | exact hasTy_l (by assumption)) ?_ | refine and_g (by exact rgOkB_of (by omega) (by omega) (by omega) (by omega)) ?_ | refine and_b (by with_unfolding_all rfl) ?_ | refine sgL_len (by assumption) ?_)
  | (refine HasC.go ?_; first | refine o_frz (by with_unfolding_all rfl) ?_ | refine o_ixL (by assumption) (by with_unfolding_all rfl) ?_ | refine o_ixl (by with_unfolding_all rfl) ?_ | refine o_ixt (by with_unfolding_all rfl) ?_ | refine o_finS (by with_unfolding_all rfl) ?_ | refine o_fin (by with_unfolding_all rfl) ?_ | refine e_len (by with_unfolding_all rfl) ?_ | refine e_in (by with_unfolding_all rfl) ?_ | refine e_eq (by with_unfolding_all rfl) ?_ | refine e_ne (by with_unfolding_all rfl) ?_ | refine e_is (by with_unfolding_all rfl) ?_ | refine e_isi (by with_unfolding_all rfl) ?_ | refine e_isX (by with_unfolding_all rfl) ?_ | refine o_mul (by exact cMul64 (by omega) (by omega)) ?_ | refine o_fdiv (by first | exact cDiv64 (by omega) (by omega) | with_unfolding_all rfl) ?_ | refine o_pow (by first | exact cPow64 (by omega) (by omega) (by omega) | with_unfolding_all rfl) ?_ | refine o_disp (by with_unfolding_all rfl) ?_ | refine o_dispd (by with_unfolding_all rfl) ?_ | refine o_lenS (by assumption) ?_ | refine o_cutS (by assumption) ?_ | refine o_aug (by with_unfolding_all rfl) ?_ | refine o_lam ?_)))
local macro_rules | `(tactic| walk_at "sme") => `(tactic| repeat (with_reducible first
  | refine Rule.out ?_ | (refine g_br ?_; first | refine br_tt (by with_unfolding_all rfl) ?_ | refine br_ff (by with_unfolding_all rfl) ?_)
  | (refine g_ex ?_; first | refine ex_var (by with_unfolding_all rfl) ?_ | refine ex_put (by with_unfolding_all rfl) ?_ | refine ex_r1 (by exact isSm_of (by omega) (by omega)) ?_ | refine ex_r2 (by exact isSm_of (by omega) (by omega)) (by exact isSm_of (by omega) (by omega)) ?_ | refine ex_md (by with_unfolding_all rfl) ?_ | refine ex_g2 (by exact rgOkB_of (by omega) (by omega) (by omega) (by omega)) ?_)
  | (refine g_and ?_; first | refine and_len (by with_unfolding_all rfl) ?_ | refine and_lens (by with_unfolding_all rfl) ?_ | refine and_ty (by first | with_unfolding_all rfl | exact hasTy_l (by assumption)) ?_ | refine and_g (by exact rgOkB_of (by omega) (by omega) (by omega) (by omega)) ?_ | refine and_b (by with_unfolding_all rfl) ?_ | refine sgL_len (by assumption) ?_)
  | (refine HasC.go ?_; first | refine o_frz (by with_unfolding_all rfl) ?_ | refine o_ixL (by assumption) (by with_unfolding_all rfl) ?_ | refine o_ixl (by with_unfolding_all rfl) ?_ | refine o_ixt (by with_unfolding_all rfl) ?_ | refine o_finS (by with_unfolding_all rfl) ?_ | refine o_fin (by with_unfolding_all rfl) ?_ | refine e_len (by with_unfolding_all rfl) ?_ | refine e_in (by with_unfolding_all rfl) ?_ | refine e_eq (by with_unfolding_all rfl) ?_ | refine e_ne (by with_unfolding_all rfl) ?_ | refine e_is (by with_unfolding_all rfl) ?_ | refine e_isi (by with_unfolding_all rfl) ?_ | refine e_isX (by with_unfolding_all rfl) ?_ | refine o_mul (by exact cMul64 (by omega) (by omega)) ?_ | refine o_fdiv (by first | exact cDiv64 (by omega) (by omega) | with_unfolding_all rfl) ?_ | refine o_pow (by first | exact cPow64 (by omega) (by omega) (by omega) | with_unfolding_all rfl) ?_ | refine o_disp (by with_unfolding_all rfl) ?_ | refine o_dispd (by with_unfolding_all rfl) ?_ | refine o_lenS (by assumption) ?_ | refine o_cutS (by assumption) ?_ | refine o_aug (by with_unfolding_all rfl) ?_ | refine o_lam ?_)))
local macro_rules | `(tactic| walk_at "sm") => `(tactic| (with_reducible first
  | refine Rule.out ?_ | refine RuleS.out ?_ | (refine g_br ?_; first | refine br_tt (by with_unfolding_all rfl) ?_ | refine br_ff (by with_unfolding_all rfl) ?_)
  | (refine g_ex ?_; first | refine ex_var (by with_unfolding_all rfl) ?_ | refine ex_put (by with_unfolding_all rfl) ?_ | refine ex_r1 (by exact isSm_of (by omega) (by omega)) ?_ | refine ex_r2 (by exact isSm_of (by omega) (by omega)) (by exact isSm_of (by omega) (by omega)) ?_ | refine ex_md (by with_unfolding_all rfl) ?_ | refine ex_g2 (by exact rgOkB_of (by omega) (by omega) (by omega) (by omega)) ?_)
  | (refine g_and ?_; first | refine and_len (by with_unfolding_all rfl) ?_ | refine and_lens (by with_unfolding_all rfl) ?_ | refine and_ty (by first | with_unfolding_all rfl | exact hasTy_l (by assumption)) ?_ | refine and_g (by exact rgOkB_of (by omega) (by omega) (by omega) (by omega)) ?_ | refine and_b (by with_unfolding_all rfl) ?_ | refine sgL_len (by assumption) ?_)
  | (refine HasC.go ?_; first | refine o_frz (by with_unfolding_all rfl) ?_ | refine o_ixL (by assumption) (by with_unfolding_all rfl) ?_ | refine o_ixl (by with_unfolding_all rfl) ?_ | refine o_ixt (by with_unfolding_all rfl) ?_ | refine o_finS (by with_unfolding_all rfl) ?_ | refine o_fin (by with_unfolding_all rfl) ?_ | refine e_len (by with_unfolding_all rfl) ?_ | refine e_in (by with_unfolding_all rfl) ?_ | refine e_eq (by with_unfolding_all rfl) ?_ | refine e_ne (by with_unfolding_all rfl) ?_ | refine e_is (by with_unfolding_all rfl) ?_ | refine e_isi (by with_unfolding_all rfl) ?_ | refine e_isX (by with_unfolding_all rfl) ?_ | refine o_mul (by exact cMul64 (by omega) (by omega)) ?_ | refine o_fdiv (by first | exact cDiv64 (by omega) (by omega) | with_unfolding_all rfl) ?_ | refine o_pow (by first | exact cPow64 (by omega) (by omega) (by omega) | with_unfolding_all rfl) ?_ | refine o_disp (by with_unfolding_all rfl) ?_ | refine o_dispd (by with_unfolding_all rfl) ?_ | refine o_lenS (by assumption) ?_ | refine o_cutS (by assumption) ?_ | refine o_aug (by with_unfolding_all rfl) ?_ | refine o_lam ?_)))
local macro_rules | `(tactic| walk_at "sms") => `(tactic| repeat (with_reducible first
  | refine Rule.out ?_ | refine RuleS.out ?_ | (refine g_br ?_; first | refine br_tt (by with_unfolding_all rfl) ?_ | refine br_ff (by with_unfolding_all rfl) ?_)
  | (refine g_ex ?_; first | refine ex_var (by with_unfolding_all rfl) ?_ | refine ex_put (by with_unfolding_all rfl) ?_ | refine ex_r1 (by exact isSm_of (by omega) (by omega)) ?_ | refine ex_r2 (by exact isSm_of (by omega) (by omega)) (by exact isSm_of (by omega) (by omega)) ?_ | refine ex_md (by with_unfolding_all rfl) ?_ | refine ex_g2 (by exact rgOkB_of (by omega) (by omega) (by omega) (by omega)) ?_)
  | (refine g_and ?_; first | refine and_len (by with_unfolding_all rfl) ?_ | refine and_lens (by with_unfolding_all rfl) ?_ | refine and_ty (by first | with_unfolding_all rfl | exact hasTy_l (by assumption)) ?_ | refine and_g (by exact rgOkB_of (by omega) (by omega) (by omega) (by omega)) ?_ | refine and_b (by with_unfolding_all rfl) ?_ | refine sgL_len (by assumption) ?_)
  | (refine HasC.go ?_; first | refine o_frz (by with_unfolding_all rfl) ?_ | refine o_ixL (by assumption) (by with_unfolding_all rfl) ?_ | refine o_ixl (by with_unfolding_all rfl) ?_ | refine o_ixt (by with_unfolding_all rfl) ?_ | refine o_finS (by with_unfolding_all rfl) ?_ | refine o_fin (by with_unfolding_all rfl) ?_ | refine e_len (by with_unfolding_all rfl) ?_ | refine e_in (by with_unfolding_all rfl) ?_ | refine e_eq (by with_unfolding_all rfl) ?_ | refine e_ne (by with_unfolding_all rfl) ?_ | refine e_is (by with_unfolding_all rfl) ?_ | refine e_isi (by with_unfolding_all rfl) ?_ | refine e_isX (by with_unfolding_all rfl) ?_ | refine o_mul (by exact cMul64 (by omega) (by omega)) ?_ | refine o_fdiv (by first | exact cDiv64 (by omega) (by omega) | with_unfolding_all rfl) ?_ | refine o_pow (by first | exact cPow64 (by omega) (by omega) (by omega) | with_unfolding_all rfl) ?_ | refine o_disp (by with_unfolding_all rfl) ?_ | refine o_dispd (by with_unfolding_all rfl) ?_ | refine o_lenS (by assumption) ?_ | refine o_cutS (by assumption) ?_ | refine o_aug (by with_unfolding_all rfl) ?_ | refine o_lam ?_)))

section
variable {S S0 : Sto} {P : D → Sto → Prop} {E : D → Sto → Prop} {n : Nat} {m : Int}
theorem common_part_ok {a b : Int} (hb : b.natAbs < 10 ^ 3990) (h : P (.int (Int.gcd a b)) S) : OKR (fcommon_part [.int a, .int b] S) P E := by
  refine o_fn rfl ?_
  unfold bcommon_part
  walk_at "sms"
  refine o_while (fun k env S1 => S1 = S ∧ ∃ x y : Nat, env = [some (.int x), some (.int y)] ∧ Nat.gcd x y = Int.gcd a b ∧ k = y) ?_ b.natAbs _ _ (fuel_ok hb) ⟨rfl, a.natAbs, b.natAbs, rfl, rfl, rfl⟩
  rintro k env S1 ⟨rfl, x, y, rfl, hg, rfl⟩
  unfold bcommon_part_t0
  walk_at "sme"
  refine br_dec (fun h1 => ?_) fun h1 => ?_
  · have e : k = 0 := by omega
    subst e
    walk_at "sms"
    rw [Nat.gcd_zero_right] at hg
    rw [hg]
    exact h
  · unfold bcommon_part_w1
    walk_at "sms"
    refine o_mod (cMod_ne h1) ?_
    walk_at "sms"
    refine ⟨x % k, Nat.mod_lt _ (by omega), rfl, k, x % k, ?_, ?_, rfl⟩
    · rw [nat_fmod]
      rfl
    · rw [← hg, Nat.gcd_comm x k, Nat.gcd_rec k x, Nat.gcd_comm]
end

theorem cDivN {i j : Int} (a : Nat) (h0 : j ≠ 0) (hi : i.natAbs < 10 ^ a) (h : 4 * a < 13000) : cDiv i j = true := by
  unfold cDiv
  rw [decide_eq_true h0]
  have e : i.natAbs < 2 ^ (4 * a) := Nat.lt_of_lt_of_le hi (ten_two a)
  have l := log2_le e
  have key : Builtin.divisionGoesByPylong i j = false := by
    show (decide ((if j == 0 then 0 else j.natAbs.log2 / 30 + 1) > 300) && decide ((if i == 0 then 0 else i.natAbs.log2 / 30 + 1) > (if j == 0 then 0 else j.natAbs.log2 / 30 + 1) + 150)) = false
    have hd : (if i == 0 then 0 else i.natAbs.log2 / 30 + 1) ≤ 434 := by
      split
      · omega
      · omega
    generalize (if j == 0 then 0 else j.natAbs.log2 / 30 + 1) = y
    by_cases c : y > 300
    · rw [decide_eq_false (show ¬ _ > y + 150 by omega), Bool.and_false]
    · rw [decide_eq_false c, Bool.false_and]
  rw [key]
  rfl
/-! fractions told shortest -/
def lg (x y : Int) : Int := if y < 0 then -(Int.gcd x y : Int) else (Int.gcd x y : Int)
def lowA (x y : Int) : Int := x.fdiv (lg x y)
def lowB (x y : Int) : Int := y.fdiv (lg x y)
def lowD (x y : Int) : D := .tup [.int (lowA x y), .int (lowB x y)]
theorem gcd_pos' {x y : Int} (h : y ≠ 0) : 0 < Int.gcd x y := Nat.pos_of_ne_zero fun e => h (Int.gcd_eq_zero_iff.mp e).2
theorem lg_ne {x y : Int} (h : y ≠ 0) : lg x y ≠ 0 := by
  have := gcd_pos' (x := x) h
  unfold lg
  split <;> omega
theorem lg_dvd (x y : Int) : lg x y ∣ x ∧ lg x y ∣ y := by
  unfold lg
  split
  · exact ⟨Int.neg_dvd.mpr (Int.gcd_dvd_left ..), Int.neg_dvd.mpr (Int.gcd_dvd_right ..)⟩
  · exact ⟨Int.gcd_dvd_left .., Int.gcd_dvd_right ..⟩
theorem lg_abs (x y : Int) : (lg x y).natAbs = Int.gcd x y := by
  unfold lg
  split <;> omega
theorem low_mul (x y : Int) : lowA x y * lg x y = x ∧ lowB x y * lg x y = y := ⟨Int.fdiv_mul_cancel (lg_dvd x y).1, Int.fdiv_mul_cancel (lg_dvd x y).2⟩
theorem lowB_pos {x y : Int} (h : y ≠ 0) : 0 < lowB x y := by
  have e := (low_mul x y).2
  have hg := gcd_pos' (x := x) h
  refine Classical.byContradiction fun c => ?_
  by_cases hy : y < 0
  · have h1 : lg x y < 0 := by
      unfold lg
      rw [if_pos hy]
      omega
    have := Int.mul_nonneg_of_nonpos_of_nonpos (show lowB x y ≤ 0 by omega) (show lg x y ≤ 0 by omega)
    omega
  · have h1 : 0 < lg x y := by
      unfold lg
      rw [if_neg hy]
      omega
    have := Int.mul_nonpos_of_nonpos_of_nonneg (show lowB x y ≤ 0 by omega) (show 0 ≤ lg x y by omega)
    omega
theorem nab_le {a b c : Int} (e : a * b = c) (h : b ≠ 0) : a.natAbs ≤ c.natAbs := by
  rw [← e, Int.natAbs_mul]
  exact Nat.le_mul_of_pos_right _ (Int.natAbs_pos.mpr h)
theorem lowA_le {x y : Int} (h : y ≠ 0) : (lowA x y).natAbs ≤ x.natAbs := nab_le (low_mul x y).1 (lg_ne h)
theorem lowB_le {x y : Int} (h : y ≠ 0) : (lowB x y).natAbs ≤ y.natAbs := nab_le (low_mul x y).2 (lg_ne h)
theorem gcd_le {x y : Int} (h : y ≠ 0) : Int.gcd x y ≤ y.natAbs := Nat.le_of_dvd (Int.natAbs_pos.mpr h) (Int.natAbs_dvd_natAbs.mpr (Int.gcd_dvd_right x y) |> fun q => by simpa using q)
theorem low_gcd {x y : Int} (h : y ≠ 0) : Int.gcd (lowA x y) (lowB x y) = 1 := by
  have e1 := (low_mul x y).1
  have e2 := (low_mul x y).2
  have hg := gcd_pos' (x := x) h
  have k : Int.gcd (lowA x y * lg x y) (lowB x y * lg x y) = Int.gcd (lowA x y) (lowB x y) * (lg x y).natAbs := Int.gcd_mul_right ..
  rw [e1, e2, lg_abs] at k
  exact Nat.eq_of_mul_eq_mul_right hg (by rw [← k, Nat.one_mul])
theorem low_cross (x y : Int) : lowA x y * y = x * lowB x y := by
  have e1 := (low_mul x y).1
  have e2 := (low_mul x y).2
  have q : lowA x y * (lowB x y * lg x y) = lowA x y * lg x y * lowB x y := by
    rw [Int.mul_assoc, Int.mul_comm (lg x y)]
  rw [e1, e2] at q
  exact q
theorem low_self {a b : Int} (hb : 0 < b) (h : Int.gcd a b = 1) : lowA a b = a ∧ lowB a b = b := by
  have e : lg a b = 1 := by
    unfold lg
    rw [if_neg (by omega), h]
    rfl
  unfold lowA lowB
  rw [e]
  exact ⟨Int.fdiv_one .., Int.fdiv_one ..⟩
section
variable {S S0 : Sto} {P : D → Sto → Prop} {E : D → Sto → Prop} {n : Nat} {m : Int}
theorem b3990 {k : Nat} (h : k < 10 ^ 3100) : k < 10 ^ 3990 := Nat.lt_of_lt_of_le h (Nat.pow_le_pow_right (n := 10) (i := 3100) (j := 3990) (show 0 < 10 by decide) (show 3100 ≤ 3990 by decide))
theorem b3900 {k : Nat} (h : k < 10 ^ 3100) : k < 10 ^ 3900 := Nat.lt_of_lt_of_le h (Nat.pow_le_pow_right (n := 10) (i := 3100) (j := 3900) (show 0 < 10 by decide) (show 3100 ≤ 3900 by decide))
theorem in_lowest_ok {x y : Int} (hy : y ≠ 0) (hx : x.natAbs < 10 ^ 3100) (hb : y.natAbs < 10 ^ 3100) (h : P (lowD x y) S) : OKR (fin_lowest [.int x, .int y] S) P E := by
  have gl : (Int.gcd x y : Int).natAbs < 10 ^ 3100 := by
    have := gcd_le (x := x) hy
    omega
  have gn := gcd_pos' (x := x) hy
  refine o_fn rfl ?_
  unfold bin_lowest
  walk_at "sms"
  refine common_part_ok (b3990 hb) ?_
  walk_at "sms"
  refine br_dec (fun h1 => ?_) fun h1 => ?_
  · walk_at "sms"
    refine o_fdiv (cDivN 3100 (by omega) (by omega) (by decide)) ?_
    walk_at "sms"
    refine o_fdiv (cDivN 3100 (by omega) (by omega) (by decide)) ?_
    walk_at "sms"
    have e : lg x y = 0 - (Int.gcd x y : Int) := by
      unfold lg
      rw [if_pos h1]
      omega
    unfold lowD lowA lowB at h
    rw [e] at h
    exact h
  · walk_at "sms"
    refine o_fdiv (cDivN 3100 (by omega) (by omega) (by decide)) ?_
    walk_at "sms"
    refine o_fdiv (cDivN 3100 (by omega) (by omega) (by decide)) ?_
    walk_at "sms"
    have e : lg x y = (Int.gcd x y : Int) := by
      unfold lg
      rw [if_neg h1]
    unfold lowD lowA lowB at h
    rw [e] at h
    exact h
end

section
variable {S S0 : Sto} {P : D → Sto → Prop} {E : D → Sto → Prop} {n : Nat} {m : Int}
theorem L_part_ok {a b : Int} (ha : a.natAbs < 10 ^ 3900) (hb : b.natAbs < 10 ^ 3900) (h : P (.int (Int.gcd a b)) S) : OKR (fL_part [.int a, .int b] S) P E := by
  refine o_fn rfl ?_
  unfold bL_part
  walk_at "sms"
  have hl : a.natAbs + b.natAbs < 10 ^ 3990 := by
    have h2 : 10 ^ 3900 + 10 ^ 3900 ≤ 10 ^ 3990 := by decide +kernel
    exact Nat.lt_of_lt_of_le (Nat.add_lt_add ha hb) h2
  refine o_while (fun k env S1 => S1 = S ∧ ∃ x y : Nat, env = [some (.int x), some (.int y)] ∧ Nat.gcd x y = Int.gcd a b ∧ k = x + y) ?_ (a.natAbs + b.natAbs) _ _ (fuel_ok hl) ⟨rfl, a.natAbs, b.natAbs, rfl, rfl, rfl⟩
  rintro k env S1 ⟨rfl, x, y, rfl, hg, rfl⟩
  have out : x = 0 ∨ y = 0 → OKS (retF (binF addD (varF 0) (varF 1)) [some (D.int x), some (D.int y)] S1) (fun _ S' => OKR (if true = true then fin S1.length .non S' else .ok .non S') P E) (fun _ _ => False) (fun _ _ => False) (fun d S' => OKR (if true = true then fin S1.length d S' else .ok d S') P E) (fun e _ S' => E e (S'.take S1.length)) := fun q => by
    walk_at "sms"
    have e : (x : Int) + (y : Int) = (Int.gcd a b : Int) := by
      rcases q with q | q
      · subst q
        rw [Nat.gcd_zero_left] at hg
        omega
      · subst q
        rw [Nat.gcd_zero_right] at hg
        omega
    rw [e]
    exact h
  unfold bL_part_t0
  walk_at "sme"
  refine br_dec (fun h1 => ?_) fun h1 => ?_
  · walk_at "sme"
    refine br_dec (fun h2 => ?_) fun h2 => ?_
    · unfold bL_part_w1
      walk_at "sms"
      refine br_dec (fun h3 => ?_) fun h3 => ?_
      · walk_at "sms"
        refine o_mod (cMod_ne (by omega)) ?_
        refine ⟨x % y + y, ?_, rfl, x % y, y, ?_, ?_, rfl⟩
        · have := Nat.mod_lt x (show 0 < y by omega)
          omega
        · rw [nat_fmod]
          rfl
        · rw [← hg, Nat.gcd_comm x y, Nat.gcd_rec y x]
      · walk_at "sms"
        refine o_mod (cMod_ne (by omega)) ?_
        refine ⟨x + y % x, ?_, rfl, x, y % x, ?_, ?_, rfl⟩
        · have := Nat.mod_lt y (show 0 < x by omega)
          omega
        · rw [nat_fmod]
          rfl
        · rw [← hg, Nat.gcd_rec x y, Nat.gcd_comm]
    · exact out (.inr (by omega))
  · walk_at "sme"
    exact out (.inl (by omega))
theorem L_lowest_ok {x y : Int} (hy : y ≠ 0) (hx : x.natAbs < 10 ^ 3100) (hb : y.natAbs < 10 ^ 3100) (h : P (lowD x y) S) : OKR (fL_lowest [.int x, .int y] S) P E := by
  have gl : (Int.gcd x y : Int).natAbs < 10 ^ 3100 := by
    have := gcd_le (x := x) hy
    omega
  have gn := gcd_pos' (x := x) hy
  refine o_fn rfl ?_
  unfold bL_lowest
  walk_at "sms"
  refine L_part_ok (b3900 hx) (b3900 hb) ?_
  walk_at "sms"
  refine br_dec (fun h1 => ?_) fun h1 => ?_
  · walk_at "sms"
    refine o_mul (cMulT 3100 1 gl (by decide) (by decide)) ?_
    rw [Int.mul_one]
    walk_at "sms"
    refine o_fdiv (cDivN 3100 (by omega) (by omega) (by decide)) ?_
    walk_at "sms"
    refine o_fdiv (cDivN 3100 (by omega) (by omega) (by decide)) ?_
    walk_at "sms"
    have e : lg x y = (Int.gcd x y : Int) := by
      unfold lg
      rw [if_neg (by omega)]
    unfold lowD lowA lowB at h
    rw [e] at h
    exact h
  · walk_at "sms"
    refine o_mul (cMulT 3100 1 gl (by decide) (by decide)) ?_
    have em : (Int.gcd x y : Int) * -1 = -(Int.gcd x y : Int) := by omega
    rw [em]
    walk_at "sms"
    refine o_fdiv (cDivN 3100 (by omega) (by omega) (by decide)) ?_
    walk_at "sms"
    refine o_fdiv (cDivN 3100 (by omega) (by omega) (by decide)) ?_
    walk_at "sms"
    have e : lg x y = -(Int.gcd x y : Int) := by
      unfold lg
      rw [if_pos (by omega)]
    unfold lowD lowA lowB at h
    rw [e] at h
    exact h
end

def strm (b : Bool) (c m x : Int) : Ob := .lst false [.bl b, .int c, .int m, .int x]
/-- a stream at n, of at most m takes; all else as in S0 -/
structure StE (S0 S : Sto) (n : Nat) (m : Int) : Prop where
  len : S.length = S0.length
  oth : ∀ j, j ≠ n → S[j]? = S0[j]?
  at_ : ∃ b c k x, S[n]? = some (strm b c k x) ∧ 0 ≤ k ∧ k ≤ m
section
variable {S S0 : Sto} {P : D → Sto → Prop} {E : D → Sto → Prop} {n : Nat} {m : Int}
theorem StE.refl {b : Bool} {c k x : Int} (h : S[n]? = some (strm b c k x)) (h0 : 0 ≤ k) (h1 : k ≤ m) : StE S S n m := ⟨rfl, fun _ _ => rfl, b, c, k, x, h, h0, h1⟩
theorem StE.put {b : Bool} {c k x : Int} (h : StE S0 S n m) (h0 : 0 ≤ k) (h1 : k ≤ m + 1) : StE S0 (S.set n (strm b c k x)) n (m + 1) := by
  obtain ⟨l, o, b', c', k', x', e, _, _⟩ := h
  exact ⟨by rw [set_len, l], fun j hj => (get_set_ne hj).trans (o j hj), b, c, k, x, get_set e, h0, h1⟩
theorem StE.up {m' : Int} (h : StE S0 S n m) (hm : m ≤ m') : StE S0 S n m' := by
  obtain ⟨l, o, b', c', k', x', e, h0, h1⟩ := h
  exact ⟨l, o, b', c', k', x', e, h0, by omega⟩
theorem mixed_ok {a k : Int} (h0 : 0 ≤ k) (h1 : k ≤ 1000000) (h : ∀ v : Int, P (.int v) S) : OKR (fL_mixed [.int a, .int k] S) P E := by
  refine o_fn rfl ?_
  unfold bL_mixed
  have q0 : 0 ≤ k * k := Int.mul_nonneg h0 h0
  have q1 : k * k ≤ 1000000 * 1000000 := Int.mul_le_mul h1 h1 h0 (by decide)
  have q2 : 7919 * k * k = 7919 * (k * k) := Int.mul_assoc ..
  walk_at "sms"
  refine o_modB (by decide) fun v0 hv0 hv1 => ?_
  walk_at "sms"
  refine o_modB (by decide) fun v1 hv2 hv3 => ?_
  walk_at "sms"
  refine o_modB (by decide) fun v2 hv4 hv5 => ?_
  walk_at "sms"
  exact h _
theorem StE.put' {S1 : Sto} {b b' : Bool} {c k x c' k' x' : Int} (h : StE S0 S n m) (hS : S1 = S.set n (strm b c k x)) (h0 : 0 ≤ k) (h1 : k ≤ m + 1) : StE S0 S1 n (m + 1) := by
  rw [hS]
  exact h.put h0 h1
theorem take_ok {many : Int} (st : StE S0 S n m) (hm : m ≤ 900000) (h0 : 0 < many) (h1 : many < 1000000000) (h : ∀ v S1, 0 ≤ v → v < many → StE S0 S1 n (m + 1) → P (.int v) S1) : OKR (fL_take [.ref n, .int many] S) P E := by
  obtain ⟨b, c, k, x, e, k0, k1⟩ := st.at_
  have g := getL_ref e
  refine o_fn rfl ?_
  unfold bL_take
  walk_at "sms"
  refine o_setL e rfl rfl fun S1 hS => ?_
  have st1 : StE S0 S1 n (m + 1) := by
    rw [hS]
    exact st.put (b := b) (c := c) (k := k + 1) (x := x) (by omega) (by omega)
  have e1 : S1[n]? = some (strm b c (k + 1) x) := by
    rw [hS]
    exact get_set e
  have g1 := getL_ref e1
  have l1 : S1.length = S.length := by
    rw [hS]
    exact set_len
  clear hS
  refine o_seq (o_if (OKR.any (S := S1) ?_ ?_ ?_))
  · walk_at "sms"
    refine br_any ?_ rfl
    walk_at "sms"
    refine br_any rfl ?_
    walk_at "sms"
    rfl
  · walk_at "sms"
    refine mixed_ok (by omega) (by omega) fun v => ?_
    walk_at "sms"
    refine o_modB h0 fun w hw0 hw1 => ?_
    walk_at "sms"
    rw [List.take_of_length_le (by omega)]
    exact h w S1 hw0 hw1 st1
  · walk_at "sms"
    refine o_modB h0 fun w hw0 hw1 => ?_
    walk_at "sms"
    refine o_setL e1 rfl rfl fun S2 hS => ?_
    walk_at "sms"
    have st2 : StE S0 S2 n (m + 1) := by
      obtain ⟨l, o, _⟩ := st1
      rw [hS]
      exact ⟨by rw [set_len, l], fun j hj => (get_set_ne hj).trans (o j hj), b, _, k + 1, x, get_set e1, by omega, by omega⟩
    rw [List.take_of_length_le (by
      rw [hS, set_len]
      omega)]
    exact h w S2 hw0 hw1 st2
theorem stream_ok {c k : Int} (h0 : 0 ≤ k) (h1 : k ≤ 1000000) (h : ∀ b x, P (.ref S.length) (S ++ [strm b c 0 x])) : OKR (fL_stream [.int c, .int k] S) P E := by
  refine o_fn rfl ?_
  unfold bL_stream
  walk_at "sms"
  refine mixed_ok h0 h1 fun v => ?_
  walk_at "sms"
  exact h _ _
theorem StE.cut' {S1 : Sto} {m' : Int} (h1 : StE S S1 n m') : S1.take S.length = S1 := List.take_of_length_le (by
  rw [h1.len]
  exact Nat.le_refl _)
theorem StE.trans {S1 : Sto} {m' : Int} (h : StE S0 S n m) (h1 : StE S S1 n m') : StE S0 S1 n m' := ⟨h1.len.trans h.len, fun j hj => (h1.oth j hj).trans (h.oth j hj), h1.at_⟩
theorem StE.self (h : StE S0 S n m) : StE S S n m := ⟨rfl, fun _ _ => rfl, h.at_⟩
theorem enumL_mem : ∀ (l : List D) (i : Nat), ∀ d ∈ enumL i l, ∃ (j : Nat) (x : D), d = .tup [.int j, x] ∧ j < i + l.length ∧ x ∈ l
  | [], _, d, h => by cases h
  | y :: l, i, d, h => by
    rcases List.mem_cons.mp h with rfl | h
    · exact ⟨i, y, rfl, by rw [List.length_cons]; omega, List.mem_cons_self ..⟩
    · obtain ⟨j, x, e1, e2, e3⟩ := enumL_mem l (i + 1) d h
      exact ⟨j, x, e1, by rw [List.length_cons]; omega, List.mem_cons_of_mem _ e3⟩
/-- the script's cells, numbered -/
theorem cells_mem {ns : List Int} (hl : ns.length ≤ 63) {d : D} (hd : d ∈ enumL 0 (cutL (ns.map D.int ++ [.int 0]) none (some 63))) : ∃ (j : Nat) (x : Int), d = .tup [.int j, .int x] ∧ j ≤ 63 := by
  obtain ⟨j, x, rfl, hj, hx⟩ := enumL_mem _ 0 d hd
  have hx2 := List.mem_of_mem_drop (List.mem_of_mem_take hx)
  have hj4 : (cutL (ns.map D.int ++ [D.int 0]) none (some ((63 : Nat) : Int))).length ≤ 63 := by
    rw [cut_take, List.length_take]
    omega
  have hj5 : j < 0 + (cutL (ns.map D.int ++ [D.int 0]) none (some ((63 : Nat) : Int))).length := hj
  rcases List.mem_append.mp hx2 with hx2 | hx2
  · obtain ⟨i, _, rfl⟩ := List.mem_map.mp hx2
    exact ⟨j, i, rfl, by omega⟩
  · rw [List.mem_singleton.mp hx2]
    exact ⟨j, 0, rfl, by omega⟩
end

section
variable {S S0 : Sto} {P : D → Sto → Prop} {E : D → Sto → Prop} {n : Nat} {m : Int}
theorem sgn_abs {u : Int} (h0 : 0 ≤ u) (h1 : u < 2) : 1 - 2 * u = 1 ∨ 1 - 2 * u = -1 := by omega
theorem whole_by_ok (st : StE S0 S n m) (hm : m ≤ 800000) (h : ∀ v S1, v.natAbs < 10 ^ 61 → StE S0 S1 n (m + 5) → P (.int v) S1) : OKR (fL_whole_by [.ref n] S) P E := by
  refine o_fn rfl ?_
  unfold bL_whole_by
  walk_at "sms"
  refine take_ok st.self (by omega) (by omega) (by omega) fun v S1 hv0 hv1 st1 => ?_
  walk_at "sms"
  refine br_dec (fun c1 => ?_) fun c1 => ?_
  · walk_at "sms"
    refine take_ok st1 (by omega) (by omega) (by omega) fun u S2 hu0 hu1 st2 => ?_
    walk_at "sms"
    rw [st2.cut']
    exact h _ _ (by omega) (st.trans (st2.up (by omega)))
  walk_at "sms"
  refine br_dec (fun c2 => ?_) fun c2 => ?_
  · walk_at "sms"
    refine take_ok st1 (by omega) (by omega) (by omega) fun u S2 hu0 hu1 st2 => ?_
    walk_at "sms"
    refine o_ixB hu0 hu1 fun d hd => ?_
    have hd2 : ∃ f : Int, d = .int f ∧ f.natAbs < 10 ^ 30 := by
      simp only [List.mem_cons, List.not_mem_nil, or_false] at hd
      rcases hd with rfl | rfl | rfl | rfl
      · exact ⟨_, rfl, by decide⟩
      · exact ⟨_, rfl, by decide⟩
      · exact ⟨_, rfl, by decide⟩
      · exact ⟨_, rfl, by decide⟩
    obtain ⟨f, rfl, hf⟩ := hd2
    walk_at "sms"
    refine take_ok st2 (by omega) (by omega) (by omega) fun t S3 ht0 ht1 st3 => ?_
    walk_at "sms"
    refine o_mul (cMulT 30 1 hf (by omega) (by decide)) ?_
    walk_at "sms"
    refine take_ok st3 (by omega) (by omega) (by omega) fun w S4 hw0 hw1 st4 => ?_
    walk_at "sms"
    rw [st4.cut']
    refine h _ _ ?_ (st.trans (st4.up (by omega)))
    rcases sgn_abs ht0 ht1 with e | e <;> rw [e] <;> omega
  · walk_at "sms"
    refine take_ok st1 (by omega) (by decide) (by decide) fun u S2 hu0 hu1 st2 => ?_
    walk_at "sms"
    have hu2 : u < 1000000 := hu1
    have e54 : (10 : Int) ^ Int.toNat 54 = 10 ^ 54 := rfl
    rw [e54]
    refine o_mul (cMulT 7 55 (by omega) (by decide) (by decide)) ?_
    walk_at "sms"
    refine take_ok st2 (by omega) (by decide) (by decide) fun t S3 ht0 ht1 st3 => ?_
    have ht2 : t < 1000000 := ht1
    walk_at "sms"
    refine take_ok st3 (by omega) (by omega) (by omega) fun w S4 hw0 hw1 st4 => ?_
    walk_at "sms"
    refine o_mul (cMulT 61 1 (by omega) (by omega) (by decide)) ?_
    walk_at "sms"
    rw [st4.cut']
    refine h _ _ ?_ (st.trans (st4.up (by omega)))
    rcases sgn_abs hw0 hw1 with e | e <;> rw [e] <;> omega
end

section
variable {S S0 : Sto} {P : D → Sto → Prop} {E : D → Sto → Prop} {n : Nat} {m : Int}
def refN : D := .tup [.str [114, 101, 102, 117, 115, 101, 100], .str [110, 117, 109, 98, 101, 114]]
def toldD (v : D) : D := .tup [.str [116, 111, 108, 100], v]
/-- what is due of two whole numbers -/
def dueV (x y : Int) : D := if y = 0 then refN else toldD (lowD x y)
/-- what is no number -/
def noneL : List D := [.non, .bl true, .str [49], .lst [.int 1], .tup [.int 1, .int 1], .dic [], .tup []]
theorem word_ok (h : P (.str [110, 117, 109, 98, 101, 114]) S) : OKR (fL_word [.exc k_BadNumber []] S) P E := by
  refine o_fn rfl ?_
  unfold bL_word bL_word_c0 bL_word_e1
  walk_at "sms"
  refine o_addL (by decide) ?_
  dsimp only [List.cons_append, List.nil_append]
  walk_at "sms"
  exact h
theorem is_whole_int {a : Int} (h : P (.bl true) S) : OKR (fis_whole [.int a] S) P E := by
  refine o_fn rfl ?_
  unfold bis_whole
  walk_at "sms"
  exact h
theorem is_whole_no {d : D} (hd : d ∈ noneL) (h : P (.bl false) S) : OKR (fis_whole [d] S) P E := by
  refine o_fn rfl ?_
  unfold bis_whole
  unfold noneL at hd
  simp only [List.mem_cons, List.not_mem_nil, or_false] at hd
  rcases hd with rfl | rfl | rfl | rfl | rfl | rfl | rfl
  all_goals
    walk_at "sms"
    exact h
theorem fraction_ok {x y : Int} (hy : y ≠ 0) (hx : x.natAbs < 10 ^ 3100) (hb : y.natAbs < 10 ^ 3100) (h : P (lowD x y) S) : OKR (ffraction [.int x, .int y] S) P E := by
  refine o_fn rfl ?_
  unfold bfraction
  walk_at "sms"
  refine is_whole_int ?_
  walk_at "sms"
  refine is_whole_int ?_
  walk_at "sms"
  refine br_ff (decide_eq_false hy) ?_
  walk_at "sms"
  refine in_lowest_ok hy hx hb ?_
  unfold lowD at *
  walk_at "sms"
  exact h
/-- two things of which one is no number, or the second nought -/
def Bad (d e : D) : Prop := d ∈ noneL ∨ ∃ a : Int, d = .int a ∧ (e ∈ noneL ∨ e = .int 0)
theorem fraction_no {d e : D} (hb : Bad d e) (h : E (.exc k_BadNumber []) S) : OKR (ffraction [d, e] S) P E := by
  refine o_fn rfl ?_
  unfold bfraction
  rcases hb with hd | ⟨a, rfl, he | rfl⟩
  · walk_at "sms"
    refine is_whole_no hd ?_
    walk_at "sms"
    rw [take_all]
    exact h
  · walk_at "sms"
    refine is_whole_int ?_
    walk_at "sms"
    refine is_whole_no he ?_
    walk_at "sms"
    rw [take_all]
    exact h
  · walk_at "sms"
    refine is_whole_int ?_
    walk_at "sms"
    refine is_whole_int ?_
    walk_at "sms"
    rw [take_all]
    exact h
theorem said_ok {x y : Int} (hx : x.natAbs < 10 ^ 3100) (hb : y.natAbs < 10 ^ 3100) (h : P (dueV x y) S) : OKR (fL_said [.int x, .int y] S) P E := by
  refine o_fn rfl ?_
  unfold bL_said bL_said_y0
  walk_at "sms"
  by_cases hy : y = 0
  · subst hy
    refine fraction_no (.inr ⟨x, rfl, .inr rfl⟩) ?_
    refine caught_yes (by rfl) ?_
    walk_at "sms"
    refine word_ok ?_
    walk_at "sms"
    exact h
  · refine fraction_ok hy hx hb ?_
    unfold dueV toldD lowD at h
    rw [if_neg hy] at h
    unfold lowD
    walk_at "sms"
    exact h
theorem said_no {d e : D} (hb : Bad d e) (hd : nr d = true) (he : nr e = true) (h : P refN S) : OKR (fL_said [d, e] S) P E := by
  refine o_fn rfl ?_
  unfold bL_said bL_said_y0
  walk_at "sms"
  refine fraction_no hb ?_
  refine caught_yes (by rfl) ?_
  walk_at "sms"
  refine word_ok ?_
  walk_at "sms"
  exact h
/-- its text can be told -/
theorem due_repr {x y : Int} (hx : x.natAbs < 10 ^ 401) (hb : y.natAbs < 10 ^ 401) (h : P (.str (reprD (dueV x y))) S) : OKR (reprM [dueV x y] S) P E := by
  have low : ∀ {x y : Int}, y ≠ 0 → x.natAbs < 10 ^ 401 → y.natAbs < 10 ^ 401 → okI 401 (toldD (lowD x y)) = true := fun {x y} y0 hx hy => by
    have q1 : (lowA x y).natAbs < 10 ^ 401 := Nat.lt_of_le_of_lt (lowA_le y0) hx
    have q2 : (lowB x y).natAbs < 10 ^ 401 := Nat.lt_of_le_of_lt (lowB_le y0) hy
    show (true && (decide _ && (decide _ && true) && true)) = true
    rw [decide_eq_true q1, decide_eq_true q2]
    rfl
  have key : okI 401 (dueV x y) = true ∧ okD 60 (dueV x y) = true ∧ rlen 401 (dueV x y) ≤ LINE ∧ hasR (dueV x y) S = true ∧ see (dueV x y) S = dueV x y := by
    unfold dueV
    split
    · exact ⟨rfl, rfl, Nat.le_of_ble_eq_true rfl, rfl, rfl⟩
    · rename_i c
      exact ⟨low c hx hb, rfl, Nat.le_of_ble_eq_true rfl, rfl, rfl⟩
  obtain ⟨k1, k2, k3, k4, k5⟩ := key
  refine o_repr 401 k4 ?_ ?_ ?_ (by decide) (by decide) ?_
  · rw [k5]
    exact k2
  · rw [k5]
    exact k1
  · rw [k5]
    exact k3
  · rw [k5]
    exact h
end

section
variable {S S0 : Sto} {P : D → Sto → Prop} {E : D → Sto → Prop} {n : Nat} {m : Int}
/-- is_fraction and the law's own look tell the same of it -/
def Same (d : D) : Prop := nr d = true ∧ ∃ v : Bool, (∀ (S : Sto) (P : D → Sto → Prop) (E : D → Sto → Prop), P (.bl v) S → OKR (fis_fraction [d] S) P E) ∧ (∀ (S : Sto) (P : D → Sto → Prop) (E : D → Sto → Prop), P (.bl v) S → OKR (fL_is [d] S) P E)
theorem isf_pair {x y : Int} (hx : x.natAbs < 10 ^ 3100) (hy : y.natAbs < 10 ^ 3100) (h : P (.bl (decide (0 < y) && decide ((Int.gcd x y : Int) = 1))) S) : OKR (fis_fraction [.tup [.int x, .int y]] S) P E := by
  refine o_fn rfl ?_
  unfold bis_fraction
  walk_at "sms"
  refine is_whole_int ?_
  walk_at "sms"
  refine is_whole_int ?_
  walk_at "sms"
  refine br_dec (fun c1 => ?_) fun c1 => ?_
  · walk_at "sms"
    refine common_part_ok (b3990 hy) ?_
    walk_at "sms"
    rw [decide_eq_true (show 0 < y by omega), Bool.true_and] at h
    exact h
  · walk_at "sms"
    rw [decide_eq_false (show ¬ 0 < y by omega), Bool.false_and] at h
    exact h
theorem L_is_pair {x y : Int} (hx : x.natAbs < 10 ^ 3100) (hy : y.natAbs < 10 ^ 3100) (h : P (.bl (decide (0 < y) && decide ((Int.gcd x y : Int) = 1))) S) : OKR (fL_is [.tup [.int x, .int y]] S) P E := by
  refine o_fn rfl ?_
  unfold bL_is bL_is_e0
  walk_at "sms"
  refine o_all rfl ?_
  walk_at "sms"
  refine br_dec (fun c1 => ?_) fun c1 => ?_
  · walk_at "sms"
    refine L_part_ok (b3900 hx) (b3900 hy) ?_
    walk_at "sms"
    rw [decide_eq_true (show 0 < y by omega), Bool.true_and] at h
    exact h
  · walk_at "sms"
    rw [decide_eq_false (show ¬ 0 < y by omega), Bool.false_and] at h
    exact h
theorem same_pair {x y : Int} (hx : x.natAbs < 10 ^ 3100) (hy : y.natAbs < 10 ^ 3100) : Same (.tup [.int x, .int y]) := ⟨rfl, _, fun _ _ _ h => isf_pair hx hy h, fun _ _ _ h => L_is_pair hx hy h⟩
/-- things that are no pairs of whole numbers -/
theorem same_odd {x y : Int} (hx : x.natAbs < 10 ^ 310) (hy : y.natAbs < 10 ^ 310) (s : List Nat) {d : D} (h : d ∈ ([.non, .int 5, .lst [.int x, .int y], .tup [.int x], .tup [.int x, .int y, .int 1], .tup [.tup [.int x, .int y], .int 1], .tup [.bl true, .int 1], .tup [.int x, .bl true], .tup [.str s, .int 1], .dic [], .tup [.non, .non], .str s] : List D)) : Same d := by
  simp only [List.mem_cons, List.not_mem_nil, or_false] at h
  have key : nr d = true ∧ (∀ (S : Sto) (P : D → Sto → Prop) (E : D → Sto → Prop), P (.bl false) S → OKR (fis_fraction [d] S) P E) ∧ (∀ (S : Sto) (P : D → Sto → Prop) (E : D → Sto → Prop), P (.bl false) S → OKR (fL_is [d] S) P E) := by
    refine ⟨?_, fun S P E h2 => ?_, fun S P E h2 => ?_⟩
    · rcases h with rfl | rfl | rfl | rfl | rfl | rfl | rfl | rfl | rfl | rfl | rfl | rfl <;> rfl
    · refine o_fn (by rcases h with rfl | rfl | rfl | rfl | rfl | rfl | rfl | rfl | rfl | rfl | rfl | rfl <;> rfl) ?_
      unfold bis_fraction
      rcases h with rfl | rfl | rfl | rfl | rfl | rfl | rfl | rfl | rfl | rfl | rfl | rfl
      all_goals
        walk_at "sms"
        repeat (refine o_fn rfl ?_; unfold bis_whole; walk_at "sms")
        exact h2
    · refine o_fn (by rcases h with rfl | rfl | rfl | rfl | rfl | rfl | rfl | rfl | rfl | rfl | rfl | rfl <;> rfl) ?_
      unfold bL_is bL_is_e0
      rcases h with rfl | rfl | rfl | rfl | rfl | rfl | rfl | rfl | rfl | rfl | rfl | rfl
      all_goals
        walk_at "sms"
        first
          | exact h2
          | (refine o_all rfl ?_
             walk_at "sms"
             exact h2)
  exact ⟨key.1, false, key.2.1, key.2.2⟩
end

section
variable {S S0 : Sto} {P : D → Sto → Prop} {E : D → Sto → Prop} {n : Nat} {m : Int}
theorem far_by_ok (st : StE S0 S n m) (hm : m ≤ 700000) (h : ∀ v S1, v.natAbs < 10 ^ 302 → StE S0 S1 n (m + 6) → P (.int v) S1) : OKR (fL_far_by [.ref n] S) P E := by
  refine o_fn rfl ?_
  unfold bL_far_by
  walk_at "sms"
  refine whole_by_ok st.self (by omega) fun v S1 hv st1 => ?_
  walk_at "sms"
  refine take_ok st1 (by omega) (by omega) (by omega) fun u S2 hu0 hu1 st2 => ?_
  walk_at "sms"
  have e60 : (10 : Int) ^ Int.toNat 60 = 10 ^ 60 := rfl
  have q1 : (v * 10 ^ 60).natAbs < 10 ^ 121 := by
    rw [Int.natAbs_mul]
    exact Nat.lt_of_lt_of_le (Nat.mul_lt_mul_of_pos_right hv (by decide)) (by decide +kernel)
  have q2 : (v * 10 ^ 60 * 10 ^ 60).natAbs < 10 ^ 181 := by
    rw [Int.natAbs_mul]
    exact Nat.lt_of_lt_of_le (Nat.mul_lt_mul_of_pos_right q1 (by decide)) (by decide +kernel)
  have q3 : (v * 10 ^ 60 * 10 ^ 60 * 10 ^ 60).natAbs < 10 ^ 241 := by
    rw [Int.natAbs_mul]
    exact Nat.lt_of_lt_of_le (Nat.mul_lt_mul_of_pos_right q2 (by decide)) (by decide +kernel)
  have q4 : (v * 10 ^ 60 * 10 ^ 60 * 10 ^ 60 * 10 ^ 60).natAbs < 10 ^ 301 := by
    rw [Int.natAbs_mul]
    exact Nat.lt_of_lt_of_le (Nat.mul_lt_mul_of_pos_right q3 (by decide)) (by decide +kernel)
  have s60 : ((10 : Int) ^ 60).natAbs < 10 ^ 61 := by decide
  refine br_dec (fun c => ?_) fun c => ?_
  · walk_at "sms"
    rw [e60]
    refine o_mul (cMulT 61 61 hv s60 (by decide)) ?_
    walk_at "sms"
    rw [e60]
    refine o_mul (cMulT 121 61 q1 s60 (by decide)) ?_
    walk_at "sms"
    rw [e60]
    refine o_mul (cMulT 181 61 q2 s60 (by decide)) ?_
    walk_at "sms"
    rw [e60]
    refine o_mul (cMulT 241 61 q3 s60 (by decide)) ?_
    walk_at "sms"
    rw [st2.cut']
    refine h _ _ ?_ (st.trans (st2.up (by omega)))
    have z : 10 ^ 301 + 7 < 10 ^ 302 := by decide +kernel
    generalize v * 10 ^ 60 * 10 ^ 60 * 10 ^ 60 * 10 ^ 60 = t at *
    generalize 10 ^ 301 = a at *
    generalize 10 ^ 302 = b at *
    omega
  · walk_at "sms"
    rw [st2.cut']
    exact h _ _ (Nat.lt_trans hv (by decide +kernel)) (st.trans (st2.up (by omega)))
theorem odd_by_ok {x y : Int} (st : StE S0 S n m) (hm : m ≤ 700000) (hx : x.natAbs < 10 ^ 304) (hy : y.natAbs < 10 ^ 304) (h : ∀ d S1, Same d → StE S0 S1 n (m + 1) → P d S1) : OKR (fL_odd_by [.ref n, .tup [.int x, .int y]] S) P E := by
  have n4 : 10 ^ 304 * 3 < 10 ^ 310 := by decide +kernel
  have n5 : 10 ^ 304 < 10 ^ 310 := by decide +kernel
  have n7 : 2 < 10 ^ 310 := by decide +kernel
  have n6 : 10 ^ 310 < 10 ^ 3100 := by decide +kernel
  refine o_fn rfl ?_
  unfold bL_odd_by
  walk_at "sms"
  have l19 : x.natAbs.log2 < 1920 := by
    by_cases z : x.natAbs = 0
    · rw [z]
      decide
    · refine (Nat.log2_lt z).mpr (Nat.lt_trans hx ?_)
      decide +kernel
  have o_strI : ∀ {S : Sto} {P : D → Sto → Prop} {E : D → Sto → Prop}, P (.str (strI x)) S → OKR (strM [.int x] S) P E := fun {S P E} hq => by
    show OKR (if x.natAbs.log2 < 1920 then Res.ok (D.str (strI x)) S else .bad) P E
    rw [if_pos l19]
    exact hq
  refine OKR.of_eq (v := .lst [.int x, .int y]) rfl ?_
  walk_at "sms"
  refine OKR.of_eq (v := .tup [.int x]) rfl ?_
  walk_at "sms"
  refine OKR.of_eq (v := .tup [.int x, .int y, .int 1]) rfl ?_
  walk_at "sms"
  refine o_strI ?_
  generalize strI x = sx
  walk_at "sms"
  refine o_mul (cMulT 304 1 hx (by decide) (by decide)) ?_
  walk_at "sms"
  refine o_mul (cMulT 304 1 hy (by decide) (by decide)) ?_
  walk_at "sms"
  refine o_addL (Nat.le_of_ble_eq_true rfl) ?_
  dsimp only [List.cons_append, List.nil_append]
  walk_at "sms"
  refine take_ok st.self (by omega) (by omega) (by omega) fun u S1 hu0 hu1 st1 => ?_
  walk_at "sms"
  refine o_ixB hu0 hu1 fun d hd => ?_
  have hs : Same d := by
    simp only [List.mem_cons, List.not_mem_nil, or_false] at hd
    have od := fun (d : D) h => same_odd (Nat.lt_trans hx n5) (Nat.lt_trans hy n5) sx (d := d) h
    have pr : ∀ {a b : Int}, a.natAbs < 10 ^ 310 → b.natAbs < 10 ^ 310 → Same (.tup [.int a, .int b]) := fun ha hb => same_pair (Nat.lt_trans ha n6) (Nat.lt_trans hb n6)
    generalize 10 ^ 310 = t at *
    generalize 10 ^ 304 = r at *
    rcases hd with rfl | rfl | rfl | rfl | rfl | rfl | rfl | rfl | rfl | rfl | rfl | rfl | rfl | rfl | rfl | rfl
    all_goals first
      | exact pr (by omega) (by omega)
      | exact od _ (by simp)
  walk_at "sms"
  refine o_fin hs.1 ?_
  rw [st1.cut']
  exact h _ _ hs (st.trans (st1.up (by omega)))
theorem reprBl {b : Bool} (h : P (.str (reprD (.bl b))) S) : OKR (reprM [.bl b] S) P E := o_repr 1 rfl rfl rfl (Nat.le_of_ble_eq_true rfl) (by decide) (by decide) h
theorem at_app {o : Ob} : (S ++ [o])[S.length]? = some o := by
  rw [List.getElem?_append_right (Nat.le_refl _), Nat.sub_self]
  rfl
theorem OKS.cut {r : SR} {N B C : Env → Sto → Prop} {T : D → Sto → Prop} {X : D → Env → Sto → Prop} (I : Env → Sto → Prop) (h : OKS r I (fun _ _ => False) (fun _ _ => False) (fun _ _ => False) (fun _ _ _ => False)) (k : ∀ e S, I e S → N e S) : OKS r N B C T X :=
  h.mono k (fun _ _ z => z.elim) (fun _ _ z => z.elim) (fun _ _ z => z.elim) (fun _ _ _ z => z.elim)
end

section
variable {S S0 : Sto} {P : D → Sto → Prop} {E : D → Sto → Prop} {n : Nat} {m : Int}
theorem n310 : 10 ^ 310 < 10 ^ 3100 := by decide +kernel
theorem n401 : 10 ^ 310 < 10 ^ 401 := by decide +kernel
/-- the bodies of the law's loops: env told as a written list, the store stays -/
abbrev Stay (b : Env → Sto → SR) (e : Env) (S : Sto) (I : Env → Prop) : Prop := OKS (b e S) (fun e' S' => S' = S ∧ I e') (fun _ _ => False) (fun _ _ => False) (fun _ _ => False) (fun _ _ _ => False)
theorem l0_ok {x y : Int} {x0 x1 x2 x3 x5 x7 x8 x9 x10 x11 x12 x13 x14 : Option D} (hx : x.natAbs < 10 ^ 310) (hy : y.natAbs < 10 ^ 310) :
    Stay blaw_l0 [x0, x1, x2, x3, some (.tup [.int x, .int y]), x5, some (dueV x y), x7, x8, x9, x10, x11, x12, x13, x14] S (fun e => e = [x0, x1, x2, x3, some (.tup [.int x, .int y]), x5, some (dueV x y), x7, x8, x9, x10, x11, x12, x13, x14]) := by
  unfold Stay blaw_l0
  walk_at "sms"
  refine said_ok (Nat.lt_trans hx n310) (Nat.lt_trans hy n310) ?_
  walk_at "sms"
  refine due_repr (Nat.lt_trans hx n401) (Nat.lt_trans hy n401) ?_
  walk_at "sms"
  refine due_repr (Nat.lt_trans hx n401) (Nat.lt_trans hy n401) ?_
  walk_at "sms"
  exact ⟨rfl, rfl⟩
theorem l1_ok {x y : Int} {x0 x1 x2 x3 x4 x5 x6 x7 x8 x11 x12 x13 x14 : Option D} (hx : x.natAbs < 10 ^ 310) (hy : y.natAbs < 10 ^ 310) :
    Stay blaw_l1 [x0, x1, x2, x3, x4, x5, x6, x7, x8, some (.int x), some (.int y), x11, x12, x13, x14] S (fun e => ∃ y9 y10 y11, e = [x0, x1, x2, x3, x4, x5, x6, x7, x8, y9, y10, y11, x12, x13, x14]) := by
  unfold Stay blaw_l1
  have fin : ∀ {x11 : Option D}, OKS (blaw_l1_s1 [x0, x1, x2, x3, x4, x5, x6, x7, x8, some (.int x), some (.int y), some (dueV x y), x12, x13, x14] S) (fun e' S' => S' = S ∧ ∃ y9 y10 y11, e' = [x0, x1, x2, x3, x4, x5, x6, x7, x8, y9, y10, y11, x12, x13, x14]) (fun _ _ => False) (fun _ _ => False) (fun _ _ => False) (fun _ _ _ => False) := by
    intro x11
    unfold blaw_l1_s1
    walk_at "sms"
    refine said_ok (Nat.lt_trans hx n310) (Nat.lt_trans hy n310) ?_
    walk_at "sms"
    refine due_repr (Nat.lt_trans hx n401) (Nat.lt_trans hy n401) ?_
    walk_at "sms"
    refine due_repr (Nat.lt_trans hx n401) (Nat.lt_trans hy n401) ?_
    walk_at "sms"
    exact ⟨rfl, _, _, _, rfl⟩
  rw [← blaw_l1_s1.eq_def]
  walk_at "sms"
  by_cases c : y = 0
  · refine br_tt (decide_eq_true c) ?_
    walk_at "sms"
    have e : (D.tup [.str [114, 101, 102, 117, 115, 101, 100], .str [110, 117, 109, 98, 101, 114]]) = dueV x y := by
      unfold dueV
      rw [if_pos c]
      rfl
    rw [e]
    exact fin (x11 := none)
  · refine br_ff (decide_eq_false c) ?_
    walk_at "sms"
    refine L_lowest_ok c (Nat.lt_trans hx n310) (Nat.lt_trans hy n310) ?_
    have e : (D.tup [.str [116, 111, 108, 100], lowD x y]) = dueV x y := by
      unfold dueV
      rw [if_neg c]
      rfl
    unfold lowD at e ⊢
    walk_at "sms"
    rw [e]
    exact fin (x11 := none)
theorem l3_ok {d : D} {x0 x1 x2 x3 x4 x5 x6 x7 x8 x9 x10 x11 x12 x14 : Option D} (hd : Same d) :
    Stay blaw_l3 [x0, x1, x2, x3, x4, x5, x6, x7, x8, x9, x10, x11, x12, some d, x14] S (fun e => e = [x0, x1, x2, x3, x4, x5, x6, x7, x8, x9, x10, x11, x12, some d, x14]) := by
  obtain ⟨hn, v, h1, h2⟩ := hd
  unfold Stay blaw_l3
  walk_at "sms"
  refine h1 _ _ _ ?_
  walk_at "sms"
  refine reprBl ?_
  walk_at "sms"
  refine h2 _ _ _ ?_
  walk_at "sms"
  refine reprBl ?_
  walk_at "sms"
  exact ⟨rfl, rfl⟩
theorem l4_ok {d e : D} {x0 x1 x2 x3 x4 x5 x6 x7 x8 x11 x12 x13 x14 : Option D} (hb : Bad d e) (hd : nr d = true) (he : nr e = true) :
    Stay blaw_l4 [x0, x1, x2, x3, x4, x5, x6, x7, x8, some d, some e, x11, x12, x13, x14] S (fun e' => e' = [x0, x1, x2, x3, x4, x5, x6, x7, x8, some d, some e, x11, x12, x13, x14]) := by
  unfold Stay blaw_l4
  walk_at "sms"
  refine said_no hb hd he ?_
  unfold refN
  walk_at "sms"
  exact ⟨rfl, rfl⟩
end

section
variable {S S0 : Sto} {P : D → Sto → Prop} {E : D → Sto → Prop} {n : Nat} {m : Int}
theorem s3_ok {x y : Int} {x0 x1 x2 x5 x6 x7 x8 x9 x10 x11 x12 x13 x14 : Option D} (st : StE S0 S n m) (hm : m ≤ 500000) (hx : x.natAbs < 10 ^ 304) (hy : y.natAbs < 10 ^ 304) :
    OKS (blaw_l5_s3 [x0, x1, x2, some (.ref n), some (.tup [.int x, .int y]), x5, x6, x7, x8, x9, x10, x11, x12, x13, x14] S) (fun e' _ => ∃ z0 z1 z2 z3 z4 z5 z6 z7 z8 z9 z10 z11 z12 z13, e' = [x0, z0, z1, z2, z3, z4, z5, z6, z7, z8, z9, z10, z11, z12, z13]) (fun _ _ => False) (fun _ _ => False) (fun _ _ => False) (fun _ _ _ => False) := by
  have u : ∀ {v : Int}, v.natAbs < 10 ^ 304 → v.natAbs < 10 ^ 310 := fun h => Nat.lt_trans h (by decide +kernel)
  have big := Nat.lt_trans (u hx) n310
  have big2 := Nat.lt_trans (u hy) n310
  obtain ⟨b0, hb0⟩ : ∃ b, b = blaw_l0 := ⟨_, rfl⟩
  obtain ⟨b1, hb1⟩ : ∃ b, b = blaw_l1 := ⟨_, rfl⟩
  obtain ⟨b3, hb3⟩ : ∃ b, b = blaw_l3 := ⟨_, rfl⟩
  obtain ⟨b4, hb4⟩ : ∃ b, b = blaw_l4 := ⟨_, rfl⟩
  have key : OKS (blaw_l5_s4 [x0, x1, x2, some (.ref n), some (.tup [.int x, .int y]), x5, some (dueV x y), x7, x8, x9, x10, x11, x12, x13, x14] S) (fun e' _ => ∃ z0 z1 z2 z3 z4 z5 z6 z7 z8 z9 z10 z11 z12 z13, e' = [x0, z0, z1, z2, z3, z4, z5, z6, z7, z8, z9, z10, z11, z12, z13]) (fun _ _ => False) (fun _ _ => False) (fun _ _ => False) (fun _ _ _ => False) := by
    unfold blaw_l5_s4
    rw [← hb0, ← hb1, ← hb3, ← hb4]
    walk_at "sms"
    refine forL_ok (fun l env S2 => S2 = S ∧ ∃ y7, env = [x0, x1, x2, some (.ref n), some (.tup [.int x, .int y]), x5, some (dueV x y), y7, x8, x9, x10, x11, x12, x13, x14]) (fun _ _ _ _ _ z => by cases z) ?_ ?_ _ _ _ ⟨rfl, _, rfl⟩
    · rintro d l env S2 ⟨rfl, y7, rfl⟩
      refine ⟨_, rfl, ?_⟩
      subst hb0
      refine (l0_ok (S := S2) (x := x) (y := y) (u hx) (u hy)).mono ?_ (fun _ _ z => z.elim) (fun _ _ z => z.elim) (fun _ _ z => z.elim) (fun _ _ _ z => z.elim)
      rintro e S' ⟨rfl, rfl⟩
      exact ⟨rfl, _, rfl⟩
    rintro env S2 ⟨rfl, y7, rfl⟩
    walk_at "sms"
    refine whole_by_ok st (by omega) fun v S1 hv st1 => ?_
    walk_at "sms"
    have hv2 : (1 + (v.natAbs : Int)).natAbs < 10 ^ 310 ∧ (0 - (1 + (v.natAbs : Int))).natAbs < 10 ^ 310 := by
      have z : 10 ^ 61 + 1 < 10 ^ 310 := by decide +kernel
      generalize 10 ^ 310 = t at *
      generalize 10 ^ 61 = s at *
      omega
    generalize 1 + (v.natAbs : Int) = w at hv2 ⊢
    refine forL_ok (fun l env S2 => S2 = S1 ∧ (∀ d ∈ l, ∃ a b : Int, d = .tup [.int a, .int b] ∧ a.natAbs < 10 ^ 310 ∧ b.natAbs < 10 ^ 310) ∧ ∃ y9 y10 y11, env = [x0, x1, x2, some (.ref n), some (.tup [.int x, .int y]), x5, some (dueV x y), y7, some (.int w), y9, y10, y11, x12, x13, x14]) (fun _ _ _ _ _ z => by cases z) ?_ ?_ _ _ _ ⟨rfl, fun d hd => ?_, _, _, _, rfl⟩
    · rintro d l env S2 ⟨rfl, hd, y9, y10, y11, rfl⟩
      obtain ⟨a, b, rfl, ha, hb⟩ := hd d (List.mem_cons_self ..)
      refine ⟨_, rfl, ?_⟩
      subst hb1
      refine (l1_ok (S := S2) ha hb).mono ?_ (fun _ _ z => z.elim) (fun _ _ z => z.elim) (fun _ _ z => z.elim) (fun _ _ _ z => z.elim)
      rintro e S' ⟨rfl, z9, z10, z11, rfl⟩
      exact ⟨rfl, fun x hx => hd x (List.mem_cons_of_mem _ hx), _, _, _, rfl⟩
    · rintro env S2 ⟨rfl, _, y9, y10, y11, rfl⟩
      walk_at "sms"
      refine odd_by_ok st1 (by omega) hx hy fun od S3 hod st3 => ?_
      walk_at "sms"
      have dueI : ∃ g, dueV x y = .tup [if y = 0 then (.str [114, 101, 102, 117, 115, 101, 100]) else .str [116, 111, 108, 100], g] ∧ Same g := by
        unfold dueV
        by_cases c : y = 0
        · rw [if_pos c, if_pos c]
          exact ⟨_, rfl, same_odd (x := 0) (y := 0) (by decide) (by decide) [110, 117, 109, 98, 101, 114] (by simp)⟩
        · rw [if_neg c, if_neg c]
          exact ⟨_, rfl, same_pair (Nat.lt_of_le_of_lt (lowA_le c) big) (Nat.lt_of_le_of_lt (lowB_le c) big2)⟩
      obtain ⟨g, eg, hg⟩ := dueI
      rw [eg]
      refine o_frz hod.1 ?_
      walk_at "sms"
      refine OKR.of_eq (v := .tup [g]) rfl ?_
      walk_at "sms"
      refine OKR.of_eq (v := .tup [.tup [.int x, .int y], od, g]) rfl ?_
      walk_at "sms"
      generalize (D.tup [if y = 0 then D.str [114, 101, 102, 117, 115, 101, 100] else D.str [116, 111, 108, 100], g]) = du
      refine forL_ok (fun l env S2 => S2 = S3 ∧ (∀ d ∈ l, Same d) ∧ ∃ y13, env = [x0, x1, x2, some (.ref n), some (.tup [.int x, .int y]), x5, some du, y7, some (.int w), y9, y10, y11, some od, y13, x14]) (fun _ _ _ _ _ z => by cases z) ?_ ?_ _ _ _ ⟨rfl, fun d hd => ?_, _, rfl⟩
      · rintro d l env S2 ⟨rfl, hd, y13, rfl⟩
        refine ⟨_, rfl, ?_⟩
        subst hb3
        refine (l3_ok (S := S2) (hd d (List.mem_cons_self ..))).mono ?_ (fun _ _ z => z.elim) (fun _ _ z => z.elim) (fun _ _ z => z.elim) (fun _ _ _ z => z.elim)
        rintro e S' ⟨rfl, rfl⟩
        exact ⟨rfl, fun x hx => hd x (List.mem_cons_of_mem _ hx), _, rfl⟩
      · rintro env S2 ⟨rfl, _, y13, rfl⟩
        walk_at "sms"
        refine take_ok st3 (by omega) (by omega) (by omega) fun u S4 hu0 hu1 st4 => ?_
        walk_at "sms"
        refine o_ixB hu0 hu1 fun nd hnd => ?_
        have hn : nd ∈ noneL := hnd
        have hnr : nr nd = true := by
          simp only [List.mem_cons, List.not_mem_nil, or_false] at hnd
          rcases hnd with rfl | rfl | rfl | rfl | rfl | rfl | rfl <;> rfl
        clear hnd
        walk_at "sms"
        repeat (refine o_frz hnr ?_; walk_at "sms")
        refine forL_ok (fun l env S2 => (∀ d ∈ l, ∃ a b : D, d = .tup [a, b] ∧ Bad a b ∧ nr a = true ∧ nr b = true) ∧ ∃ y9 y10, env = [x0, x1, x2, some (.ref n), some (.tup [.int x, .int y]), x5, some du, y7, some (.int w), y9, y10, y11, some od, y13, some nd]) (fun _ _ _ _ _ z => by cases z) ?_ ?_ _ _ _ ⟨fun d hd => ?_, _, _, rfl⟩
        · rintro d l env S2 ⟨hd, y9, y10, rfl⟩
          obtain ⟨a, b, rfl, hb, ha1, hb1⟩ := hd d (List.mem_cons_self ..)
          refine ⟨_, rfl, ?_⟩
          subst hb4
          refine (l4_ok (S := S2) hb ha1 hb1).mono ?_ (fun _ _ z => z.elim) (fun _ _ z => z.elim) (fun _ _ z => z.elim) (fun _ _ _ z => z.elim)
          rintro e S' ⟨rfl, rfl⟩
          exact ⟨fun x hx => hd x (List.mem_cons_of_mem _ hx), _, _, rfl⟩
        · rintro env S2 ⟨_, y9, y10, rfl⟩
          exact ⟨_, _, _, _, _, _, _, _, _, _, _, _, _, _, rfl⟩
        · simp only [List.mem_cons, List.not_mem_nil, or_false] at hd
          rcases hd with rfl | rfl | rfl | rfl | rfl
          · exact ⟨_, _, rfl, .inl hn, hnr, rfl⟩
          · exact ⟨_, _, rfl, .inr ⟨_, rfl, .inl hn⟩, rfl, hnr⟩
          · exact ⟨_, _, rfl, .inl hn, hnr, rfl⟩
          · exact ⟨_, _, rfl, .inl hn, hnr, hnr⟩
          · exact ⟨_, _, rfl, .inr ⟨_, rfl, .inr rfl⟩, rfl, rfl⟩
      · simp only [List.mem_cons, List.not_mem_nil, or_false] at hd
        rcases hd with rfl | rfl | rfl
        · exact same_pair big big2
        · exact hod
        · exact hg
    · simp only [List.mem_cons, List.not_mem_nil, or_false] at hd
      have ux := u hx
      have uy := u hy
      rcases hd with rfl | rfl | rfl | rfl | rfl
      · exact ⟨_, _, rfl, ux, hv2.1⟩
      · exact ⟨_, _, rfl, hv2.1, uy⟩
      · exact ⟨_, _, rfl, ux, uy⟩
      · exact ⟨_, _, rfl, ux, hv2.2⟩
      · exact ⟨_, _, rfl, ux, uy⟩
  unfold blaw_l5_s3
  rw [← blaw_l5_s4.eq_def]
  walk_at "sms"
  by_cases c : y = 0
  · refine br_tt (decide_eq_true c) ?_
    walk_at "sms"
    have e : (D.tup [.str [114, 101, 102, 117, 115, 101, 100], .str [110, 117, 109, 98, 101, 114]]) = dueV x y := by
      unfold dueV
      rw [if_pos c]
      rfl
    rw [e]
    exact key
  · refine br_ff (decide_eq_false c) ?_
    walk_at "sms"
    refine L_lowest_ok c big big2 ?_
    have e : (D.tup [.str [116, 111, 108, 100], lowD x y]) = dueV x y := by
      unfold dueV
      rw [if_neg c]
      rfl
    unfold lowD at e ⊢
    walk_at "sms"
    rw [e]
    exact key
end

/-! closed runs -/
theorem classes_run : fL_classes_right [] [] = .ok (.bl true) [] := by kernel_rfl
theorem truths_run : fL_truths_right [] [] = .ok (.bl true) [] := by kernel_rfl
theorem great_run : fL_great_right [] [] = .ok (.bl true) [] := by kernel_rfl

section
variable {S S0 : Sto} {P : D → Sto → Prop} {E : D → Sto → Prop} {n : Nat} {m : Int}
theorem law_ok {ns : List Int} (hl : ns.length ≤ 63) (h : ∀ S1, P (.bl true) S1) : OKR (flaw [.lst (ns.map .int)] []) P E := by
  unfold flaw
  with_reducible refine o_fn (by with_unfolding_all rfl) ?_
  unfold blaw
  generalize hf1 : fL_classes_right = f1
  generalize hf2 : fL_truths_right = f2
  generalize hf3 : fL_great_right = f3
  generalize hb5 : blaw_l5 = b5
  walk_at "sms"
  with_reducible refine OKR.of_eq (by rw [← hf1]; with_reducible exact classes_run) ?_
  walk_at "sms"
  with_reducible refine OKR.of_eq (by rw [← hf2]; with_reducible exact truths_run) ?_
  walk_at "sms"
  with_reducible refine OKR.of_eq (by rw [← hf3]; with_reducible exact great_run) ?_
  walk_at "sms"
  refine o_addL (by
    have hL : LINE = 16777216 := rfl
    rw [List.length_map]
    show ns.length + 1 ≤ LINE
    omega) ?_
  walk_at "sms"
  show OKR (ixL (getL (.lst (ns.map D.int ++ [.int 0])) []) fun l => Res.ok (.lst (cutL l none (some 63))) []) _ _
  refine o_ok ?_
  walk_at "sms"
  refine forL_ok (fun l env S2 => (∀ d ∈ l, ∃ (j : Nat) (x : Int), d = .tup [.int j, .int x] ∧ j ≤ 63) ∧ ∃ x0 x1 x2 x3 x4 x5 x6 x7 x8 x9 x10 x11 x12 x13 x14, env = [x0, x1, x2, x3, x4, x5, x6, x7, x8, x9, x10, x11, x12, x13, x14]) (fun _ _ _ _ _ z => by cases z) ?_ ?_ _ _ _ ⟨fun d hd => cells_mem hl hd, _, _, _, _, _, _, _, _, _, _, _, _, _, _, _, rfl⟩
  · rintro d l env S2 ⟨hd, x0, x1, x2, x3, x4, x5, x6, x7, x8, x9, x10, x11, x12, x13, x14, rfl⟩
    obtain ⟨j, cell, rfl, hj⟩ := hd d (List.mem_cons_self ..)
    refine ⟨_, rfl, ?_⟩
    subst hb5
    unfold blaw_l5
    rw [← blaw_l5_s3.eq_def]
    walk_at "sms"
    refine stream_ok (by omega) (by omega) fun bb x => ?_
    have st := StE.refl (S := S2 ++ [strm bb cell 0 x]) (n := S2.length) (m := 0) at_app (Int.le_refl _) (Int.le_refl _)
    walk_at "sms"
    refine far_by_ok st (by omega) fun a S3 ha st3 => ?_
    walk_at "sms"
    refine far_by_ok st3 (by omega) fun b S4 hb st4 => ?_
    walk_at "sms"
    refine take_ok st4 (by omega) (by omega) (by omega) fun k S5 hk0 hk1 st5 => ?_
    generalize S2.length = n at *
    have up : ∀ {v : Int}, v.natAbs < 10 ^ 302 → v.natAbs < 10 ^ 304 := fun h => Nat.lt_trans h (by decide +kernel)
    walk_at "sms"
    refine br_dec (fun c1 => ?_) fun c1 => ?_
    · walk_at "sms"
      refine take_ok st5 (by omega) (by omega) (by omega) fun p S6 hp0 hp1 st6 => ?_
      walk_at "sms"
      have hp : (2 + p).natAbs < 10 ^ 2 := by omega
      have ml : ∀ {v : Int}, v.natAbs < 10 ^ 302 → (v * (2 + p)).natAbs < 10 ^ 304 := fun {v} hv => by
        rw [Int.natAbs_mul]
        exact Nat.lt_of_lt_of_le (Nat.mul_lt_mul_of_lt_of_lt hv hp) (by decide +kernel)
      refine o_mul (cMulT 302 2 ha hp (by decide)) ?_
      walk_at "sms"
      refine o_mul (cMulT 302 2 hb hp (by decide)) ?_
      walk_at "sms"
      refine (s3_ok st6 (by omega) (ml ha) (ml hb)).mono ?_ (fun _ _ z => z.elim) (fun _ _ z => z.elim) (fun _ _ z => z.elim) (fun _ _ _ z => z.elim)
      rintro e S' ⟨_, _, _, _, _, _, _, _, _, _, _, _, _, _, rfl⟩
      exact ⟨fun y hy => hd y (List.mem_cons_of_mem _ hy), _, _, _, _, _, _, _, _, _, _, _, _, _, _, _, rfl⟩
    · walk_at "sms"
      refine (s3_ok st5 (by omega) (up ha) (up hb)).mono ?_ (fun _ _ z => z.elim) (fun _ _ z => z.elim) (fun _ _ z => z.elim) (fun _ _ _ z => z.elim)
      rintro e S' ⟨_, _, _, _, _, _, _, _, _, _, _, _, _, _, rfl⟩
      exact ⟨fun y hy => hd y (List.mem_cons_of_mem _ hy), _, _, _, _, _, _, _, _, _, _, _, _, _, _, _, rfl⟩
  · rintro env S2 ⟨_, x0, x1, x2, x3, x4, x5, x6, x7, x8, x9, x10, x11, x12, x13, x14, rfl⟩
    walk_at "sms"
    exact h _
end
theorem law_key (ns : List Int) (h : ns.length ≤ 63) : OKR (flaw [.lst (ns.map D.int)] []) (fun d _ => d = .bl true) (fun _ _ => False) := by with_reducible exact law_ok h (fun _ => rfl)
theorem law_some (ns : List Int) (h : ns.length ≤ 63) : ∃ v S, flaw [.lst (ns.map D.int)] [] = .ok v S ∧ v = .bl true := by with_reducible exact OKR.ok (law_key ns h)
theorem law_holds (ns : List Int) (h : ns.length ≤ 63) (hb : ∀ z ∈ ns, PySem.Builtin.Int.intBits z ≤ 1048576) : ∃ S', flaw [.lst (ns.map D.int)] [] = .ok (.bl true) S' := by with_reducible exact res_true (law_some ns h)

end Sm
open PySem PySem.W PyProof.Rows
set_option maxHeartbeats 0 in
theorem PySem.Challenge.cw_towerwise_k02_fractions_holds : PySem.Challenge.rw_towerwise_k02_fractions.Holds := by
  w_on; o_law; k_head; (case hw => w_witness2)
  k_fill
  refine Sm.end_ofL (l := PySem.Challenge.rw_towerwise_k02_fractions) (n := 63) (k := 6) (x := "_law_script") (m := Sm.flaw) rfl (by decide) rfl ⟨rfl, by decide, by decide⟩ (fun w h Y => PySem.W.kIn_of Y) ?F Sm.law_holds
  case F =>
    intro w mg fa h TP KX G hmg
    refine' Sm.all_mk TP KX G hmg ?a0 ?l0 ?c0 ?k0 ?a1 ?l1 ?c1 ?k1 ?a2 ?l2 ?c2 ?k2 ?a3 ?l3 ?c3 ?k3 ?a4 ?l4 ?c4 ?k4 ?a5 ?l5 ?c5 ?k5 ?a6 ?l6 ?c6 ?k6 ?a7 ?l7 ?c7 ?k7 ?a8 ?l8 ?c8 ?k8 ?a9 ?l9 ?c9 ?k9 ?a10 ?l10 ?c10 ?k10 ?a11 ?l11 ?c11 ?k11 ?a12 ?l12 ?c12 ?k12 ?a13 ?l13 ?c13 ?k13 ?a14 ?l14 ?c14 ?k14 ?a15 ?l15 ?c15 ?k15 ?a16 ?l16 ?c16 ?k16 ?a17 ?l17 ?c17 ?k17 ?a18 ?l18 ?c18 ?k18 ?a19 ?l19 ?c19 ?k19 ?a20 ?l20 ?c20 ?k20 ?z_ValueError ?z_abs ?z_all ?z_bool ?z_enumerate ?z_int ?z_isinstance ?z_len ?z_list ?z_range ?z_repr ?z_str ?z_tuple ?gc0 ?lc0 ?tc0 ?nc0 ?bc0 ?gc1 ?lc1 ?tc1 ?nc1 ?bc1 ?gc2 ?lc2 ?tc2 ?nc2 ?bc2 ?gc3 ?lc3 ?tc3 ?nc3 ?bc3 ?gc4 ?lc4 ?tc4 ?nc4 ?bc4 ?gc5 ?lc5 ?tc5 ?nc5 ?bc5 ?gc6 ?lc6 ?tc6 ?nc6 ?bc6 ?gc7 ?lc7 ?tc7 ?nc7 ?bc7 ?gc8 ?lc8 ?tc8 ?nc8 ?bc8 ?gc9 ?lc9 ?tc9 ?nc9 ?bc9 ?gc10 ?lc10 ?tc10 ?nc10 ?bc10 ?gc11 ?lc11 ?tc11 ?nc11 ?bc11 ?gc12 ?lc12 ?tc12 ?nc12 ?bc12 ?gc13 ?lc13 ?tc13 ?nc13 ?bc13 ?gc14 ?lc14 ?tc14 ?nc14 ?bc14 ?gc15 ?lc15 ?tc15 ?nc15 ?bc15 ?gc16 ?lc16 ?tc16 ?nc16 ?bc16 ?gc17 ?lc17 ?tc17 ?nc17 ?bc17 ?gc18 ?lc18 ?tc18 ?nc18 ?bc18 ?xe1 ?xk1 ?xs1 ?xg1 ?xa1 ?xd1 ?xc1 ?xm1 ?xv1 ?xo1 ?xr1 ?xe2 ?xk2 ?xs2 ?xg2 ?xa2 ?xd2 ?xc2 ?xm2 ?xv2 ?xo2 ?xr2 ?xs3 ?xg3 ?xa3 ?xd3 ?xc3 ?xm3 ?xv3 ?xo3 ?xr3 ?xe4 ?xk4 ?xs4 ?xg4 ?xa4 ?xd4 ?xc4 ?xm4 ?xv4 ?xo4 ?xr4 ?xe5 ?xk5 ?xs5 ?xg5 ?xa5 ?xd5 ?xc5 ?xm5 ?xv5 ?xo5 ?xr5 ?xe6 ?xk6 ?xs6 ?xg6 ?xa6 ?xd6 ?xc6 ?xm6 ?xv6 ?xo6 ?xr6 ?xe7 ?xk7 ?xs7 ?xg7 ?xa7 ?xd7 ?xc7 ?xm7 ?xv7 ?xo7 ?xr7 ?xs8 ?xg8 ?xa8 ?xd8 ?xc8 ?xm8 ?xv8 ?xo8 ?xr8 ?xs9 ?xg9 ?xa9 ?xd9 ?xc9 ?xm9 ?xv9 ?xo9 ?xr9 ?xs10 ?xg10 ?xa10 ?xd10 ?xc10 ?xm10 ?xv10 ?xo10 ?xr10 ?xe11 ?xk11 ?xs11 ?xg11 ?xa11 ?xd11 ?xc11 ?xm11 ?xv11 ?xo11 ?xr11 ?xe12 ?xk12 ?xs12 ?xg12 ?xa12 ?xd12 ?xc12 ?xm12 ?xv12 ?xo12 ?xr12 ?xe13 ?xk13 ?xs13 ?xg13 ?xa13 ?xd13 ?xc13 ?xm13 ?xv13 ?xo13 ?xr13 ?xs14 ?xg14 ?xa14 ?xd14 ?xc14 ?xm14 ?xv14 ?xo14 ?xr14 ?xe15 ?xk15 ?xs15 ?xg15 ?xa15 ?xd15 ?xc15 ?xm15 ?xv15 ?xo15 ?xr15 ?xe16 ?xk16 ?xs16 ?xg16 ?xa16 ?xd16 ?xc16 ?xm16 ?xv16 ?xo16 ?xr16 ?xe17 ?xk17 ?xs17 ?xg17 ?xa17 ?xd17 ?xc17 ?xm17 ?xv17 ?xo17 ?xr17 ?xe18 ?xk18 ?xs18 ?xg18 ?xa18 ?xd18 ?xc18 ?xm18 ?xv18 ?xo18 ?xr18 ?isg0 ?ird0 ?ifv0 ?ox3 ?fi3 ?ti3 ?li3 ?ci3 ?ki3 ?no3_0 ?ox8 ?fi8 ?ti8 ?li8 ?ci8 ?ki8 ?no8_0 ?ox9 ?fi9 ?ti9 ?li9 ?ci9 ?ki9 ?no9_0 ?ox10 ?fi10 ?ti10 ?li10 ?ci10 ?ki10 ?no10_0 ?no10_1 ?ox14 ?fi14 ?ti14 ?li14 ?ci14 ?ki14 ?no14_0 ?no14_1 ?xn ?xt
    (case a0 => k_is)
    (case l0 => k_is)
    (case c0 => k_is)
    (case k0 => k_is)
    (case a1 => k_is)
    (case l1 => k_is)
    (case c1 => k_is)
    (case k1 => k_is)
    (case a2 => k_is)
    (case l2 => k_is)
    (case c2 => k_is)
    (case k2 => k_is)
    (case a3 => k_is)
    (case l3 => k_is)
    (case c3 => k_is)
    (case k3 => k_is)
    (case a4 => k_is)
    (case l4 => k_is)
    (case c4 => k_is)
    (case k4 => k_is)
    (case a5 => k_is)
    (case l5 => k_is)
    (case c5 => k_is)
    (case k5 => k_is)
    (case a6 => k_is)
    (case l6 => k_is)
    (case c6 => k_is)
    (case k6 => k_is)
    (case a7 => k_is)
    (case l7 => k_is)
    (case c7 => k_is)
    (case k7 => k_is)
    (case a8 => k_is)
    (case l8 => k_is)
    (case c8 => k_is)
    (case k8 => k_is)
    (case a9 => k_is)
    (case l9 => k_is)
    (case c9 => k_is)
    (case k9 => k_is)
    (case a10 => k_is)
    (case l10 => k_is)
    (case c10 => k_is)
    (case k10 => k_is)
    (case a11 => k_is)
    (case l11 => k_is)
    (case c11 => k_is)
    (case k11 => k_is)
    (case a12 => k_is)
    (case l12 => k_is)
    (case c12 => k_is)
    (case k12 => k_is)
    (case a13 => k_is)
    (case l13 => k_is)
    (case c13 => k_is)
    (case k13 => k_is)
    (case a14 => k_is)
    (case l14 => k_is)
    (case c14 => k_is)
    (case k14 => k_is)
    (case a15 => k_is)
    (case l15 => k_is)
    (case c15 => k_is)
    (case k15 => k_is)
    (case a16 => k_is)
    (case l16 => k_is)
    (case c16 => k_is)
    (case k16 => k_is)
    (case a17 => k_is)
    (case l17 => k_is)
    (case c17 => k_is)
    (case k17 => k_is)
    (case a18 => k_is)
    (case l18 => k_is)
    (case c18 => k_is)
    (case k18 => k_is)
    (case a19 => k_is)
    (case l19 => k_is)
    (case c19 => k_is)
    (case k19 => k_is)
    (case a20 => k_is)
    (case l20 => k_is)
    (case c20 => k_is)
    (case k20 => k_is)
    (case z_ValueError => k_is)
    (case z_abs => k_is)
    (case z_all => k_is)
    (case z_bool => k_is)
    (case z_enumerate => k_is)
    (case z_int => k_is)
    (case z_isinstance => k_is)
    (case z_len => k_is)
    (case z_list => k_is)
    (case z_range => k_is)
    (case z_repr => k_is)
    (case z_str => k_is)
    (case z_tuple => k_is)
    (case gc0 => k_is)
    (case lc0 => k_is)
    (case tc0 => k_is)
    (case nc0 => exact rfl)
    (case bc0 => decide +kernel)
    (case gc1 => k_is)
    (case lc1 => k_is)
    (case tc1 => k_is)
    (case nc1 => exact rfl)
    (case bc1 => decide +kernel)
    (case gc2 => k_is)
    (case lc2 => k_is)
    (case tc2 => k_is)
    (case nc2 => exact rfl)
    (case bc2 => decide +kernel)
    (case gc3 => k_is)
    (case lc3 => k_is)
    (case tc3 => k_is)
    (case nc3 => exact rfl)
    (case bc3 => decide +kernel)
    (case gc4 => k_is)
    (case lc4 => k_is)
    (case tc4 => k_is)
    (case nc4 => exact rfl)
    (case bc4 => decide +kernel)
    (case gc5 => k_is)
    (case lc5 => k_is)
    (case tc5 => k_is)
    (case nc5 => exact rfl)
    (case bc5 => decide +kernel)
    (case gc6 => k_is)
    (case lc6 => k_is)
    (case tc6 => k_is)
    (case nc6 => exact rfl)
    (case bc6 => decide +kernel)
    (case gc7 => k_is)
    (case lc7 => k_is)
    (case tc7 => k_is)
    (case nc7 => exact rfl)
    (case bc7 => decide +kernel)
    (case gc8 => k_is)
    (case lc8 => k_is)
    (case tc8 => k_is)
    (case nc8 => exact rfl)
    (case bc8 => decide +kernel)
    (case gc9 => k_is)
    (case lc9 => k_is)
    (case tc9 => k_is)
    (case nc9 => exact rfl)
    (case bc9 => decide +kernel)
    (case gc10 => k_is)
    (case lc10 => k_is)
    (case tc10 => k_is)
    (case nc10 => exact rfl)
    (case bc10 => decide +kernel)
    (case gc11 => k_is)
    (case lc11 => k_is)
    (case tc11 => k_is)
    (case nc11 => exact rfl)
    (case bc11 => decide +kernel)
    (case gc12 => k_is)
    (case lc12 => k_is)
    (case tc12 => k_is)
    (case nc12 => exact rfl)
    (case bc12 => decide +kernel)
    (case gc13 => k_is)
    (case lc13 => k_is)
    (case tc13 => k_is)
    (case nc13 => exact rfl)
    (case bc13 => decide +kernel)
    (case gc14 => k_is)
    (case lc14 => k_is)
    (case tc14 => k_is)
    (case nc14 => exact rfl)
    (case bc14 => decide +kernel)
    (case gc15 => k_is)
    (case lc15 => k_is)
    (case tc15 => k_is)
    (case nc15 => exact rfl)
    (case bc15 => decide +kernel)
    (case gc16 => k_is)
    (case lc16 => k_is)
    (case tc16 => k_is)
    (case nc16 => exact rfl)
    (case bc16 => decide +kernel)
    (case gc17 => k_is)
    (case lc17 => k_is)
    (case tc17 => k_is)
    (case nc17 => exact rfl)
    (case bc17 => decide +kernel)
    (case gc18 => k_is)
    (case lc18 => k_is)
    (case tc18 => k_is)
    (case nc18 => exact rfl)
    (case bc18 => decide +kernel)
    (case xe1 => k_exc)
    (case xk1 => k_is)
    (case xs1 => k_is)
    (case xg1 => k_is)
    (case xa1 => k_is)
    (case xd1 => k_is)
    (case xc1 => k_is)
    (case xm1 => k_is)
    (case xv1 => decide +kernel)
    (case xo1 => decide +kernel)
    (case xr1 => decide +kernel)
    (case xe2 => k_exc)
    (case xk2 => k_is)
    (case xs2 => k_is)
    (case xg2 => k_is)
    (case xa2 => k_is)
    (case xd2 => k_is)
    (case xc2 => k_is)
    (case xm2 => k_is)
    (case xv2 => decide +kernel)
    (case xo2 => decide +kernel)
    (case xr2 => decide +kernel)
    (case xs3 => k_is)
    (case xg3 => k_is)
    (case xa3 => k_is)
    (case xd3 => k_is)
    (case xc3 => k_is)
    (case xm3 => k_is)
    (case xv3 => decide +kernel)
    (case xo3 => decide +kernel)
    (case xr3 => decide +kernel)
    (case xe4 => k_exc)
    (case xk4 => k_is)
    (case xs4 => k_is)
    (case xg4 => k_is)
    (case xa4 => k_is)
    (case xd4 => k_is)
    (case xc4 => k_is)
    (case xm4 => k_is)
    (case xv4 => decide +kernel)
    (case xo4 => decide +kernel)
    (case xr4 => decide +kernel)
    (case xe5 => k_exc)
    (case xk5 => k_is)
    (case xs5 => k_is)
    (case xg5 => k_is)
    (case xa5 => k_is)
    (case xd5 => k_is)
    (case xc5 => k_is)
    (case xm5 => k_is)
    (case xv5 => decide +kernel)
    (case xo5 => decide +kernel)
    (case xr5 => decide +kernel)
    (case xe6 => k_exc)
    (case xk6 => k_is)
    (case xs6 => k_is)
    (case xg6 => k_is)
    (case xa6 => k_is)
    (case xd6 => k_is)
    (case xc6 => k_is)
    (case xm6 => k_is)
    (case xv6 => decide +kernel)
    (case xo6 => decide +kernel)
    (case xr6 => decide +kernel)
    (case xe7 => k_exc)
    (case xk7 => k_is)
    (case xs7 => k_is)
    (case xg7 => k_is)
    (case xa7 => k_is)
    (case xd7 => k_is)
    (case xc7 => k_is)
    (case xm7 => k_is)
    (case xv7 => decide +kernel)
    (case xo7 => decide +kernel)
    (case xr7 => decide +kernel)
    (case xs8 => k_is)
    (case xg8 => k_is)
    (case xa8 => k_is)
    (case xd8 => k_is)
    (case xc8 => k_is)
    (case xm8 => k_is)
    (case xv8 => decide +kernel)
    (case xo8 => decide +kernel)
    (case xr8 => decide +kernel)
    (case xs9 => k_is)
    (case xg9 => k_is)
    (case xa9 => k_is)
    (case xd9 => k_is)
    (case xc9 => k_is)
    (case xm9 => k_is)
    (case xv9 => decide +kernel)
    (case xo9 => decide +kernel)
    (case xr9 => decide +kernel)
    (case xs10 => k_is)
    (case xg10 => k_is)
    (case xa10 => k_is)
    (case xd10 => k_is)
    (case xc10 => k_is)
    (case xm10 => k_is)
    (case xv10 => decide +kernel)
    (case xo10 => decide +kernel)
    (case xr10 => decide +kernel)
    (case xe11 => k_exc)
    (case xk11 => k_is)
    (case xs11 => k_is)
    (case xg11 => k_is)
    (case xa11 => k_is)
    (case xd11 => k_is)
    (case xc11 => k_is)
    (case xm11 => k_is)
    (case xv11 => decide +kernel)
    (case xo11 => decide +kernel)
    (case xr11 => decide +kernel)
    (case xe12 => k_exc)
    (case xk12 => k_is)
    (case xs12 => k_is)
    (case xg12 => k_is)
    (case xa12 => k_is)
    (case xd12 => k_is)
    (case xc12 => k_is)
    (case xm12 => k_is)
    (case xv12 => decide +kernel)
    (case xo12 => decide +kernel)
    (case xr12 => decide +kernel)
    (case xe13 => k_exc)
    (case xk13 => k_is)
    (case xs13 => k_is)
    (case xg13 => k_is)
    (case xa13 => k_is)
    (case xd13 => k_is)
    (case xc13 => k_is)
    (case xm13 => k_is)
    (case xv13 => decide +kernel)
    (case xo13 => decide +kernel)
    (case xr13 => decide +kernel)
    (case xs14 => k_is)
    (case xg14 => k_is)
    (case xa14 => k_is)
    (case xd14 => k_is)
    (case xc14 => k_is)
    (case xm14 => k_is)
    (case xv14 => decide +kernel)
    (case xo14 => decide +kernel)
    (case xr14 => decide +kernel)
    (case xe15 => k_exc)
    (case xk15 => k_is)
    (case xs15 => k_is)
    (case xg15 => k_is)
    (case xa15 => k_is)
    (case xd15 => k_is)
    (case xc15 => k_is)
    (case xm15 => k_is)
    (case xv15 => decide +kernel)
    (case xo15 => decide +kernel)
    (case xr15 => decide +kernel)
    (case xe16 => k_exc)
    (case xk16 => k_is)
    (case xs16 => k_is)
    (case xg16 => k_is)
    (case xa16 => k_is)
    (case xd16 => k_is)
    (case xc16 => k_is)
    (case xm16 => k_is)
    (case xv16 => decide +kernel)
    (case xo16 => decide +kernel)
    (case xr16 => decide +kernel)
    (case xe17 => k_exc)
    (case xk17 => k_is)
    (case xs17 => k_is)
    (case xg17 => k_is)
    (case xa17 => k_is)
    (case xd17 => k_is)
    (case xc17 => k_is)
    (case xm17 => k_is)
    (case xv17 => decide +kernel)
    (case xo17 => decide +kernel)
    (case xr17 => decide +kernel)
    (case xe18 => k_exc)
    (case xk18 => k_is)
    (case xs18 => k_is)
    (case xg18 => k_is)
    (case xa18 => k_is)
    (case xd18 => k_is)
    (case xc18 => k_is)
    (case xm18 => k_is)
    (case xv18 => decide +kernel)
    (case xo18 => decide +kernel)
    (case xr18 => decide +kernel)
    (case isg0 => k_is)
    (case ird0 => first | k_is | kernel_rfl)
    (case ifv0 => first | k_is | kernel_rfl)
    (case ox3 => refine' Sm.OexC.of ?q1 ?q2 ?q3 ?q4 ?q5 ?q6; (case q1 => kx_is); (case q2 => k_is); (case q3 => k_is); (case q4 => k_is); (case q5 => k_is); (case q6 => k_is))
    (case fi3 => k_is)
    (case ti3 => k_is)
    (case li3 => k_is)
    (case ci3 => k_is)
    (case ki3 => k_is)
    (case no3_0 => k_is)
    (case ox8 => refine' Sm.OexC.of ?q1 ?q2 ?q3 ?q4 ?q5 ?q6; (case q1 => kx_is); (case q2 => k_is); (case q3 => k_is); (case q4 => k_is); (case q5 => k_is); (case q6 => k_is))
    (case fi8 => k_is)
    (case ti8 => k_is)
    (case li8 => k_is)
    (case ci8 => k_is)
    (case ki8 => k_is)
    (case no8_0 => k_is)
    (case ox9 => refine' Sm.OexC.of ?q1 ?q2 ?q3 ?q4 ?q5 ?q6; (case q1 => kx_is); (case q2 => k_is); (case q3 => k_is); (case q4 => k_is); (case q5 => k_is); (case q6 => k_is))
    (case fi9 => k_is)
    (case ti9 => k_is)
    (case li9 => k_is)
    (case ci9 => k_is)
    (case ki9 => k_is)
    (case no9_0 => k_is)
    (case ox10 => refine' Sm.OexC.of ?q1 ?q2 ?q3 ?q4 ?q5 ?q6; (case q1 => kx_is); (case q2 => k_is); (case q3 => k_is); (case q4 => k_is); (case q5 => k_is); (case q6 => k_is))
    (case fi10 => k_is)
    (case ti10 => k_is)
    (case li10 => k_is)
    (case ci10 => k_is)
    (case ki10 => k_is)
    (case no10_0 => k_is)
    (case no10_1 => k_is)
    (case ox14 => refine' Sm.OexC.of ?q1 ?q2 ?q3 ?q4 ?q5 ?q6; (case q1 => kx_is); (case q2 => k_is); (case q3 => k_is); (case q4 => k_is); (case q5 => k_is); (case q6 => k_is))
    (case fi14 => k_is)
    (case ti14 => k_is)
    (case li14 => k_is)
    (case ci14 => k_is)
    (case ki14 => k_is)
    (case no14_0 => k_is)
    (case no14_1 => k_is)
    (case xn => k_is)
    (case xt => k_is)
